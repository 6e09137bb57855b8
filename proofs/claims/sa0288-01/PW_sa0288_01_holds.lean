import PyProof.Rows.All
import Wide.All
import OpenK.AllK
import Wide.FinOn
import Lean
import PySem.Challenge.RW_sa0288_01
set_option Elab.async false
set_option maxRecDepth 100000
set_option linter.all false
set_option hygiene false
local macro_rules
|`(def $i:declId $s:optDeclSig $v:declVal)=>`(noncomputable def $i:declId $s:optDeclSig $v:declVal)
|`(abbrev $i:declId $s:optDeclSig $v:declVal)=>`(noncomputable abbrev $i:declId $s:optDeclSig $v:declVal)
local macro_rules
|`($x\$y)=>`($x=some $y)
|`($x^$y:ident)=>`(($x).trans $y)
|`($x^$y:char)=>`(($x).trans $y)
|`($x^($y))=>`(($x).trans ($y))
namespace Mine
abbrev Xm:=@List.length_map
abbrev Xn:=@Option.some.inj
abbrev Xo:=@List.mem_append_left
abbrev Xp:=@Nat.le_trans
abbrev Xq:=@congrArg
abbrev Xr:=@List.length_append
abbrev Xs:=@Nat.lt_of_le_of_lt
abbrev Xt:=@List.mem_of_getElem?
abbrev Xu:=@Int.le_of_eq
abbrev Xv:=@List.getElem?_eq_some_iff
abbrev Xw:=@List.mem_append_right
abbrev Xx:=@List.mem_map
abbrev Xy:=@Int.toNat_of_nonneg
abbrev Xz:=@List.getElem?_eq_getElem
abbrev XA:=@of_decide_eq_true
abbrev XB:=@Nat.le_of_eq
abbrev XC:=@List.mem_append
abbrev XD:=@PySem.wpAny_bind
abbrev XE:=@List.mem_cons
abbrev XF:=@List.map_append
abbrev XG:=@List.mem_filter
abbrev XH:=@List.mem_singleton
abbrev XI:=@decide_eq_true
abbrev XJ:=@Nat.le_of_lt
abbrev XK:=@Bool.and_eq_true_iff
abbrev XM:=@List.mem_cons_of_mem
abbrev XN:=@Nat.lt_trans
abbrev XO:=@List.getD_eq_getElem?_getD
abbrev XP:=@List.length_filter_le
abbrev XQ:=@List.append_nil
abbrev XR:=@if_pos
abbrev XS:=@Nat.le_refl
abbrev XT:=@PySem.wpAny_pure
abbrev XU:=@Int.self_le_toNat
abbrev XW:=@if_neg
abbrev XX:=@List.mem_flatMap
abbrev XY:=@decide_eq_false
abbrev XZ:=@List.flatMap_append
abbrev X0:=@List.nodup_cons
abbrev X1:=@List.length_take_le'
abbrev X2:=@List.mem_cons_self
abbrev X3:=@List.getElem?_map
abbrev X4:=@List.append_assoc
abbrev X5:=@List.map_map
abbrev X6:=@List.take_length
abbrev X7:=@PySem.Heap.get?_push_of_some
abbrev X9:=@Int.le_refl
abbrev X_:=@Option.isSome_iff_exists
abbrev Ya:=@Nat.le_add_right
abbrev Yb:=@Nat.sub_add_cancel
abbrev Yc:=@Int.not_lt
abbrev Yd:=@List.map_cons
abbrev Ye:=@Nat.lt_of_lt_of_le
abbrev Yf:=@List.flatMap_cons
abbrev Yg:=@Nat.le_of_not_lt
abbrev Yh:=@List.not_mem_nil
abbrev Yi:=@List.length_cons
abbrev Yj:=@List.flatten_cons
abbrev Yk:=@congrFun
abbrev Yl:=@Int.fmod_nonneg_of_pos
abbrev Ym:=@PySem.W.piece_app
abbrev Yn:=@List.nodup_append
abbrev Yo:=@Int.lt_of_lt_of_le
abbrev Yp:=@List.getElem?_append_left
abbrev Yq:=@Nat.le_antisymm
abbrev Yr:=@Int.fmod_lt_of_pos
abbrev Ys:=@List.length_singleton
abbrev Yt:=@List.map_congr_left
abbrev Yu:=@PySem.Heap.get?_push_size
abbrev Yv:=@List.drop_eq_getElem_cons
abbrev Yw:=@Int.le_antisymm
abbrev Yx:=@Bool.and_eq_true
abbrev Yy:=@Bool.false_ne_true
abbrev Yz:=@Int.ne_of_gt
abbrev YA:=@Nat.lt_succ_self
abbrev YB:=@List.filter_cons
abbrev YC:=@List.getElem?_append_right
abbrev YD:=@Nat.add_le_add
abbrev YE:=@List.count_append
abbrev YF:=@Classical.byContradiction
abbrev YG:=@Int.natCast_nonneg
abbrev YH:=@Nat.le_add_left
abbrev YI:=@List.all_eq_true
abbrev YJ:=@PySem.wpAny_holding
abbrev YL:=@Array.length_toList
abbrev YM:=@Nat.eq_of_beq_eq_true
abbrev YN:=@List.take_append_drop
abbrev YO:=@Int.le_add_of_nonneg_right
abbrev YP:=@Nat.add_le_add_right
abbrev YQ:=@Nat.not_lt_zero
abbrev YR:=@List.lookup_cons
abbrev YS:=@List.filter_congr
abbrev YT:=@decide_eq_true_eq
abbrev YU:=@List.nodup_nil
abbrev YV:=@PySem.wpAny_mono
abbrev YW:=@List.getElem?_of_mem
abbrev YX:=@Prod.mk.inj
abbrev YY:=@List.perm_append_comm_assoc
abbrev YZ:=@Int.le_trans
abbrev Y0:=@Nat.succ_pos
abbrev Y1:=@List.getElem?_set
abbrev Y2:=@PySem.wpAny_truthy_bool
abbrev Y3:=@List.flatten_append
abbrev Y4:=@List.length_take
abbrev Y5:=@List.mem_flatten
abbrev Y6:=@Int.mul_ediv_self_le
abbrev Y7:=@Nat.lt_add_of_pos_right
abbrev Y8:=@Int.add_zero
abbrev Y9:=@Nat.ne_of_lt
abbrev Y_:=@List.find?_cons_of_pos
abbrev Za:=@List.find?_cons_of_neg
abbrev Zb:=@PySem.W.Fast.te14364793385576792824
abbrev Zc:=@List.filter_append
abbrev Zd:=@Array.getElem?_toList
abbrev Ze:=@Bool.eq_iff_iff
abbrev Zf:=@Option.map_some
abbrev Zg:=@Nat.zero_add
abbrev Zh:=@List.ext_getElem?
abbrev Zi:=@Nat.zero_le
abbrev Zj:=@Nat.le_succ
abbrev Zk:=@List.sublist_append_left
abbrev Zl:=@Int.lt_mul_ediv_self_add
abbrev Zm:=@List.map_take
abbrev Zn:=@List.getElem_mem
abbrev Zo:=@List.eq_nil_of_length_eq_zero
abbrev Zp:=@Int.zero_add
abbrev Zq:=@List.getElem?_set_self
abbrev Zr:=@Option.map_eq_some_iff
abbrev Zs:=@List.cons.injEq
abbrev Zt:=@List.find?_cons
abbrev Zu:=@List.length_set
abbrev Zv:=@Nat.min_eq_left
abbrev Zw:=@PySem.wpAny_specialOf
abbrev Zx:=@Int.add_assoc
abbrev Zy:=@LawfulBEq.eq_of_beq
abbrev Zz:=@List.getElem?_eq_none
abbrev ZA:=@List.Sublist.refl
abbrev ZC:=@List.mem_range
abbrev ZD:=@Int.fdiv_eq_ediv_of_nonneg
abbrev ZG:=@List.mem_of_mem_take
abbrev ZH:=@List.map_set
abbrev ZI:=@decide_eq_decide
abbrev ZJ:=@List.flatMap_map
abbrev ZK:=@List.isEmpty_iff
abbrev ZL:=@List.mem_of_find?_eq_some
abbrev ZM:=@List.mem_or_eq_of_mem_set
abbrev ZN:=@List.sublist_append_right
abbrev ZO:=@Nat.add_lt_add_left
abbrev ZP:=@or_false
abbrev ZQ:=@List.any_cons
abbrev ZR:=@List.Sublist.append_left
abbrev ZS:=@Int.neg_one_mul
abbrev ZT:=@Int.sub_eq_add_neg
abbrev ZU:=@Bool.false_eq_true
abbrev ZV:=@Int.lt_of_le_of_lt
abbrev ZW:=@beq_iff_eq
abbrev ZX:=@PySem.wpAny_Call_Name_kw
abbrev ZY:=@Int.toNat_lt
abbrev ZZ:=@List.take_add_one
abbrev Z0:=@decide_false
abbrev Z1:=@Int.le_of_lt
abbrev Z2:=@List.filter_eq_nil_iff
abbrev Z3:=@Function.comp_def
abbrev Z4:=@Option.isSome_map
abbrev Z5:=@Nat.sub_self
abbrev Z6:=@PySem.F.slot_tuple_hash
abbrev Z7:=@List.eraseIdx_eq_take_drop_succ
abbrev Z8:=@List.set_append_right
abbrev Z9:=@beq_self_eq_true
abbrev Z_:=@Nat.succ_lt_succ
abbrev aad:=@List.drop_length
abbrev aae:=@List.flatMap_nil
abbrev aaf:=@PySem.Around.in1_units
abbrev aag:=@Nat.succ_le_succ
abbrev aah:=@LawfulMonad.pure_bind
abbrev aai:=@List.cons.inj
abbrev aaj:=@List.getElem?_set_ne
abbrev aak:=@Nat.lt.base
abbrev aal:=@List.take_append_of_le_length
abbrev aam:=@PySem.W.Fast.sEq_iff
abbrev aan:=@PySem.wpAny_letTemporaryGo
abbrev aao:=@List.getElem_of_mem
abbrev aap:=@List.filter_sublist
abbrev aaq:=@Nat.add_le_add_left
abbrev aar:=@Nat.mul_le_mul_left
abbrev aas:=@List.filterMap_cons
abbrev aat:=@Nat.succ_add
abbrev aau:=@Nat.add_comm
abbrev aav:=@Bool.or_true
abbrev aaw:=@PySem.Heap.lt_size
abbrev aax:=@if_false
abbrev aay:=@List.set_cons_zero
abbrev aaz:=@Nat.not_lt
abbrev aaA:=@Nat.sub_le
abbrev aaB:=@Int.toNat_le_toNat
abbrev aaC:=@PySem.intKind_is
abbrev aaD:=@PySem.slot_dict_contains
abbrev aaE:=@Bool.false_xor
abbrev aaF:=@List.pairwise_iff_getElem
abbrev aaG:=@Array.getElem?_eq_getElem
abbrev aaH:=@Int.add_left_comm
abbrev aaI:=@Int.mul_add
abbrev aaJ:=@List.find?_isSome
abbrev aaK:=@List.pairwise_map
abbrev aaL:=@List.find?_append
abbrev aaM:=@Nat.le_succ_of_le
abbrev aaN:=@Array.toList_push
abbrev aaO:=@PySem.getMethod_builtin
abbrev aaP:=@PySem.wpAny_assign_Name
abbrev aaQ:=@Nat.add_assoc
abbrev aaR:=@Int.toNat_lt'
abbrev aaS:=@Bool.true_xor
abbrev aaT:=@Nat.succ_add_eq_add_succ
abbrev aaU:=@Nat.min_eq_right
abbrev aaV:=@List.filter_append_perm
abbrev aaW:=@List.pairwise_singleton
abbrev aaX:=@List.mem_singleton_self
abbrev aaY:=@Array.any_toList
abbrev aaZ:=@PySem.F.plainAttrs_list
abbrev aa0:=@Int.mul_zero
abbrev aa1:=@List.map_nil
abbrev aa2:=@List.take_of_length_le
abbrev aa3:=@List.drop_of_length_le
abbrev aa4:=@Nat.le_of_succ_le_succ
abbrev aa5:=@List.find?_some
abbrev aa6:=@List.nil_append
abbrev aa7:=@List.forIn_cons
abbrev aa8:=@PySem.wpAny_execs_nil
abbrev aa9:=@List.of_mem_zip
abbrev aa_:=@Int.emod_add_mul_ediv
abbrev aba:=@List.Perm.append_left
abbrev abb:=@Array.toList_eraseIdx
abbrev abc:=@Int.add_le_add
abbrev abd:=@Nat.lt_one_iff
abbrev abe:=@Bool.false_or
abbrev abf:=@Prod.mk.injEq
abbrev abg:=@Nat.blt_eq
abbrev abh:=@Int.zero_mul
abbrev abi:=@Nat.ne_of_gt
abbrev abj:=@Nat.beq_refl
abbrev abk:=@if_true
abbrev abl:=@Nat.succ.inj
end Mine
namespace Mine
inductive Le where
 |v (i:Nat)
 |k (n:Nat)
 |a (x y:Le)
 |m (n:Nat) (x:Le)
inductive Li where
 |n (e:Le)
 |v (i:Nat)
 |k (z:Int)
 |a (x y:Li)
 |s (x y:Li)
 |m (z:Int) (x:Li)
def xh{α:Type}(d:α):List α->Nat->α
 |[],_=>d
 |x::_,0=>x
 |_::l,i+1=>xh d l i
def Le.ev(σ:List Nat):Le->Nat
 |.v i=>xh 0 σ i
 |.k n=>n
 |.a x y=>x.ev σ+y.ev σ
 |.m n x=>n*x.ev σ
def Li.ev(σ:List Nat)(τ:List Int):Li->Int
 |.n e=>((e.ev σ:Nat):Int)
 |.v i=>xh 0 τ i
 |.k j=>j
 |.a x y=>x.ev σ τ+y.ev σ τ
 |.s x y=>x.ev σ τ - y.ev σ τ
 |.m j x=>j*x.ev σ τ
def pA:List Int->List Int->List Int
 |[],y=>y
 |x,[]=>x
 |a::x,b::y=>(a+b)::pA x y
def pM(n:Int):List Int->List Int
 |[]=>[]
 |a::x=>n*a::pM n x
def pV:Nat->List Int
 |0=>[1]
 |n+1=>0::pV n
def dN:List Int->List Nat->Int
 |a::x,b::y=>a*(b:Int)+dN x y
 |_,_=>0
def dI:List Int->List Int->Int
 |a::x,b::y=>a*b+dI x y
 |_,_=>0
structure Po where
 k:Int
 x:List Int
 y:List Int
def Po.a(p q:Po):Po:=⟨p.k+q.k,pA p.x q.x,pA p.y q.y⟩
def Po.m(n:Int)(p:Po):Po:=⟨n*p.k,pM n p.x,pM n p.y⟩
def Po.ev(σ:List Nat)(τ:List Int)(p:Po):Int:=p.k+(dN p.x σ+dI p.y τ)
def Le.nf:Le->Po
 |.v i=>⟨0,pV i,[]⟩
 |.k n=>⟨n,[],[]⟩
 |.a x y=>x.nf.a y.nf
 |.m n x=>x.nf.m n
def Li.nf:Li->Po
 |.n e=>e.nf
 |.v i=>⟨0,[],pV i⟩
 |.k j=>⟨j,[],[]⟩
 |.a x y=>x.nf.a y.nf
 |.s x y=>x.nf.a (y.nf.m (-1))
 |.m j x=>x.nf.m j
def Po.ok(p:Po):Bool:=decide (0<=p.k)&&(p.x.all (λ a=>decide (0<=a))&&p.y.all (λ a=>decide (a=0)))
theorem OY(x:List Int):∀(y:List Int) (z:List Nat),dN (pA x y) z=dN x z+dN y z:=by
 induction x with
 |nil=>exact λ y z=>(Zp _).symm
 |cons a x ih=>exact λ y z=>match y,z with
  |[],_=>(Y8 _).symm
  |b::y,[]=>rfl
  |b::y,c::z=>by show(a+b)*c+dN (pA x y) z=a*c+dN x z+(b*c+dN y z);rw[ih,Int.add_mul,Zx,Zx,aaH (b*_)]
theorem OZ(x:List Int):∀(y z:List Int),dI (pA x y) z=dI x z+dI y z:=by
 induction x with
 |nil=>exact λ y z=>(Zp _).symm
 |cons a x ih=>exact λ y z=>match y,z with
  |[],_=>(Y8 _).symm
  |b::y,[]=>rfl
  |b::y,c::z=>by show(a+b)*c+dI (pA x y) z=a*c+dI x z+(b*c+dI y z);rw[ih,Int.add_mul,Zx,Zx,aaH (b*_)]
theorem O0(n:Int)(x:List Int):∀z:List Nat,dN (pM n x) z=n*dN x z:=by
 induction x with
 |nil=>exact λ z=>(aa0 n).symm
 |cons a x ih=>exact λ z=>match z with
  |[]=>(aa0 n).symm
  |c::z=>by show n*a*c+dN (pM n x) z=n*(a*c+dN x z);rw[ih,aaI,Int.mul_assoc]
theorem O1(n:Int)(x:List Int):∀z:List Int,dI (pM n x) z=n*dI x z:=by
 induction x with
 |nil=>exact λ z=>(aa0 n).symm
 |cons a x ih=>exact λ z=>match z with
  |[]=>(aa0 n).symm
  |c::z=>by show n*a*c+dI (pM n x) z=n*(a*c+dI x z);rw[ih,aaI,Int.mul_assoc]
theorem O2(i:Nat):∀z:List Nat,dN (pV i) z=((xh 0 z i:Nat):Int):=by
 induction i with
 |zero=>exact λ z=>match z with
  |[]=>rfl
  |c::z=>by show 1*(c:Int)+0=c;rw[Int.one_mul,Y8]
 |succ i ih=>exact λ z=>match z with
  |[]=>rfl
  |c::z=>by show 0*(c:Int)+dN (pV i) z=_;rw[ih,abh,Zp];rfl
theorem O3(i:Nat):∀z:List Int,dI (pV i) z=xh 0 z i:=by
 induction i with
 |zero=>exact λ z=>match z with
  |[]=>rfl
  |c::z=>by show 1*c+0=c;rw[Int.one_mul,Y8]
 |succ i ih=>exact λ z=>match z with
  |[]=>rfl
  |c::z=>by show 0*c+dI (pV i) z=_;rw[ih,abh,Zp];rfl
theorem i4(a b c d:Int):a+b+(c+d)=a+c+(b+d):=by rw[Zx,aaH b,<-Zx]
section
variable{σ:List Nat}{τ:List Int}
theorem Po.ju(p q:Po):(p.a q).ev σ τ=p.ev σ τ+q.ev σ τ:=by unfold Po.ev Po.a;rw[OY,OZ];exact(Xq _ (i4 _ _ _ _))^(i4 _ _ _ _)
theorem Po.jv(n:Int)(p:Po):(p.m n).ev σ τ=n*p.ev σ τ:=by unfold Po.ev Po.m;rw[O0,O1];dsimp only;rw[aaI,aaI]
theorem Le.ž(e:Le):((e.ev σ:Nat):Int)=e.nf.ev σ τ:=by
 induction e with
 |v i=>exact((Zp _)^((Y8 _)^(O2 _ _))).symm
 |k n=>exact(Y8 _).symm
 |a x y hx hy=>exact(congr (Xq _ hx) hy).trans (Po.ju _ _).symm
 |m n x hx=>exact(Xq ((n:Int)*·) hx).trans (Po.jv _ _).symm
theorem Li.ž(e:Li):e.ev σ τ=e.nf.ev σ τ:=by
 induction e with
 |n e=>exact e.ž
 |v i=>exact((Zp _)^((Zp _)^(O3 _ _))).symm
 |k n=>exact(Y8 _).symm
 |a x y hx hy=>exact(congr (Xq _ hx) hy).trans (Po.ju _ _).symm
 |s x y hx hy=>exact(congr (Xq _ hx) hy)^((ZT.trans (Xq _ (ZS _▸(Po.jv _ _).symm))).trans (Po.ju _ _).symm)
 |m n x hx=>exact(Xq _ hx).trans (Po.jv _ _).symm
theorem Km(x:List Int):∀σ:List Nat,(x.all λ a=>decide (0<=a))=true->0<=dN x σ:=by
 induction x with
 |nil=>exact λ _ _=>X9 0
 |cons a x ih=>exact λ σ h=>match σ with
  |[]=>X9 0
  |c::σ=>have h:=XK.mp h;Int.add_nonneg (Int.mul_nonneg (XA h.1) (YG c)) (ih σ h.2)
theorem Ko(x:List Int):∀τ:List Int,(x.all λ a=>decide (a=0))=true->dI x τ=0:=by
 induction x with
 |nil=>exact λ _ _=>rfl
 |cons a x ih=>exact λ σ h=>match σ with
  |[]=>rfl
  |c::σ=>by have h:=XK.mp h;show a*c+dI x σ=0;rw[XA h.1,abh,ih σ h.2];rfl
theorem Po.xi{p:Po}(h:p.ok=true):0<=p.ev σ τ:=by have h:=XK.mp h;have g:=XK.mp h.2;unfold Po.ev;rw[Ko _ _ g.2,Y8];exact Int.add_nonneg (XA h.1) (Km _ _ g.1)
end
inductive Ft where
 |e
 |c (n:Nat) (x y:Le) (r:Ft)
 |i (n:Nat) (x y:Li) (r:Ft)
def Ft.H(σ:List Nat)(τ:List Int)(G:Prop):Ft->Prop
 |e=>G
 |c _ x y r=>x.ev σ<=y.ev σ->r.H σ τ G
 |i _ x y r=>x.ev σ τ<=y.ev σ τ->r.H σ τ G
def Ft.D:Ft->Po
 |e=>⟨0,[],[]⟩
 |c n x y r=>((x.nf.a (y.nf.m (-1))).m n).a r.D
 |i n x y r=>((x.nf.a (y.nf.m (-1))).m n).a r.D
theorem sX{a b:Int}(h:a<=b):a+-1*b<=0:=by rw[ZS,<-ZT];exact Int.sub_nonpos_of_le h
theorem sY{a b:Int}(n:Nat)(h:a+-1*b<=0){c:Int}(g:c<=0):(n:Int)*(a+-1*b)+c<=0:=abc (Int.mul_nonpos_of_nonneg_of_nonpos (YG n) h) g
theorem Ft.go(σ:List Nat)(τ:List Int)(G:Prop)(f:Ft):(f.D.ev σ τ<=0->G)->f.H σ τ G:=by
 induction f with
 |e=>exact λ g=>g (X9 0)
 |c
  n x y r ih=>exact λ g q=>ih λ z=>g (by
  unfold Ft.D;rw[Po.ju,Po.jv,Po.ju,Po.jv,<-Le.ž,<-Le.ž];exact sY n (sX (Int.ofNat_le.mpr q)) z)
 |i
  n x y r ih=>exact λ g q=>ih λ z=>g (by
  unfold Ft.D;rw[Po.ju,Po.jv,Po.ju,Po.jv,<-Li.ž,<-Li.ž];exact sY n (sX q) z)
def ck(f:Ft)(n:Nat)(x y:Po):Bool:=(((y.a (x.m (-1))).m (n+1)).a (Po.a ⟨n,[],[]⟩ f.D)).ok
theorem xj{σ:List Nat}{τ:List Int}{f:Ft}{n:Nat}{x y:Po}(h:ck f n x y=true)(z:f.D.ev σ τ<=0):x.ev σ τ<=y.ev σ τ:=by
 have g:=Po.xi (σ:=σ) (τ:=τ) h;rw[Po.ju,Po.jv,Po.ju,Po.jv,Po.ju]at g;have e:Po.ev σ τ ⟨n,[],[]⟩=n:=Y8 _;rw[e]at g;refine Yc.mp λ q=>?_
 have q:y.ev σ τ+-1*x.ev σ τ<=-1:=by rw[ZS,<-ZT];exact Int.le_sub_one_of_lt (Int.sub_neg_of_lt q)
 have q:=abc (Int.mul_le_mul_of_nonneg_left q (YG (n+1))) (abc (X9 (n:Int)) z);have q:=YZ g q;rw[Int.mul_neg,Int.mul_one,Y8]at q
 have e:-((n+1:Nat):Int)+n=-1:=by show -((n:Int)+1)+n=-1;rw[Int.neg_add,Int.add_right_comm,Int.add_left_neg,Zp]
 rw[e]at q;exact absurd q (by decide)
theorem ln(σ:List Nat)(τ:List Int)(f:Ft)(n:Nat)(x y:Le)(h:ck f n x.nf y.nf=true):f.H σ τ (x.ev σ<=y.ev σ):=f.go σ τ _ λ z=>Int.ofNat_le.mp (by rw[x.ž (τ:=τ),y.ž (τ:=τ)];exact xj h z)
theorem li(σ:List Nat)(τ:List Int)(f:Ft)(n:Nat)(x y:Li)(h:ck f n x.nf y.nf=true):f.H σ τ (x.ev σ τ<=y.ev σ τ):=f.go σ τ _ λ z=>by rw[x.ž,y.ž];exact xj h z
theorem lL(σ:List Nat)(τ:List Int)(f:Ft)(h:ck f 0 ⟨1,[],[]⟩ ⟨0,[],[]⟩=true):f.H σ τ False:=f.go σ τ _ λ z=>absurd (xj h z) (by decide:¬(1:Int)+(0+0)<=0+(0+0))
def Po.eq(p:Po):Bool:=p.ok&&(p.m (-1)).ok
theorem ES{σ:List Nat}{τ:List Int}{p q:Po}(h:(p.a (q.m (-1))).eq=true):p.ev σ τ=q.ev σ τ:=by have h:=XK.mp h;have a:=Po.xi (σ:=σ) (τ:=τ) h.1;have b:=Po.xi (σ:=σ) (τ:=τ) h.2;rw[Po.jv,ZS]at b;have e:=Yw (Int.neg_nonneg.mp b) a;rw[Po.ju,Po.jv,ZS,<-ZT]at e;exact Int.sub_eq_zero.mp e
theorem nq(σ:List Nat)(τ:List Int)(x y:Le)(h:(x.nf.a (y.nf.m (-1))).eq=true):x.ev σ=y.ev σ:=Int.ofNat_inj.mp (by rw[x.ž (τ:=τ),y.ž (τ:=τ)];exact ES h)
theorem iq(σ:List Nat)(τ:List Int)(x y:Li)(h:(x.nf.a (y.nf.m (-1))).eq=true):x.ev σ τ=y.ev σ τ:=by rw[x.ž,y.ž];exact ES h
theorem Tb{k:Int}(h:0<=k)(g:k<2):k=0\/k=1:=Xy h▸(by decide:∀n:Fin 2,((n:Nat):Int)=0\/((n:Nat):Int)=1) ⟨k.toNat,(ZY h).mpr g⟩
theorem Kp{k:Int}(h:0<=k)(g:k<4):k=0\/k=1\/k=2\/k=3:=Xy h▸(by decide:∀n:Fin 4,((n:Nat):Int)=0\/((n:Nat):Int)=1\/((n:Nat):Int)=2\/((n:Nat):Int)=3) ⟨k.toNat,(ZY h).mpr g⟩
theorem WZ{k:Int}(h:0<=k)(g:k<5):k=0\/k=1\/k=2\/k=3\/k=4:=Xy h▸(by decide:∀n:Fin 5,((n:Nat):Int)=0\/((n:Nat):Int)=1\/((n:Nat):Int)=2\/((n:Nat):Int)=3\/((n:Nat):Int)=4) ⟨k.toNat,(ZY h).mpr g⟩
theorem Tc{k:Int}(h:0<=k)(g:k<7):k=0\/k=1\/k=2\/k=3\/k=4\/k=5\/k=6:=Xy h▸(by decide:∀n:Fin 7,((n:Nat):Int)=0\/((n:Nat):Int)=1\/((n:Nat):Int)=2\/((n:Nat):Int)=3\/((n:Nat):Int)=4\/((n:Nat):Int)=5\/((n:Nat):Int)=6) ⟨k.toNat,(ZY h).mpr g⟩
theorem O4{k:Int}(h:0<=k)(g:k<12):k=0\/k=1\/k=2\/k=3\/k=4\/k=5\/k=6\/k=7\/k=8\/k=9\/k=10\/k=11:=Xy h▸(by decide:∀n:Fin 12,((n:Nat):Int)=0\/((n:Nat):Int)=1\/((n:Nat):Int)=2\/((n:Nat):Int)=3\/((n:Nat):Int)=4\/((n:Nat):Int)=5\/((n:Nat):Int)=6\/((n:Nat):Int)=7\/((n:Nat):Int)=8\/((n:Nat):Int)=9\/((n:Nat):Int)=10\/((n:Nat):Int)=11) ⟨k.toNat,(ZY h).mpr g⟩
theorem W3{k:Nat}(g:k<2):k=0\/k=1:=(by decide:∀n:Fin 2,n.1=0\/n.1=1) ⟨k,g⟩
theorem W4{k:Nat}(g:k<3):k=0\/k=1\/k=2:=(by decide:∀n:Fin 3,n.1=0\/n.1=1\/n.1=2) ⟨k,g⟩
theorem Kq{i:Int}(h:i=0\/i=1):0<=i/\i<=1:=by rcases h with rfl|rfl<;>decide
theorem W5{a i:Int}(h:a%4=0)(hi:i=0\/i=1):(a+2+i)/4=a/4:=by have hi:=Kq hi;omega
theorem su(x y:Nat):x<=x - y+y:=Nat.le_add_of_sub_le (XS _)
example (a b c:Nat) (h:a+2*b<c) (g:c<=7+b):a+b<=6:=ln [_,_,_] [] (.c 1 (.a (.a (.v 0) (.m 2 (.v 1))) (.k 1)) (.v 2) (.c 1 (.v 2) (.a (.k 7) (.v 1)) .e)) 0 (.a (.v 0) (.v 1)) (.k 6) rfl h g
example (a b:Nat) (c:Int) (h:(a:Int)+2*b<c) (g:c<=7+(b:Int)):a+b<=6:=ln [_,_] [_] (.i 1 (.a (.a (.n (.v 0)) (.m 2 (.n (.v 1)))) (.k 1)) (.v 0) (.i 1 (.v 0) (.a (.k 7) (.n (.v 1))) .e)) 0 (.a (.v 0) (.v 1)) (.k 6) rfl h g
theorem dQ{A0:Sort _}{p q:∀x:A0,Prop}{G:Prop}(H:∃x,p x/\(q x))(K:∀x,p x->q x->G):G:=H.elim λ x h0=>K x h0.1 h0.2
theorem gV{A0:Sort _}{p q r:∀x:A0,Prop}{G:Prop}(H:∃x,p x/\(q x/\(r x)))(K:∀x,p x->q x->r x->G):G:=H.elim λ x h0=>K x h0.1 h0.2.1 h0.2.2
theorem O5{p q r:Prop}{G:Prop}(H:p/\(q/\(r)))(K:p->q->r->G):G:=K H.1 H.2.1 H.2.2
theorem W6{A0:Sort _}{p q r s:∀x:A0,Prop}{G:Prop}(H:∃x,p x/\(q x/\(r x/\(s x))))(K:∀x,p x->q x->r x->s x->G):G:=H.elim λ x h0=>K x h0.1 h0.2.1 h0.2.2.1 h0.2.2.2
theorem W7{A0:Sort _}{A1:∀x:A0,Sort _}{p q:∀x:A0,∀y:A1 x,Prop}{G:Prop}(H:∃x,∃y,p x y/\(q x y))(K:∀x,∀y,p x y->q x y->G):G:=H.elim λ x h0=>h0.elim λ y U=>K x y U.1 U.2
theorem W8{A0:Sort _}{A1:∀x:A0,Sort _}{p q r:∀x:A0,∀y:A1 x,Prop}{G:Prop}(H:∃x,∃y,p x y/\(q x y/\(r x y)))(K:∀x,∀y,p x y->q x y->r x y->G):G:=H.elim λ x h0=>h0.elim λ y U=>K x y U.1 U.2.1 U.2.2
theorem W9{A0:Sort _}{A1:∀x:A0,Sort _}{A2:∀x:A0,∀y:A1 x,Sort _}{p q r:∀x:A0,∀y:A1 x,∀z:A2 x y,Prop}{G:Prop}(H:∃x,∃y,∃z,p x y z/\(q x y z/\(r x y z)))(K:∀x,∀y,∀z,p x y z->q x y z->r x y z->G):G:=H.elim λ x h0=>h0.elim λ y U=>U.elim λ z h2=>K x y z h2.1 h2.2.1 h2.2.2
theorem BK{A0:Sort _}{A1:∀x:A0,Sort _}{A2:∀x:A0,∀y:A1 x,Sort _}{p q r s:∀x:A0,∀y:A1 x,∀z:A2 x y,Prop}{G:Prop}(H:∃x,∃y,∃z,p x y z/\(q x y z/\(r x y z/\(s x y z))))(K:∀x,∀y,∀z,p x y z->q x y z->r x y z->s x y z->G):G:=H.elim λ x h0=>h0.elim λ y U=>U.elim λ z h2=>K x y z h2.1 h2.2.1 h2.2.2.1 h2.2.2.2
theorem Gj{A0:Sort _}{A1:∀x:A0,Sort _}{p:∀x:A0,∀y:A1 x,Prop}{G:Prop}(H:∃x,∃y,p x y)(K:∀x,∀y,p x y->G):G:=H.elim λ x h0=>h0.elim λ y U=>K x y U
theorem xk{A0:Sort _}{p q:Prop}{r s:∀x:A0,Prop}{G:Prop}(H:p/\(q/\(∃x,r x/\(s x))))(K:p->q->∀x,r x->s x->G):G:=H.2.2.elim λ x h2=>K H.1 H.2.1 x h2.1 h2.2
theorem ot{A0:Sort _}{A1:∀x:A0,Sort _}{p q:Prop}{r s t k l:∀x:A0,∀y:A1 x,Prop}{G:Prop}(H:p/\(q/\(∃x,∃y,r x y/\(s x y/\(t x y/\(k x y/\(l x y)))))))(K:p->q->∀x,∀y,r x y->s x y->t x y->k x y->l x y->G):G:=H.2.2.elim λ x h2=>h2.elim λ y h3=>K H.1 H.2.1 x y h3.1 h3.2.1 h3.2.2.1 h3.2.2.2.1 h3.2.2.2.2
theorem O6{A0:Sort _}{A1:∀x:A0,Sort _}{p:∀x:A0,Prop}{q r s:∀x:A0,∀y:A1 x,Prop}{G:Prop}(H:∃x,p x/\(∃y,q x y/\(r x y/\(s x y))))(K:∀x,p x->∀y,q x y->r x y->s x y->G):G:=H.elim λ x h0=>h0.2.elim λ y h2=>K x h0.1 y h2.1 h2.2.1 h2.2.2
theorem O7{p q r s:Prop}{G:Prop}(H:p/\(q/\(r/\(s))))(K:p->q->r->s->G):G:=K H.1 H.2.1 H.2.2.1 H.2.2.2
theorem O9{A0:Sort _}{A1:∀x:A0,Sort _}{p q r:Prop}{s t:∀x:A0,∀y:A1 x,Prop}{G:Prop}(H:p/\(q/\(r/\(∃x,∃y,s x y/\(t x y)))))(K:p->q->r->∀x,∀y,s x y->t x y->G):G:=H.2.2.2.elim λ x h3=>h3.elim λ y h4=>K H.1 H.2.1 H.2.2.1 x y h4.1 h4.2
theorem Kr{A0:Sort _}{A1:∀x:A0,Sort _}{A2:∀x:A0,∀y:A1 x,Sort _}{p q r s t k l m n:∀x:A0,∀y:A1 x,∀z:A2 x y,Prop}{G:Prop}(H:∃x,∃y,∃z,p x y z/\(q x y z/\(r x y z/\(s x y z/\(t x y z/\(k x y z/\(l x y z/\(m x y z/\(n x y z)))))))))(K:∀x,∀y,∀z,p x y z->q x y z->r x y z->s x y z->t x y z->k x y z->l x y z->m x y z->n x y z->G):G:=H.elim λ x h0=>h0.elim λ y U=>U.elim λ z h2=>K x y z h2.1 h2.2.1 h2.2.2.1 h2.2.2.2.1 h2.2.2.2.2.1 h2.2.2.2.2.2.1 h2.2.2.2.2.2.2.1 h2.2.2.2.2.2.2.2.1 h2.2.2.2.2.2.2.2.2
theorem Ks{A0:Sort _}{A1:∀x:A0,Sort _}{A2:∀x:A0,∀y:A1 x,Sort _}{A3:∀x:A0,∀y:A1 x,∀z:A2 x y,Sort _}{p q:∀x:A0,∀y:A1 x,∀z:A2 x y,∀u:A3 x y z,Prop}{G:Prop}(H:∃x,∃y,∃z,∃u,p x y z u/\(q x y z u))(K:∀x,∀y,∀z,∀u,p x y z u->q x y z u->G):G:=H.elim λ x h0=>h0.elim λ y U=>U.elim λ z h2=>h2.elim λ u h3=>K x y z u h3.1 h3.2
theorem Kt{A0:Sort _}{p:Prop}{q r:∀x:A0,Prop}{G:Prop}(H:p/\(∃x,q x/\(r x)))(K:p->∀x,q x->r x->G):G:=H.2.elim λ x U=>K H.1 x U.1 U.2
theorem O_{p q r s t k l m:Prop}{G:Prop}(H:p/\(q/\(r/\(s/\(t/\(k/\(l/\(m))))))))(K:p->q->r->s->t->k->l->m->G):G:=K H.1 H.2.1 H.2.2.1 H.2.2.2.1 H.2.2.2.2.1 H.2.2.2.2.2.1 H.2.2.2.2.2.2.1 H.2.2.2.2.2.2.2
theorem ft{G:Prop}(h:false=true):G:=Bool.noConfusion h
theorem tf{G:Prop}(h:true=false):G:=Bool.noConfusion h
theorem ns{α:Type}{a:α}{G:Prop}(h:none\a):G:=nomatch h
theorem sn{α:Type}{a:α}{G:Prop}(h:some a=none):G:=nomatch h
theorem cn{α:Type}{a:α}{l:List α}{G:Prop}(h:a::l=[]):G:=nomatch h
theorem nm{α:Type}{a:α}{G:Prop}(h:a∈[]):G:=nomatch h
theorem mg{α:Type}{l:List α}{a:α}(k:Nat)(h:l[k]?\a):a∈l:=Xt h
inductive V where
 |none
 |bool (b:Bool)
 |int (i:Int)
 |str (k:Nat)
 |ref (i:Nat)
 |tup (l:List V)
 |fl (l:List Int)
inductive O where
 |list (l:List V)
 |dict (es:List (V×V))
 |inst (c:Nat) (fs:List (Nat×V))
structure St where
 n:Nat
 get:Nat->Option O
def St.set(s:St)(i:Nat)(o:O):St:=⟨s.n,λ j=>if j=i then some o else s.get j⟩
def St.new(s:St)(o:O):St:=⟨s.n+1,λ j=>if j=s.n then some o else s.get j⟩
inductive fo where|add|sub|mul|fdiv|mod|shr
inductive qF where|eq|ne|lt|le|gt|ge|is|bF|isin|ũ
inductive Bi where|len|sorted|min
inductive E where
 |const (v:V)
 |loc (x:Nat)
 |glob (x:Nat) (v:V)
 |attr (e:E) (x:Nat)
 |sub (e i:E)
 |slice (e:E) (lo hi:Option Nat)
 |bin (o:fo) (a b:E)
 |neg (a:E)
 |not (a:E)
 |and (l:List E)
 |or (l:List E)
 |cmp (o:qF) (a b:E)
 |Ñ (x f:Nat) (args:List E)
 |new (x c:Nat) (args:List E)
 |bi (x:Nat) (f:Bi) (args:List E)
 |ì (o:E) (x:Nat) (args:List E)
 |list (l:List E)
 |tup (l:List E)
 |dict (ks:List V) (l:List E)
 |comp (elt:E) (x:Nat) (src:E) (ù:Option Nat) (ifs:List E)
 |BL (a:E) (x:Nat) (ks:List Int)
inductive S where
 |expr (e:E)
 |asg (x:Nat) (e:E)
 |ou (x y:Nat) (e:E)
 |mA (o:E) (x:Nat) (e:E)
 |é (o i e:E)
 |mB (x:Nat) (o:fo) (e:E)
 |jw (b:E) (x:Nat) (o:fo) (e:E)
 |lj (b i:E) (o:fo) (e:E)
 |ite (c:E) (t f:List S)
 |while (c:E) (b:List S)
 |Č (x:Nat) (e:E) (ù:Option Nat) (b:List S)
 |g_ (x y:Nat) (e:E) (b:List S)
 |ret (e:Option E)
 |bad
inductive Fl where
 |next
 |ret (v:V)
abbrev Loc:=Nat->Option V
def Loc.set(ρ:Loc)(x:Nat)(v:V):Loc:=λ y=>if y=x then some v else ρ y
abbrev Call:=Nat->List V->St->Option (V×St)
structure sZ where
 ì:Nat->Nat->Option Nat
 init:Nat->Option (Option Nat)
 fld:Nat->Nat->Bool
def lim:Nat:=100000
def i3:Nat:=10000
abbrev dg:Nat:=0
abbrev xl:Nat:=1
abbrev xn:Nat:=2
section
variable{α β:Type}
def bo(o:Option α)(f:α->Option β):Option β:=match o with
 |some v=>f v
 |none=>none
def ú(o:Option (α×St))(f:α->St->Option β):Option β:=bo o λ p=>f p.1 p.2
def dE(n m:Nat)(f:n=m->Option β)(g:Option β):Option β:=if h:n=m then f h else g
def gd(p:Prop)[Decidable p](a:Option β):Option β:=if p then a else none
def lc{γ:Type}(l:List α)(a:γ)(f:α->List α->γ):γ:=match l with
 |[]=>a
 |x::r=>f x r
def wc(l:List α)(f:α->List α->Option β):Option β:=lc l none f
def wV(l:List α)(a:Option β):Option β:=lc l a λ _ _=>none
def wn{γ:Type}(l:List α)(a b:γ):γ:=lc l a λ _ _=>b
def ws(l:List α)(f:α->Option β):Option β:=wc l λ a m=>wV m (f a)
def Pa(l:List α)(f:α->α->Option β):Option β:=wc l λ a m=>ws m λ b=>f a b
def xo(l:List α)(a:Option β)(f:α->Option β)(g:α->α->Option β):Option β:=lc l a λ v m=>lc m (f v) λ w m=>wV m (g v w)
def ob(o:Option Bool)(a b:Option β):Option β:=bo o λ p=>bif p then a else b
variable(v:V)
def wb(f:Bool->Option β):Option β:=dE v.ctorIdx 1 (λ h=>V.bool.elim (motive_1:=λ _=>Option β) v h f) none
def wi(f:Int->Option β):Option β:=dE v.ctorIdx 2 (λ h=>V.int.elim (motive_1:=λ _=>Option β) v h f) none
def wr(f:Nat->Option β):Option β:=dE v.ctorIdx 4 (λ h=>V.ref.elim (motive_1:=λ _=>Option β) v h f) none
def wt(f:List V->Option β):Option β:=dE v.ctorIdx 5 (λ h=>V.tup.elim (motive_1:=λ _=>Option β) v h f) none
def wz(a:Option β):Option β:=gd (v.ctorIdx=0) a
def NR(f:Nat->Option β)(g:List V->Option β):Option β:=dE v.ctorIdx 4 (λ h=>V.ref.elim (motive_1:=λ _=>Option β) v h f) (wt v g)
def Td(f:Int->Option β)(g:Nat->Option β):Option β:=dE v.ctorIdx 2 (λ h=>V.int.elim (motive_1:=λ _=>Option β) v h f) (wr v g)
def Te(f:List Int->Option β)(g:Nat->Option β):Option β:=dE v.ctorIdx 6 (λ h=>V.fl.elim (motive_1:=λ _=>Option β) v h f) (wr v g)
def BM(f:Int->Option β)(g:List V->Option β)(h:Nat->Option β):Option β:=dE v.ctorIdx 2 (λ h=>V.int.elim (motive_1:=λ _=>Option β) v h f) (NR v h g)
def EU(f:Int->Option β)(g:Nat->Option β)(h:List V->Option β):Option β:=dE v.ctorIdx 2 (λ h=>V.int.elim (motive_1:=λ _=>Option β) v h f) (dE v.ctorIdx 3 (λ h=>V.str.elim (motive_1:=λ _=>Option β) v h g) (wt v h))
variable(o:Option O)
def ol(f:List V->Option β):Option β:=bo o λ p=>dE p.ctorIdx 0 (λ h=>O.list.elim (motive:=λ _=>Option β) p h f) none
def od(f:List (V×V)->Option β):Option β:=bo o λ p=>dE p.ctorIdx 1 (λ h=>O.dict.elim (motive:=λ _=>Option β) p h f) none
def oi(f:Nat->List (Nat×V)->Option β):Option β:=bo o λ p=>dE p.ctorIdx 2 (λ h=>O.inst.elim (motive:=λ _=>Option β) p h f) none
def old(f:List V->Option β)(g:List (V×V)->Option β):Option β:=bo o λ p=>dE p.ctorIdx 0 (λ h=>O.list.elim (motive:=λ _=>Option β) p h f) (dE p.ctorIdx 1 (λ h=>O.dict.elim (motive:=λ _=>Option β) p h g) none)
def Ku(a b:Option β)(f:Nat->List (Nat×V)->Option β):Option β:=bo o λ p=>dE p.ctorIdx 0 (λ _=>a) (dE p.ctorIdx 1 (λ _=>b) (dE p.ctorIdx 2 (λ h=>O.inst.elim (motive:=λ _=>Option β) p h f) none))
end
def Ū(l:List V)(i:Int):Option V:=gd (0<=i) l[i.toNat]?
abbrev KT:=List (Int ⊕ List Int)
def xp:List V->Option (List Int)
 |[]=>some []
 |v::r=>wi v λ i=>bo (xp r) λ l=>some (i::l)
def dF:List V->Option KT
 |[]=>some []
 |v::r=>EU v (λ i=>bo (dF r) λ k=>some (.inl i::k)) (λ _=>none) λ l=>bo (xp l) λ a=>bo (dF r) λ k=>some (.inr a::k)
def mC(v w:V):Option Bool:=
 EU v (λ a=>EU w (λ b=>some (decide (a=b))) (λ _=>none) λ _=>none) (λ a=>EU w (λ _=>none) (λ b=>some (decide (a=b))) λ _=>none)
  λ a=>EU w (λ _=>none) (λ _=>none) λ b=>bo (dF a) λ x=>bo (dF b) λ y=>some (decide (x=y))
def è:List (V×V)->V->Option (Option V)
 |[],_=>some none
 |p::r,k=>ob (mC p.1 k) (some (some p.2)) (è r k)
def putK:List (V×V)->V->V->Option (List (V×V))
 |[],k,v=>some [(k,v)]
 |p::r,k,v=>ob (mC p.1 k) (some ((p.1,v)::r)) ((putK r k v).map (p::·))
def ó(v:V):Bool:=(EU v (λ _=>some ()) (λ _=>some ()) λ l=>(dF l).map λ _=>()).isSome
def look(fs:List (Nat×V))(x:Nat):Option V:=match fs with
 |[]=>none
 |(y,v)::r=>if y=x then some v else look r x
def av(fs:List (Nat×V))(x:Nat)(v:V):List (Nat×V):=match fs with
 |[]=>[(x,v)]
 |(y,w)::r=>if y=x then (y,v)::r else (y,w)::av r x v
def jy(s:St)(v w:V):Option V:=NR v (λ i=>old (s.get i) (λ l=>wi w λ z=>Ū l z) λ l=>gd (ó w=true) (è l w).join) λ l=>wi w λ z=>gd (z<1000) (Ū l z)
def é(s:St)(v w u:V):Option St:=wr v λ i=>old (s.get i) (λ l=>wi w λ z=>gd (0<=z/\z.toNat<l.length) (some (s.set i (.list (l.set z.toNat u))))) λ l=>gd (ó w=true/\l.length<lim) ((putK l w u).map (λ ř=>s.set i (.dict ř)))
def ŋ(f:V->V->Option Bool):List V->List V->Option Bool
 |[],m=>some m.isEmpty
 |a::l,m=>match m with
  |[]=>some false
  |b::m=>bo (f a b) λ x=>bo (ŋ f l m) λ y=>some (x&&y)
def dh(s:St):Nat->V->V->Option Bool
 |0,_,_=>none
 |n+1,a,b=>BM a (λ i=>wi b λ j=>some (decide (i=j))) (λ l=>wt b λ m=>ŋ (dh s n) l m)
  λ i=>wr b λ j=>ol (s.get i) λ l=>ol (s.get j) λ m=>if l.length=m.length then ŋ (dh s n) l m else some false
def Br(a:Int):List V->Option Bool
 |[]=>some false
 |v::r=>wi v λ b=>bo (Br a r) λ x=>some (decide (b=a)||x)
def isIn(s:St)(a c:V):Option Bool:=wr c λ i=>old (s.get i) (λ l=>wi a λ z=>Br z l) λ l=>gd (ó a=true) ((è l a).map Option.isSome)
def isNone(v:V):Bool:=Nat.beq v.ctorIdx 0
def BN(s:St)(o:qF)(a b:V):Option Bool:=match o with
 |.eq=>dh s 6 a b
 |.ne=>(dh s 6 a b).map (!·)
 |.lt=>wi a λ i=>wi b λ j=>some (decide (i<j))
 |.le=>wi a λ i=>wi b λ j=>some (decide (i<=j))
 |.gt=>wi a λ i=>wi b λ j=>some (decide (j<i))
 |.ge=>wi a λ i=>wi b λ j=>some (decide (j<=i))
 |.is=>wz b (some (isNone a))
 |.bF=>wz b (some (!isNone a))
 |.isin=>isIn s a b
 |.ũ=>(isIn s a b).map (!·)
def binI(o:fo)(a b:Int):Option Int:=match o with
 |.add=>some (a+b)
 |.sub=>some (a - b)
 |.mul=>gd (a.natAbs<1000) (some (a*b))
 |.fdiv=>gd (0<b/\b<1073741824) (some (a.fdiv b))
 |.mod=>gd (0<b/\b<1073741824) (some (a.fmod b))
 |.shr=>gd (b=2/\16<=a/\a<2^62) (some (a.fdiv 4))
def isAdd(o:fo):Bool:=Nat.beq o.ctorIdx 0
def xq(s:St)(o:fo)(v w:V):Option (V×St):=Td v (λ a=>wi w λ b=>(binI o a b).map λ r=>(.int r,s)) λ i=>wr w λ j=>gd (isAdd o=true) (ol (s.get i) λ l=>ol (s.get j) λ m=>gd (l.length+m.length<=lim) (some (.ref s.n,s.new (.list (l++m)))))
def Gk(v:V):Option V:=wi v λ a=>some (.int (-a))
structure Src where
 len:Nat
 item:Nat->St->Option V
 fin:St->Bool
def BO(r n:Nat):Src:=⟨n,λ i s=>ol (s.get r) λ l'=>l'[i]?,λ s=>(ol (s.get r) λ l'=>some l'.length)==some n⟩
def bq(s:St)(ù:Bool)(v:V):Option Src:=
 BM v (λ n=>gd (ù=true/\0<=n/\n.toNat<=lim) (some ⟨n.toNat,λ i _=>some (.int i),λ _=>true⟩))
  (λ l=>gd (ù=false) (gd (l.length<=lim) (some ⟨l.length,λ i _=>l[i]?,λ _=>true⟩)))
  λ r=>gd (ù=false) (ol (s.get r) λ l=>gd (l.length<=lim) (some (BO r l.length)))
def Gl(s:St)(v:V):Option V:=NR v (λ r=>ol (s.get r) λ l=>some (.int l.length)) λ l=>gd (l.length<=lim) (some (.int l.length))
def di:List (V×V)->Option (List V)
 |[]=>some []
 |p::r=>wi p.1 λ k=>wV r (some [.int k])
def Kv(s:St)(f:Bi)(l:List V):Option (V×St):=match f with
 |.len=>ws l λ v=>(Gl s v).map λ r=>(r,s)
 |.sorted=>ws l λ v=>wr v λ r=>od (s.get r) λ es=>(di es).map λ l=>(.ref s.n,s.new (.list l))
 |.min=>Pa l λ v w=>wi v λ a=>wi w λ b=>some (.int (if b<a then b else a),s)
def qM(lo hi:Option Nat)(l:List V):Option (List V):=match lo with
 |some a=>gd (hi=none) (some (l.drop a))
 |none=>hi.map λ b=>l.take b
def hG(s:St)(lo hi:Option Nat)(v:V):Option (V×St):=
 Te v (λ l=>gd (lo=none) (hi.bind λ b=>gd (l.length<=lim) (some (.ref s.n,s.new (.list ((l.map .int).take b))))))
  λ r=>ol (s.get r) λ l=>gd (l.length<=lim) ((qM lo hi l).map λ m=>(.ref s.n,s.new (.list m)))
inductive MK where|append|pop|get|fn (f:Nat)
def jz(G:sZ)(s:St)(x:Nat)(v:V):Option MK:=wr v λ r=>Ku (s.get r) (if x=dg then some .append else gd (x=xl) (some .pop)) (gd (x=xn) (some .get)) λ c fs=>gd ((look fs x).isNone=true) ((G.ì c x).map .fn)
def mD(s:St)(r:Nat)(v:V):Option (V×St):=ol (s.get r) λ l=>gd (l.length<lim) (some (.none,s.set r (.list (l++[v]))))
def BP(s:St)(r:Nat):Option (V×St):=ol (s.get r) λ l=>gd (l.length<=lim) (bo l.getLast? λ y=>some (y,s.set r (.list l.dropLast)))
def xr(s:St)(r:Nat):Option (V×St):=ol (s.get r) λ l=>wc l λ y t=>gd (t.length<lim) (some (y,s.set r (.list t)))
def lp(s:St)(r:Nat)(k d:V):Option (V×St):=od (s.get r) λ es=>gd (ó k=true) ((è es k).map λ r=>(r.getD d,s))
def bG(C:Call)(s:St)(o:V)(m:MK)(l:List V):Option (V×St):=match m with
 |.fn f=>C f (o::l) s
 |.append=>wr o λ r=>ws l λ v=>mD s r v
 |.pop=>wr o λ r=>xo l (BP s r) (λ v=>wi v λ i=>gd (i=0) (xr s r)) λ _ _=>none
 |.get=>wr o λ r=>xo l none (λ k=>lp s r k .none) λ k d=>lp s r k d
def xt(G:sZ)(C:Call)(s:St)(c:Nat)(args:List V):Option (V×St):=
 bo (G.init c) λ i=>match i with
  |none=>wV args (some (.ref s.n,s.new (.inst c [])))
  |some f=>ú (C f (.ref s.n::args) (s.new (.inst c []))) λ v s'=>wz v (some (.ref s.n,s'))
def fp(s:St)(x:Nat)(v:V):Option V:=wr v λ r=>oi (s.get r) λ _ fs=>look fs x
def jA(G:sZ)(s:St)(x:Nat)(u v:V):Option St:=wr v λ i=>oi (s.get i) λ c fs=>gd (fs.length<900/\G.fld c x=true) (some (s.set i (.inst c (av fs x u))))
def ĸ:List V->List V->List (V×V)->Option (List (V×V))
 |[],l,es=>wV l (some es)
 |k::ks,l,es=>wc l λ v vs=>gd (ó k=true) (bo (putK es k v) λ ř=>ĸ ks vs ř)
def compLoop(fe:Loc->St->Option (V×St))(fi:Loc->St->Option (Bool×St))(ρ:Loc)(x:Nat)(c:Src):Nat->Nat->St->Option (List V×St)
 |0,_,s=>gd (c.fin s=true) (some ([],s))
 |k
   +1,i,s=>bo (c.item i s) λ v=>bo (fi (ρ.set x v) s) λ p=>bif p.1 then
   ú (fe (ρ.set x v) p.2) λ y s2=>ú (compLoop fe fi ρ x c k (i+1) s2) λ ys s3=>some (y::ys,s3)
  else compLoop fe fi ρ x c k (i+1) p.2
mutual
noncomputable def Ä (G:sZ) (C:Call) (ρ:Loc):E->St->Option (V×St)
 |.const v,s=>some (v,s)
 |.loc x,s=>(ρ x).map λ v=>(v,s)
 |.glob _ v,s=>some (v,s)
 |.attr e x,s=>ú (Ä G C ρ e s) λ v s1=>(fp s1 x v).map λ r=>(r,s1)
 |.sub e i,s=>ú (Ä G C ρ e s) λ v s1=>ú (Ä G C ρ i s1) λ w s2=>(jy s2 v w).map λ r=>(r,s2)
 |.slice e lo hi,s=>ú (Ä G C ρ e s) λ v s1=>hG s1 lo hi v
 |.bin o a b,s=>ú (Ä G C ρ a s) λ v s1=>ú (Ä G C ρ b s1) λ w s2=>xq s2 o v w
 |.neg a,s=>ú (Ä G C ρ a s) λ v s1=>(Gk v).map λ r=>(r,s1)
 |.not a,s=>ú (Ä G C ρ a s) λ v s1=>wb v λ b=>some (.bool (!b),s1)
 |.and l,s=>evalAnd G C ρ l s
 |.or l,s=>evalOr G C ρ l s
 |.cmp o a b,s=>ú (Ä G C ρ a s) λ v s1=>ú (Ä G C ρ b s1) λ w s2=>(BN s2 o v w).map λ r=>(.bool r,s2)
 |.Ñ _ f args,s=>ú (ß G C ρ args s) λ vs s1=>C f vs s1
 |.new _ c args,s=>ú (ß G C ρ args s) λ vs s1=>xt G C s1 c vs
 |.bi _ f args,s=>ú (ß G C ρ args s) λ vs s1=>Kv s1 f vs
 |.ì o x args,s=>ú (Ä G C ρ o s) λ v s1=>bo (jz G s1 x v) λ mk=>ú (ß G C ρ args s1) λ vs s2=>bG C s2 v mk vs
 |.list l,s=>ú (ß G C ρ l s) λ vs s1=>some (.ref s1.n,s1.new (.list vs))
 |.tup l,s=>ú (ß G C ρ l s) λ vs s1=>some (.tup vs,s1)
 |.dict ks l,s=>ú (ß G C ρ l s) λ vs s1=>(ĸ ks vs []).map λ es=>(.ref s1.n,s1.new (.dict es))
 |.BL a _ ks,s=>ú (Ä G C ρ a s) λ v s1=>wi v λ i=>some (.bool (ks.any λ k=>decide (k=i)),s1)
 |.comp elt x src ù ifs,s=>ú (Ä G C ρ src s) λ v s1=>bo (bq s1 ù.isSome v) λ c=>ú (compLoop (λ Ð s'=>Ä G C Ð elt s') (λ Ð s'=>İ G C Ð ifs s') ρ x c c.len 0 s1) λ ys s2=>some (.ref s2.n,s2.new (.list ys))
noncomputable def ß (G:sZ) (C:Call) (ρ:Loc):List E->St->Option (List V×St)
 |[],s=>some ([],s)
 |e::l,s=>ú (Ä G C ρ e s) λ v s1=>ú (ß G C ρ l s1) λ vs s2=>some (v::vs,s2)
noncomputable def evalAnd (G:sZ) (C:Call) (ρ:Loc):List E->St->Option (V×St)
 |[],_=>none
 |e::l,s=>ú (Ä G C ρ e s) λ v s1=>wb v λ b=>bif b then wn l (some (.bool true,s1)) (evalAnd G C ρ l s1)else some (.bool false,s1)
noncomputable def evalOr (G:sZ) (C:Call) (ρ:Loc):List E->St->Option (V×St)
 |[],_=>none
 |e::l,s=>ú (Ä G C ρ e s) λ v s1=>wb v λ b=>bif b then some (.bool true,s1)else wn l (some (.bool false,s1)) (evalOr G C ρ l s1)
noncomputable def İ (G:sZ) (C:Call) (ρ:Loc):List E->St->Option (Bool×St)
 |[],s=>some (true,s)
 |e::l,s=>ú (Ä G C ρ e s) λ v s1=>wb v λ b=>bif b then İ G C ρ l s1 else some (false,s1)
end
def Tf{γ:Type}(x:Fl)(a:γ)(f:V->γ):γ:=match x with
 |.next=>a
 |.ret v=>f v
def bf{β:Type}(o:Option (Fl×Loc×St))(f:Loc->St->Option β)(g:V->Loc->St->Option β):Option β:=bo o λ p=>Tf p.1 (f p.2.1 p.2.2) λ v=>g v p.2.1 p.2.2
def forLoop(f:Loc->St->Option (Fl×Loc×St))(bind:Loc->V->Option Loc)(c:Src):Nat->Nat->Loc->St->Option (Fl×Loc×St)
 |0,_,ρ,s=>gd (c.fin s=true) (some (.next,ρ,s))
 |k+1,i,ρ,s=>bo (c.item i s) λ v=>bo (bind ρ v) λ ċ=>bf (f ċ s) (λ dG s2=>forLoop f bind c k (i+1) dG s2) λ v dG s2=>some (.ret v,dG,s2)
def whileLoop(fc:Loc->St->Option (V×St))(fb:Loc->St->Option (Fl×Loc×St)):Nat->Loc->St->Option (Fl×Loc×St)
 |0,_,_=>none
 |k+1,ρ,s=>ú (fc ρ s) λ v s1=>wb v λ b=>bif b then bf (fb ρ s1) (λ dG s2=>whileLoop fc fb k dG s2) (λ v dG s2=>some (.ret v,dG,s2))else some (.next,ρ,s1)
def bind1(x:Nat)(ρ:Loc)(v:V):Option Loc:=some (ρ.set x v)
def fu(x y:Nat)(ρ:Loc)(v:V):Option Loc:=wt v λ l=>Pa l λ a b=>some ((ρ.set x a).set y b)
def mE(o:fo)(v w:V):Option V:=wi v λ a=>wi w λ b=>gd (o.ctorIdx<2) ((binI o a b).map .int)
mutual
noncomputable def ü (G:sZ) (C:Call):S->Loc->St->Option (Fl×Loc×St)
 |.expr e,ρ,s=>ú (Ä G C ρ e s) λ _ s1=>some (.next,ρ,s1)
 |.asg x e,ρ,s=>ú (Ä G C ρ e s) λ v s1=>some (.next,ρ.set x v,s1)
 |.ou x y e,ρ,s=>ú (Ä G C ρ e s) λ v s1=>(fu x y ρ v).map λ ċ=>(.next,ċ,s1)
 |.mA o x e,ρ,s=>ú (Ä G C ρ e s) λ w s1=>ú (Ä G C ρ o s1) λ v s2=>(jA G s2 x w v).map λ s3=>(.next,ρ,s3)
 |.é o i e,ρ,s=>ú (Ä G C ρ e s) λ u s1=>ú (Ä G C ρ o s1) λ v s2=>ú (Ä G C ρ i s2) λ w s3=>(é s3 v w u).map λ s4=>(.next,ρ,s4)
 |.mB x o e,ρ,s=>bo (ρ x) λ a=>ú (Ä G C ρ e s) λ v s1=>(mE o a v).map λ w=>(.next,ρ.set x w,s1)
 |.jw b x o e,ρ,s=>ú (Ä G C ρ b s) λ v s1=>bo (fp s1 x v) λ a=>ú (Ä G C ρ e s1) λ u s2=>bo (mE o a u) λ w=>(jA G s2 x w v).map λ s3=>(.next,ρ,s3)
 |.lj b i o e,ρ,s=>ú (Ä G C ρ b s) λ v s1=>ú (Ä G C ρ i s1) λ iv s2=>bo (jy s2 v iv) λ a=>ú (Ä G C ρ e s2) λ u s3=>bo (mE o a u) λ w=>(é s3 v iv w).map λ s4=>(.next,ρ,s4)
 |.ite c t f,ρ,s=>ú (Ä G C ρ c s) λ v s1=>wb v λ b=>bif b then Ê G C t ρ s1 else Ê G C f ρ s1
 |.while c b,ρ,s=>whileLoop (λ Ð s'=>Ä G C Ð c s') (λ Ð s'=>Ê G C b Ð s') i3 ρ s
 |.Č x e ù b,ρ,s=>ú (Ä G C ρ e s) λ v s1=>bo (bq s1 ù.isSome v) λ c=>forLoop (λ Ð s'=>Ê G C b Ð s') (bind1 x) c c.len 0 ρ s1
 |.g_ x y e b,ρ,s=>ú (Ä G C ρ e s) λ v s1=>bo (bq s1 false v) λ c=>forLoop (λ Ð s'=>Ê G C b Ð s') (fu x y) c c.len 0 ρ s1
 |.ret o,ρ,s=>match o with
  |none=>some (.ret .none,ρ,s)
  |some e=>ú (Ä G C ρ e s) λ v s1=>some (.ret v,ρ,s1)
 |.bad,_,_=>none
noncomputable def Ê (G:sZ) (C:Call):List S->Loc->St->Option (Fl×Loc×St)
 |[],ρ,s=>some (.next,ρ,s)
 |x::r,ρ,s=>bf (ü G C x ρ s) (λ ċ s1=>Ê G C r ċ s1) λ v ċ s1=>some (.ret v,ċ,s1)
end
structure Fn where
 params:List Nat
 body:List S
def Ŕ:List Nat->List V->Option Loc
 |[],l=>wV l (some λ _=>none)
 |x::xs,l=>wc l λ v vs=>(Ŕ xs vs).map λ ρ=>ρ.set x v
def Ý(G:sZ)(fns:Nat->Option Fn):Nat->Call
 |0=>λ _ _ _=>none
 |d+1=>λ f args s=>bo (fns f) λ fn=>bo (Ŕ fn.params args) λ ρ=>bf (Ê G (Ý G fns d) fn.body ρ s) (λ _ s1=>some (.none,s1)) λ v _ s1=>some (v,s1)
end Mine
namespace Mine
section
variable{α β:Type}{r:β}{P:Prop}{v:V}{o:Option O}
theorem í{o:Option α}{f:α->Option β}(e:bo o f\r)(k:∀v,o\v->f v\r->P):P:=by
 cases o with
 |none=>exact ns e
 |some p=>exact k p rfl e
theorem Ò{o:Option (α×St)}{f:α->St->Option β}(e:ú o f\r)(k:∀v s,o\(v,s)->f v s\r->P):P:=í e λ p h e=>k p.1 p.2 h e
theorem â{o:Option α}{f:α->β}(e:o.map f\r)(k:∀v,o\v->f v=r->P):P:=by
 cases o with
 |none=>exact ns e
 |some p=>exact k p rfl (Xn e)
theorem BQ{o:Option α}{f:α->Option β}(e:o.bind f\r)(k:∀v,o\v->f v\r->P):P:=by
 cases o with
 |none=>exact ns e
 |some p=>exact k p rfl e
theorem Ŀ{n m:Nat}{f:n=m->Option β}{g:Option β}(e:dE n m f g\r)(k:∀h,f h\r->P)(k':g\r->P):P:=if h:n=m then k h ((dif_pos h).symm.trans e)else k' ((dif_neg h).symm.trans e)
theorem ñ{c:Prop}[Decidable c]{x:Option β}(e:gd c x\r)(k:c->x\r->P):P:=if h:c then k h ((XR h).symm.trans e)else ns ((XW h).symm.trans e)
theorem s8{l:List α}{a:Option β}{f:α->List α->Option β}(e:lc l a f\r)(k:l=[]->a\r->P)(k':∀x m,l=x::m->f x m\r->P):P:=by
 cases l with
 |nil=>exact k rfl e
 |cons x m=>exact k' x m rfl e
theorem ow{l:List α}{f:α->List α->Option β}(e:wc l f\r)(k:∀a m,l=a::m->f a m\r->P):P:=s8 e (λ _ e=>ns e) k
theorem bX{l:List α}{a:Option β}(e:wV l a\r)(k:l=[]->a\r->P):P:=s8 e k λ _ _ _ e=>ns e
theorem s9{l:List α}{f:α->Option β}(e:ws l f\r)(k:∀v,l=[v]->f v\r->P):P:=ow e λ a m h e=>bX e λ h' e=>k a (h'▸h) e
theorem xu{l:List α}{f:α->α->Option β}(e:Pa l f\r)(k:∀v w,l=[v,w]->f v w\r->P):P:=ow e λ a m h e=>s9 e λ b h' e=>k a b (h'▸h) e
theorem s_{l:List α}{a:Option β}{f:α->Option β}{g:α->α->Option β}(e:xo l a f g\r)(k:l=[]->a\r->P)(k':∀v,l=[v]->f v\r->P)(Gm:∀v w,l=[v,w]->g v w\r->P):P:=s8 e k λ v m h e=>s8 e (λ h' e=>k' v (h'▸h) e) λ w m h' e=>bX e λ Pb e=>Gm v w (Pb▸h'▸h) e
theorem xw{o:Option Bool}{a b:Option β}(e:ob o a b\r)(k:o\true->a\r->P)(k':o\false->b\r->P):P:=í e λ p=>p.casesOn (motive:=λ p=>o\p->(bif p then a else b)\r->P) k' k
theorem Kw{f:Bool->Option β}(h:v.ctorIdx=1)(e:V.bool.elim (motive_1:=λ _=>Option β) v h f\r)(k:∀b,v=.bool b->f b\r->P):P:=V.bool.elim (motive_1:=λ v=>∀h,V.bool.elim (motive_1:=λ _=>Option β) v h f\r->(∀b,v=.bool b->f b\r->P)->P) v h (λ b _ e k=>k b rfl e) h e k
theorem ta{f:Int->Option β}(h:v.ctorIdx=2)(e:V.int.elim (motive_1:=λ _=>Option β) v h f\r)(k:∀b,v=.int b->f b\r->P):P:=V.int.elim (motive_1:=λ v=>∀h,V.int.elim (motive_1:=λ _=>Option β) v h f\r->(∀b,v=.int b->f b\r->P)->P) v h (λ b _ e k=>k b rfl e) h e k
theorem Kx{f:Nat->Option β}(h:v.ctorIdx=3)(e:V.str.elim (motive_1:=λ _=>Option β) v h f\r)(k:∀b,v=.str b->f b\r->P):P:=V.str.elim (motive_1:=λ v=>∀h,V.str.elim (motive_1:=λ _=>Option β) v h f\r->(∀b,v=.str b->f b\r->P)->P) v h (λ b _ e k=>k b rfl e) h e k
theorem EV{f:Nat->Option β}(h:v.ctorIdx=4)(e:V.ref.elim (motive_1:=λ _=>Option β) v h f\r)(k:∀b,v=.ref b->f b\r->P):P:=V.ref.elim (motive_1:=λ v=>∀h,V.ref.elim (motive_1:=λ _=>Option β) v h f\r->(∀b,v=.ref b->f b\r->P)->P) v h (λ b _ e k=>k b rfl e) h e k
theorem Ky{f:List V->Option β}(h:v.ctorIdx=5)(e:V.tup.elim (motive_1:=λ _=>Option β) v h f\r)(k:∀b,v=.tup b->f b\r->P):P:=V.tup.elim (motive_1:=λ v=>∀h,V.tup.elim (motive_1:=λ _=>Option β) v h f\r->(∀b,v=.tup b->f b\r->P)->P) v h (λ b _ e k=>k b rfl e) h e k
theorem Kz{f:List Int->Option β}(h:v.ctorIdx=6)(e:V.fl.elim (motive_1:=λ _=>Option β) v h f\r)(k:∀b,v=.fl b->f b\r->P):P:=V.fl.elim (motive_1:=λ v=>∀h,V.fl.elim (motive_1:=λ _=>Option β) v h f\r->(∀b,v=.fl b->f b\r->P)->P) v h (λ b _ e k=>k b rfl e) h e k
theorem EW{o:O}{f:List V->Option β}(h:o.ctorIdx=0)(e:O.list.elim (motive:=λ _=>Option β) o h f\r)(k:∀b,o=.list b->f b\r->P):P:=O.list.elim (motive:=λ o=>∀h,O.list.elim (motive:=λ _=>Option β) o h f\r->(∀b,o=.list b->f b\r->P)->P) o h (λ b _ e k=>k b rfl e) h e k
theorem xx{o:O}{f:List (V×V)->Option β}(h:o.ctorIdx=1)(e:O.dict.elim (motive:=λ _=>Option β) o h f\r)(k:∀b,o=.dict b->f b\r->P):P:=O.dict.elim (motive:=λ o=>∀h,O.dict.elim (motive:=λ _=>Option β) o h f\r->(∀b,o=.dict b->f b\r->P)->P) o h (λ b _ e k=>k b rfl e) h e k
theorem EX{o:O}{f:Nat->List (Nat×V)->Option β}(h:o.ctorIdx=2)(e:O.inst.elim (motive:=λ _=>Option β) o h f\r)(k:∀c b,o=.inst c b->f c b\r->P):P:=O.inst.elim (motive:=λ o=>∀h,O.inst.elim (motive:=λ _=>Option β) o h f\r->(∀c b,o=.inst c b->f c b\r->P)->P) o h (λ c b _ e k=>k c b rfl e) h e k
theorem fw{f:Bool->Option β}(e:wb v f\r)(k:∀b,v=.bool b->f b\r->P):P:=Ŀ e (λ h e=>Kw h e k) λ e=>ns e
theorem Ĺ{f:Int->Option β}(e:wi v f\r)(k:∀b,v=.int b->f b\r->P):P:=Ŀ e (λ h e=>ta h e k) λ e=>ns e
theorem bY{f:Nat->Option β}(e:wr v f\r)(k:∀b,v=.ref b->f b\r->P):P:=Ŀ e (λ h e=>EV h e k) λ e=>ns e
theorem ox{f:List V->Option β}(e:wt v f\r)(k:∀b,v=.tup b->f b\r->P):P:=Ŀ e (λ h e=>Ky h e k) λ e=>ns e
theorem xy{a:Option β}(e:wz v a\r)(k:v=.none->a\r->P):P:=ñ e λ h e=>k (V.none.elim (motive_1:=λ v=>v=.none) v h rfl) e
theorem mF{f:Nat->Option β}{g:List V->Option β}(e:NR v f g\r)(k:∀i,v=.ref i->f i\r->P)(k':∀l,v=.tup l->g l\r->P):P:=Ŀ e (λ h e=>EV h e k) λ e=>ox e k'
theorem Gn{f:Int->Option β}{g:Nat->Option β}(e:Td v f g\r)(k:∀i,v=.int i->f i\r->P)(k':∀i,v=.ref i->g i\r->P):P:=Ŀ e (λ h e=>ta h e k) λ e=>bY e k'
theorem Gp{f:List Int->Option β}{g:Nat->Option β}(e:Te v f g\r)(k:∀i,v=.fl i->f i\r->P)(k':∀i,v=.ref i->g i\r->P):P:=Ŀ e (λ h e=>Kz h e k) λ e=>bY e k'
theorem xA{f:Int->Option β}{g:Nat->Option β}{h:List V->Option β}(e:EU v f g h\r)(k:∀i,v=.int i->f i\r->P)(k':∀i,v=.str i->g i\r->P)(Gm:∀i,v=.tup i->h i\r->P):P:=Ŀ e (λ h e=>ta h e k) λ e=>Ŀ e (λ h e=>Kx h e k') λ e=>ox e Gm
theorem mG{f:Int->Option β}{g:List V->Option β}{h:Nat->Option β}(e:BM v f g h\r)(k:∀i,v=.int i->f i\r->P)(k':∀i,v=.tup i->g i\r->P)(Gm:∀i,v=.ref i->h i\r->P):P:=Ŀ e (λ h e=>ta h e k) λ e=>mF e Gm k'
theorem aE{f:List V->Option β}(e:ol o f\r)(k:∀b,o\(.list b)->f b\r->P):P:=í e λ p h e=>Ŀ e (λ i e=>EW i e λ b h' e=>k b (h'▸h) e) λ e=>ns e
theorem xC{f:List (V×V)->Option β}(e:od o f\r)(k:∀b,o\(.dict b)->f b\r->P):P:=í e λ p h e=>Ŀ e (λ i e=>xx i e λ b h' e=>k b (h'▸h) e) λ e=>ns e
theorem EY{f:Nat->List (Nat×V)->Option β}(e:oi o f\r)(k:∀c b,o\(.inst c b)->f c b\r->P):P:=í e λ p h e=>Ŀ e (λ i e=>EX i e λ c b h' e=>k c b (h'▸h) e) λ e=>ns e
theorem mH{f:List V->Option β}{g:List (V×V)->Option β}(e:old o f g\r)(k:∀b,o\(.list b)->f b\r->P)(k':∀b,o\(.dict b)->g b\r->P):P:=í e λ p h e=>Ŀ e (λ i e=>EW i e λ b h' e=>k b (h'▸h) e) λ e=>Ŀ e (λ i e=>xx i e λ b h' e=>k' b (h'▸h) e) λ e=>ns e
theorem Gq{a b:Option β}{f:Nat->List (Nat×V)->Option β}(e:Ku o a b f\r)(k:∀l,o\(.list l)->a\r->P)(k':∀l,o\(.dict l)->b\r->P)(Gm:∀c l,o\(.inst c l)->f c l\r->P):P:=í e λ p h e=>Ŀ e (λ i e=>O.list.elim (motive:=λ p=>o\p->P) p i (λ l h=>k l h e) h) λ e=>Ŀ e (λ i e=>O.dict.elim (motive:=λ p=>o\p->P) p i (λ l h=>k' l h e) h) λ e=>Ŀ e (λ i e=>EX i e λ c l h' e=>Gm c l (h'▸h) e) λ e=>ns e
theorem oy{o:Option (Fl×Loc×St)}{f:Loc->St->Option β}{g:V->Loc->St->Option β}(e:bf o f g\r)(k:∀ρ s,o\(.next,ρ,s)->f ρ s\r->P)(k':∀v ρ s,o\(.ret v,ρ,s)->g v ρ s\r->P):P:=í e λ p=>p.1.casesOn (motive:=λ x=>o\(x,p.2)->Tf x (f p.2.1 p.2.2) (λ v=>g v p.2.1 p.2.2)\r->P) (λ h e=>k p.2.1 p.2.2 h e) λ v h e=>k' v p.2.1 p.2.2 h e
end
theorem ò{α β:Type}{o:Option α}{f:α->Option β}{v:α}{r:Option β}(e:o\v)(h:f v=r):bo o f=r:=e▸h
theorem Ï{α β:Type}{o:Option (α×St)}{f:α->St->Option β}{v:α}{s:St}{r:Option β}(e:o\(v,s))(h:f v s=r):ú o f=r:=e▸h
section
variable{β:Type}{o:Option O}{r:Option β}
theorem Ś{l:List V}{f:List V->Option β}(h:o\(.list l))(e:f l=r):ol o f=r:=h▸e
theorem EZ{l:List (V×V)}{f:List (V×V)->Option β}(h:o\(.dict l))(e:f l=r):od o f=r:=h▸e
theorem tb{c:Nat}{l:List (Nat×V)}{f:Nat->List (Nat×V)->Option β}(h:o\(.inst c l))(e:f c l=r):oi o f=r:=h▸e
theorem xF{l:List V}{f:List V->Option β}{g:List (V×V)->Option β}(h:o\(.list l))(e:f l=r):old o f g=r:=h▸e
theorem xG{l:List (V×V)}{f:List V->Option β}{g:List (V×V)->Option β}(h:o\(.dict l))(e:g l=r):old o f g=r:=h▸e
theorem KA{l:List V}{a b:Option β}{f:Nat->List (Nat×V)->Option β}(h:o\(.list l)):Ku o a b f=a:=h▸rfl
theorem KD{l:List (V×V)}{a b:Option β}{f:Nat->List (Nat×V)->Option β}(h:o\(.dict l)):Ku o a b f=b:=h▸rfl
theorem KG{c:Nat}{l:List (Nat×V)}{a b:Option β}{f:Nat->List (Nat×V)->Option β}(h:o\(.inst c l)):Ku o a b f=f c l:=h▸rfl
end
theorem KH{β:Type}{o:Option Bool}{a b:Option β}(h:o\true):ob o a b=a:=h▸rfl
theorem Gr{β:Type}{o:Option Bool}{a b:Option β}(h:o\false):ob o a b=b:=h▸rfl
theorem E1(a b:Int):mC (.int a) (.int b)\(decide (a=b)):=rfl
theorem E2{a b:Int}(h:a=b):mC (.int a) (.int b)\true:=(E1 a b)^(Xq _ (XI h))
theorem xH{a b:Int}(h:¬a=b):mC (.int a) (.int b)\false:=(E1 a b)^(Xq _ (XY h))
theorem vc{β:Type}{o:Option (Fl×Loc×St)}{f:Loc->St->Option β}{g:V->Loc->St->Option β}{ρ:Loc}{s:St}{r:Option β}(e:o\(.next,ρ,s))(h:f ρ s=r):bf o f g=r:=e▸h
theorem BR{β:Type}{o:Option (Fl×Loc×St)}{f:Loc->St->Option β}{g:V->Loc->St->Option β}{ρ:Loc}{s:St}{v:V}{r:Option β}(e:o\(.ret v,ρ,s))(h:g v ρ s=r):bf o f g=r:=e▸h
theorem map_eq{α β:Type}{o:Option α}{f:α->β}{v:α}{r:β}(e:o\v)(h:f v=r):o.map f\r:=e▸h▸rfl
theorem č{β:Type}{p:Prop}[Decidable p]{a r:Option β}(h:p)(e:a=r):gd p a=r:=(XR h)^e
section
variable{G:sZ}{C:Call}{ρ:Loc}{s:St}{e i a b o:E}{l:List E}
theorem fy{x:Nat}:Ä G C ρ (.attr e x) s=ú (Ä G C ρ e s) λ v s1=>(fp s1 x v).map λ r=>(r,s1):=rfl
theorem tc:Ä G C ρ (.sub e i) s=ú (Ä G C ρ e s) λ v s1=>ú (Ä G C ρ i s1) λ w s2=>(jy s2 v w).map λ r=>(r,s2):=rfl
theorem hH{lo hi:Option Nat}:Ä G C ρ (.slice e lo hi) s=ú (Ä G C ρ e s) λ v s1=>hG s1 lo hi v:=rfl
theorem td{p:fo}:Ä G C ρ (.bin p a b) s=ú (Ä G C ρ a s) λ v s1=>ú (Ä G C ρ b s1) λ w s2=>xq s2 p v w:=rfl
theorem ti:Ä G C ρ (.neg a) s=ú (Ä G C ρ a s) λ v s1=>(Gk v).map λ r=>(r,s1):=rfl
theorem mI:Ä G C ρ (.not a) s=ú (Ä G C ρ a s) λ v s1=>wb v λ b=>some (.bool (!b),s1):=rfl
theorem je{p:qF}:Ä G C ρ (.cmp p a b) s=ú (Ä G C ρ a s) λ v s1=>ú (Ä G C ρ b s1) λ w s2=>(BN s2 p v w).map λ r=>(.bool r,s2):=rfl
theorem oz{x f:Nat}:Ä G C ρ (.Ñ x f l) s=ú (ß G C ρ l s) λ vs s1=>C f vs s1:=rfl
theorem tj{x c:Nat}:Ä G C ρ (.new x c l) s=ú (ß G C ρ l s) λ vs s1=>xt G C s1 c vs:=rfl
theorem xI{x:Nat}{f:Bi}:Ä G C ρ (.bi x f l) s=ú (ß G C ρ l s) λ vs s1=>Kv s1 f vs:=rfl
theorem oA{x:Nat}:Ä G C ρ (.ì o x l) s=ú (Ä G C ρ o s) λ v s1=>bo (jz G s1 x v) λ mk=>ú (ß G C ρ l s1) λ vs s2=>bG C s2 v mk vs:=rfl
theorem oB:Ä G C ρ (.list l) s=ú (ß G C ρ l s) λ vs s1=>some (.ref s1.n,s1.new (.list vs)):=rfl
theorem tl:Ä G C ρ (.tup l) s=ú (ß G C ρ l s) λ vs s1=>some (.tup vs,s1):=rfl
theorem oC{ks:List V}:Ä G C ρ (.dict ks l) s=ú (ß G C ρ l s) λ vs s1=>(ĸ ks vs []).map λ es=>(.ref s1.n,s1.new (.dict es)):=rfl
theorem mJ{x:Nat}{ks:List Int}:Ä G C ρ (.BL a x ks) s=ú (Ä G C ρ a s) λ v s1=>wi v λ i=>some (.bool (ks.any λ k=>decide (k=i)),s1):=rfl
theorem jB{x:Nat}{ù:Option Nat}:Ä G C ρ (.comp e x i ù l) s=ú (Ä G C ρ i s) λ v s1=>bo (bq s1 ù.isSome v) λ c=>ú (compLoop (λ Ð s'=>Ä G C Ð e s') (λ Ð s'=>İ G C Ð l s') ρ x c c.len 0 s1) λ ys s2=>some (.ref s2.n,s2.new (.list ys)):=rfl
theorem aF:ß G C ρ (e::l) s=ú (Ä G C ρ e s) λ v s1=>ú (ß G C ρ l s1) λ vs s2=>some (v::vs,s2):=rfl
theorem bZ:evalAnd G C ρ (e::l) s=ú (Ä G C ρ e s) λ v s1=>wb v λ b=>bif b then wn l (some (.bool true,s1)) (evalAnd G C ρ l s1)else some (.bool false,s1):=rfl
theorem b_:evalOr G C ρ (e::l) s=ú (Ä G C ρ e s) λ v s1=>wb v λ b=>bif b then some (.bool true,s1)else wn l (some (.bool false,s1)) (evalOr G C ρ l s1):=rfl
theorem xJ:İ G C ρ (e::l) s=ú (Ä G C ρ e s) λ v s1=>wb v λ b=>bif b then İ G C ρ l s1 else some (false,s1):=rfl
variable{y z:Nat}{c f:E}{p:fo}{t:List S}{u:List S}
theorem oE:ü G C (.expr e) ρ s=ú (Ä G C ρ e s) λ _ s1=>some (.next,ρ,s1):=rfl
theorem tn:ü G C (.asg y e) ρ s=ú (Ä G C ρ e s) λ v s1=>some (.next,ρ.set y v,s1):=rfl
theorem oH:ü G C (.ou y z e) ρ s=ú (Ä G C ρ e s) λ v s1=>(fu y z ρ v).map λ Ð=>(.next,Ð,s1):=rfl
theorem oJ:ü G C (.mA o y e) ρ s=ú (Ä G C ρ e s) λ w s1=>ú (Ä G C ρ o s1) λ v s2=>(jA G s2 y w v).map λ s3=>(.next,ρ,s3):=rfl
theorem oK:ü G C (.é o i e) ρ s=ú (Ä G C ρ e s) λ u s1=>ú (Ä G C ρ o s1) λ v s2=>ú (Ä G C ρ i s2) λ w s3=>(é s3 v w u).map λ s4=>(.next,ρ,s4):=rfl
theorem oM:ü G C (.mB y p e) ρ s=bo (ρ y) λ a=>ú (Ä G C ρ e s) λ v s1=>(mE p a v).map λ w=>(.next,ρ.set y w,s1):=rfl
theorem oN:ü G C (.jw b y p e) ρ s=ú (Ä G C ρ b s) λ v s1=>bo (fp s1 y v) λ a=>ú (Ä G C ρ e s1) λ u s2=>bo (mE p a u) λ w=>(jA G s2 y w v).map λ s3=>(.next,ρ,s3):=rfl
theorem oO:ü G C (.lj b i p e) ρ s=ú (Ä G C ρ b s) λ v s1=>ú (Ä G C ρ i s1) λ iv s2=>bo (jy s2 v iv) λ a=>ú (Ä G C ρ e s2) λ u s3=>bo (mE p a u) λ w=>(é s3 v iv w).map λ s4=>(.next,ρ,s4):=rfl
theorem fA:ü G C (.ite c t u) ρ s=ú (Ä G C ρ c s) λ v s1=>wb v λ b=>bif b then Ê G C t ρ s1 else Ê G C u ρ s1:=rfl
theorem vd:ü G C (.while c t) ρ s=whileLoop (λ Ð s'=>Ä G C Ð c s') (λ Ð s'=>Ê G C t Ð s') i3 ρ s:=rfl
theorem jC{ù:Option Nat}:ü G C (.Č y e ù t) ρ s=ú (Ä G C ρ e s) λ v s1=>bo (bq s1 ù.isSome v) λ c=>forLoop (λ Ð s'=>Ê G C t Ð s') (bind1 y) c c.len 0 ρ s1:=rfl
theorem oP:ü G C (.g_ y z e t) ρ s=ú (Ä G C ρ e s) λ v s1=>bo (bq s1 false v) λ c=>forLoop (λ Ð s'=>Ê G C t Ð s') (fu y z) c c.len 0 ρ s1:=rfl
theorem mK:ü G C (.ret (some e)) ρ s=ú (Ä G C ρ e s) λ v s1=>some (.ret v,ρ,s1):=rfl
theorem dj{a:S}:Ê G C (a::t) ρ s=bf (ü G C a ρ s) (λ ċ s1=>Ê G C t ċ s1) (λ v ċ s1=>some (.ret v,ċ,s1)):=rfl
theorem mL{fc:Loc->St->Option (V×St)}{fb:Loc->St->Option (Fl×Loc×St)}{n:Nat}:whileLoop fc fb (n+1) ρ s=ú (fc ρ s) λ v s1=>wb v λ b=>bif b then bf (fb ρ s1) (λ dG s2=>whileLoop fc fb n dG s2) (λ v dG s2=>some (.ret v,dG,s2))else some (.next,ρ,s1):=rfl
theorem tq{f:Loc->St->Option (Fl×Loc×St)}{bind:Loc->V->Option Loc}{c:Src}{n i:Nat}:forLoop f bind c (n+1) i ρ s=bo (c.item i s) λ v=>bo (bind ρ v) λ ċ=>bf (f ċ s) (λ dG s2=>forLoop f bind c n (i+1) dG s2) (λ v dG s2=>some (.ret v,dG,s2)):=rfl
end
end Mine
namespace Mine
namespace ZZ_
def L(n:Nat):E:=.loc n
def K(n:Int):E:=.const (.int n)
def N:E:=.const .none
def Q(n:Nat):E:=.const (.str n)
def A(o:Nat)(n:Nat):E:=.attr (.loc o) n
def G(a:Nat)(v:Int):E:=.glob a (.int v)
def D(a:Nat)(k:Int):E:=.sub (.loc a) (.const (.int k))
def H(a:Nat)(g:Nat)(v:Int):E:=.sub (.loc a) (.glob g (.int v))
def W(k:Nat):E:=.sub (.loc 260) (.const (.str k))
def M(o:Nat)(x:Nat)(l:List E):E:=.ì (.loc o) x l
def P(o:Nat)(a:Nat)(x:Nat)(l:List E):E:=.ì (.attr (.loc o) a) x l
def C(x:Nat)(f:Nat)(l:List E):E:=.Ñ x f l
def ZZ9(e:E):E:=.bi 15 .len [e]
def X(a:E)(b:E):E:=.cmp .eq a b
def Z:qF->E->E->E:=.cmp
def B:fo->E->E->E:=.bin
def a:List E->E:=.and
def o:List E->E:=.or
def s:E->E->E:=.sub
def k(b:Bool):E:=.const (.bool b)
def n:E->E:=.not
def l:List E->E:=.list
def t:List E->E:=.tup
def R(e:E):S:=.ret (some e)
def I(c:E)(t:List S):S:=.ite c t []
def ZZ_:E->List S->List S->S:=.ite
def y:Nat->E->S:=.asg
def e:E->S:=.expr
def b:List S:=[.bad]
def m(o:Nat)(x:Nat)(l:List E):S:=.expr (.ì (.loc o) x l)
def p(o:Nat)(a:Nat)(x:Nat)(l:List E):S:=.expr (.ì (.attr (.loc o) a) x l)
def F(x:Nat)(e:E)(b:List S):S:=.Č x e none b
def c(x:Nat)(f:Nat)(l:List E):S:=.expr (.Ñ x f l)
def w:E->List S->S:=.while
def u:Nat->fo->E->S:=.mB
def v(x:Nat):S:=.mB x .add (.const (.int 1))
def q:E->Nat->E->S:=.mA
def g(x:Nat):S:=.ret (some (.loc x))
end ZZ_
section
open ZZ_
def aG:Fn:=⟨[3],[q (L 3) 4 (l []),q (L 3) 5 (.dict [] []),q (L 3) 6 (l []),q (L 3) 7 (l []),q (L 3) 8 (l []),.Č 11 (G 9 16) (some 10) [y 12 (t [G 13 1,L 11]),p 3 4 0 [L 12],.é (A 3 5) (L 12) (L 11),p 3 6 0 [K 1],p 3 7 0 [K 1],p 3 8 0 [K 0]]]⟩
def bH:Fn:=⟨[3,14],[I (o [Z .lt (L 14) (K 0),Z .ge (L 14) (ZZ9 (A 3 4))]) b,R (s (A 3 4) (L 14))]⟩
def bI:Fn:=⟨[3,12],[y 16 (P 3 5 2 [L 12,.neg (K 1)]),I (Z .ge (L 16) (K 0)) [g 16],c 17 6 [L 3,L 12],y 18 (K 1),y 19 (K 1),y 20 (K 0),I (o [X (D 12 0) (G 21 6),X (D 12 0) (G 22 7)]) [y 20 (K 1)],y 23 (C 24 4 [D 12 0]),F 26 (C 25 3 [L 12]) [I (Z .gt (B .add (s (A 3 6) (L 26)) (L 23)) (L 18)) [y 18 (B .add (s (A 3 6) (L 26)) (L 23))],u 19 .add (s (A 3 7) (L 26)),I (X (s (A 3 8) (L 26)) (K 1)) [y 20 (K 1)]],I (Z .gt (L 18) (G 27 24)) b,I (Z .gt (L 19) (G 28 4096)) b,y 14 (ZZ9 (A 3 4)),p 3 4 0 [L 12],.é (A 3 5) (L 12) (L 14),p 3 6 0 [L 18],p 3 7 0 [L 19],p 3 8 0 [L 20],g 14]⟩
def dR:Fn:=⟨[12],[y 29 (D 12 0),I (o [X (L 29) (G 30 2),X (L 29) (G 31 3)]) [R (D 12 2)],I (o [X (L 29) (G 32 4),X (L 29) (G 33 5),X (L 29) (G 34 8),X (L 29) (G 35 9),X (L 29) (G 36 11)]) [R (t [D 12 1])],I (X (L 29) (G 37 10)) [R (B .add (t [D 12 1]) (D 12 3))],R (t [])]⟩
def iF:Fn:=⟨[29],[I (o [X (L 29) (G 30 2),X (L 29) (G 31 3),X (L 29) (G 32 4)]) [R (K 1)],R (K 0)]⟩
def fB:Fn:=⟨[29],[I (o [X (L 29) (G 30 2),X (L 29) (G 31 3)]) [R (K 3)],I (X (L 29) (G 37 10)) [R (K 4)],R (K 2)]⟩
def aH:Fn:=⟨[38,12],[I (o [X (ZZ9 (L 12)) (K 0),Z .le (D 12 0) (G 13 1),Z .gt (D 12 0) (G 36 11)]) b,y 29 (D 12 0),I (Z .ne (ZZ9 (L 12)) (C 39 5 [L 29])) b,F 26 (C 25 3 [L 12]) [m 38 12 [L 26]],ZZ_ (o [X (L 29) (G 30 2),X (L 29) (G 31 3)]) [c 40 7 [L 38,L 12]] [ZZ_ (o [X (L 29) (G 21 6),X (L 29) (G 22 7)]) [I (Z .lt (D 12 1) (K 0)) b] [ZZ_ (X (L 29) (G 37 10)) [I (o [n (C 41 9 [L 38,D 12 1]),Z .lt (D 12 2) (K 0)]) b,c 42 8 [L 38,D 12 3]] [ZZ_ (X (L 29) (G 34 8)) b [I (n (C 41 9 [L 38,D 12 1])) b]]]]]⟩
def dS:Fn:=⟨[38,12],[I (o [Z .le (D 12 1) (K 0),.BL (D 12 1) 43 [20,9,10,11,12,13,14,15,16,17,18,19,1,4]]) b,c 42 8 [L 38,D 12 2]]⟩
def fC:Fn:=⟨[38,44],[F 45 (L 44) [I (n (C 41 9 [L 38,L 45])) b]]⟩
def iG:Fn:=⟨[38,14],[I (o [X (L 14) (G 46 0),X (L 14) (G 47 14)]) [R (k false)],y 29 (s (M 38 12 [L 14]) (K 0)),R (o [Z .le (L 29) (G 32 4),X (L 29) (G 21 6),X (L 29) (G 22 7)])]⟩
def fE:Fn:=⟨[3],[q (L 3) 38 (.new 48 0 []),q (L 3) 49 (l [N]),q (L 3) 50 (l [N]),q (L 3) 51 (l [N]),q (L 3) 52 (.dict [] []),q (L 3) 53 (l []),q (L 3) 54 (K 0)]⟩
def lM:Fn:=⟨[55],[I (X (D 55 0) (G 56 4)) [I (X (D 55 1) (K 0)) [R (l [])],R (l [D 55 1])],I (Z .ne (D 55 0) (G 57 5)) [R (l [])],y 16 (l []),y 58 (l [L 55]),w (Z .gt (ZZ9 (L 58)) (K 0)) [y 59 (M 58 1 []),ZZ_ (X (D 59 0) (G 57 5)) [y 60 (B .sub (ZZ9 (D 59 2)) (K 1)),w (Z .ge (L 60) (K 0)) [m 58 0 [s (D 59 2) (L 60)],u 60 .sub (K 1)]] [I (a [X (D 59 0) (G 56 4),Z .ne (D 59 1) (K 0)]) [m 16 0 [D 59 1]]]],g 16]⟩
def fF:Fn:=⟨[55,61,62],[I (X (D 55 0) (G 57 5)) b,R (C 63 13 [L 55,L 61,L 62])]⟩
def fG:Fn:=⟨[55,61,62],[I (X (D 55 0) (G 56 4)) [R (t [G 56 4,M 61 2 [D 55 1,D 55 1]])],I (a [X (D 55 0) (G 64 6),X (s (D 55 1) (K 0)) (G 65 3)]) [y 60 (D 55 1),R (t [G 64 6,t [G 65 3,M 62 66 [D 60 1],D 60 2]])],g 55]⟩
def cb:Fn:=⟨[3],[q (L 3) 4 (l [])]⟩
def fH:Fn:=⟨[67,29,68],[p 67 4 0 [l [L 29,L 68,K 1]],R (ZZ9 (A 67 4))]⟩
def oQ:Fn:=⟨[67,69],[I (o [Z .lt (L 69) (K 1),Z .gt (L 69) (ZZ9 (A 67 4))]) [R (K 0)],y 12 (s (A 67 4) (B .sub (L 69) (K 1))),I (X (H 12 70 2) (K 0)) [R (K 0)],R (H 12 71 1)]⟩
def bJ:Fn:=⟨[67],[y 72 (l []),F 12 (A 67 4) [I (a [X (H 12 73 0) (G 74 3),X (H 12 70 2) (K 1),Z .ne (H 12 71 1) (K 0)]) [m 72 0 [t [G 56 4,H 12 71 1]]]],g 72]⟩
def fI:Fn:=⟨[75,68,76,77],[y 78 (P 75 79 2 [L 68]),R (a [Z .bF (L 78) N,Z .le (A 78 77) (L 77),Z .ũ (L 68) (L 76)])]⟩
def bK:Fn:=⟨[67,29,76,75,77],[y 80 (K 0),F 12 (A 67 4) [I (a [X (H 12 73 0) (L 29),Z .ne (H 12 71 1) (K 0),C 81 18 [L 75,H 12 71 1,L 76,L 77]]) [.é (L 12) (G 71 1) (K 0),v 80]],g 80]⟩
def cf:Fn:=⟨[67,82],[F 12 (A 67 4) [I (Z .isin (H 12 71 1) (L 82)) [.é (L 12) (G 71 1) (s (L 82) (H 12 71 1))]]]⟩
def dT:Fn:=⟨[75,76,77],[y 83 (l []),y 84 (l []),F 68 (A 75 85) [ZZ_ (C 81 18 [L 75,L 68,L 76,L 77]) [m 84 0 [L 68],p 75 86 0 [t [G 56 4,L 68]]] [m 83 0 [L 68]]],q (L 75) 85 (L 83),g 84]⟩
def jD:Fn:=⟨[75,68],[p 75 85 0 [L 68]]⟩
def jE:Fn:=⟨[75,68],[y 83 (l []),F 87 (A 75 85) [I (Z .ne (L 87) (L 68)) [m 83 0 [L 87]]],q (L 75) 85 (L 83),y 88 (l []),F 55 (A 75 86) [I (Z .ne (D 55 1) (L 68)) [m 88 0 [L 55]]],q (L 75) 86 (L 88)]⟩
def fJ:Fn:=⟨[75,68],[p 75 85 0 [L 68]]⟩
def fK:Fn:=⟨[75],[I (X (ZZ9 (A 75 86)) (K 0)) [R (K 0)],R (s (P 75 86 1 [K 0]) (K 1))]⟩
def iH:Fn:=⟨[80],[I (Z .lt (B .add (G 89 2) (L 80)) (G 90 3)) [R (G 90 3)],R (B .add (G 89 2) (L 80))]⟩
def fM:Fn:=⟨[3,68,91,92],[q (L 3) 68 (L 68),q (L 3) 91 (L 91),q (L 3) 92 (L 92),q (L 3) 77 (K 0),q (L 3) 93 (C 94 26 [ZZ9 (L 92)]),q (L 3) 95 (K 0)]⟩
def iI:Fn:=⟨[3,96,97],[q (L 3) 98 (l []),q (L 3) 79 (.dict [] []),q (L 3) 59 (G 99 16),q (L 3) 96 (L 96),q (L 3) 100 (.dict [] []),q (L 3) 97 (L 97),q (L 3) 101 (K 0),q (L 3) 102 (B .add (B .fdiv (L 96) (K 4)) (K 1)),q (L 3) 85 (l []),q (L 3) 86 (l []),q (L 3) 103 (K 0),q (L 3) 104 (K 0)]⟩
def fN:Fn:=⟨[75,91,92],[y 78 (.new 105 3 [A 75 59,L 91,L 92]),.jw (L 75) 104 .add (K 1),q (L 78) 95 (A 75 104),p 75 98 0 [L 78],.é (A 75 79) (A 78 68) (L 78),.jw (L 75) 59 .add (A 78 93),.jw (L 75) 101 .add (A 78 93),g 78]⟩
def fP:Fn:=⟨[75],[R (B .sub (A 75 59) (G 99 16))]⟩
def aI:Fn:=⟨[75,77],[q (L 75) 101 (K 0),I (a [Z .ge (L 77) (G 106 2),Z .gt (B .mul (K 2) (C 107 30 [L 75])) (A 75 96)]) [q (L 75) 96 (B .mul (K 2) (C 107 30 [L 75]))]]⟩
def fQ:Fn:=⟨[75,108],[y 109 (P 75 79 2 [L 108]),I (Z .bF (L 109) N) [g 109],y 110 (K 0),y 111 (ZZ9 (A 75 98)),w (Z .lt (L 110) (L 111)) [y 112 (B .fdiv (B .add (L 110) (L 111)) (K 2)),ZZ_ (Z .le (.attr (s (A 75 98) (L 112)) 68) (L 108)) [y 110 (B .add (L 112) (K 1))] [y 111 (L 112)]],I (X (L 110) (K 0)) [R N],y 78 (s (A 75 98) (B .sub (L 110) (K 1))),I (Z .lt (L 108) (B .add (A 78 68) (A 78 93))) [g 78],R N]⟩
def iJ:Fn:=⟨[78,113],[R (B .add (B .add (A 78 68) (G 89 2)) (L 113))]⟩
def aa:Fn:=⟨[55],[I (X (D 55 0) (G 56 4)) [R (Z .ne (D 55 1) (K 0))],F 68 (C 114 11 [L 55]) [I (Z .ne (L 68) (K 0)) [R (k true)]],R (k false)]⟩
def dU:Fn:=⟨[75,108],[R (B .shr (L 108) (A 75 97))]⟩
def fR:Fn:=⟨[75,78,113,55],[.é (A 78 92) (L 113) (L 55),I (a [Z .gt (A 78 77) (K 0),C 115 34 [L 55]]) [.é (A 75 100) (C 116 35 [L 75,C 117 33 [L 78,L 113]]) (K 1)]]⟩
def aJ:Fn:=⟨[3,75,118,119],[q (L 3) 75 (L 75),q (L 3) 118 (L 118),q (L 3) 119 (L 119)]⟩
def fS:Fn:=⟨[3,11,120,121,44,29],[q (L 3) 11 (L 11),q (L 3) 120 (L 120),q (L 3) 121 (L 121),q (L 3) 122 (K 0),q (L 3) 44 (L 44),q (L 3) 123 (l []),q (L 3) 124 (l []),q (L 3) 125 (l []),q (L 3) 126 (l []),q (L 3) 127 (l []),q (L 3) 128 (l []),q (L 3) 29 (L 29),q (L 3) 129 (L 11),q (L 3) 130 (K 0),q (L 3) 131 (.neg (K 1))]⟩
def dW:Fn:=⟨[3,109,120],[R (C 132 46 [P 3 133 2 [t [L 109,D 120 1]],L 120])]⟩
def aK:Fn:=⟨[3,134,135],[R (C 136 44 [L 3,L 134])]⟩
def fT:Fn:=⟨[3,137,75],[q (L 3) 137 (L 137),q (L 3) 38 (A 137 38),q (L 3) 75 (L 75),q (L 3) 138 (.dict [] []),q (L 3) 4 (.dict [] []),q (L 3) 133 (.dict [] []),q (L 3) 139 (.dict [] []),q (L 3) 140 (.dict [] []),q (L 3) 85 (.dict [] []),q (L 3) 118 (l []),q (L 3) 141 (.dict [] []),q (L 3) 119 (.dict [] []),q (L 3) 142 (.dict [] []),q (L 3) 143 (.dict [] []),q (L 3) 144 (.dict [] []),q (L 3) 145 (.dict [] []),q (L 3) 146 (G 147 0),q (L 3) 148 (l []),q (L 3) 149 (l []),q (L 3) 150 (l []),q (L 3) 151 (l []),q (L 3) 152 (l []),q (L 3) 153 (.dict [] []),q (L 3) 154 (l []),q (L 3) 155 (l []),q (L 3) 156 N,q (L 3) 157 N,q (L 3) 158 (l []),q (L 3) 159 N,q (L 3) 160 (.new 161 5 [L 75,A 3 141,A 3 119]),q (L 3) 162 (.new 163 7 []),q (L 3) 164 (.new 165 9 []),q (L 3) 166 (.new 167 8 [])]⟩
def ab:Fn:=⟨[3,14],[R (Z .isin (L 14) (A 3 85))]⟩
def ae:Fn:=⟨[3,120,44,29],[R (C 168 45 [L 3,L 120,L 44,L 29])]⟩
def dY:Fn:=⟨[169,134],[I (X (A 169 146) (G 147 0)) [p 169 149 0 [L 134]],R (G 170 (-2))]⟩
def dZ:Fn:=⟨[169,120,44,29],[p 169 150 0 [t [L 120,L 44,L 29]],y 171 (.new 172 6 [ZZ9 (A 169 150),L 120,N,L 44,L 29]),p 169 151 0 [L 171],g 171]⟩
def d6:Fn:=⟨[12,120],[I (Z .is (L 12) N) [g 120],R (t [D 12 0,D 12 1,D 120 2])]⟩
def jF:Fn:=⟨[55],[I (X (D 55 0) (G 56 4)) [R (l [D 55 1])],I (X (D 55 0) (G 64 6)) [y 60 (D 55 1),I (X (D 60 0) (G 65 3)) [R (l [D 60 1])],R (l [])],R (C 114 11 [L 55])]⟩
def iK:Fn:=⟨[75,108,77,76,173],[I (X (L 108) (K 0)) [.ret none],y 78 (C 174 32 [L 75,L 108]),I (o [Z .is (L 78) N,Z .gt (A 78 77) (L 77),Z .isin (A 78 68) (L 76)]) [.ret none],.é (L 76) (A 78 68) (K 1),m 173 0 [L 78]]⟩
def fU:Fn:=⟨[75,55,77,76,173],[F 108 (C 175 47 [L 55]) [c 176 48 [L 75,L 108,L 77,L 76,L 173]]]⟩
def tr:Fn:=⟨[75,173,77,76],[w (Z .gt (ZZ9 (L 173)) (K 0)) [y 78 (M 173 1 []),F 55 (A 78 92) [c 177 49 [L 75,L 55,L 77,L 76,L 173]]]]⟩
def iL:Fn:=⟨[75,77],[y 72 (l []),F 78 (A 75 98) [I (Z .gt (A 78 77) (L 77)) [.Č 113 (ZZ9 (A 78 92)) (some 10) [I (Z .isin (C 116 35 [L 75,C 117 33 [L 78,L 113]]) (A 75 100)) [m 72 0 [t [L 78,L 113]]]]]],g 72]⟩
def xK:Fn:=⟨[75,178,77],[y 76 (.dict [] []),y 173 (l []),F 179 (L 178) [F 55 (L 179) [c 177 49 [L 75,L 55,L 77,L 76,L 173]]],I (Z .lt (L 77) (G 106 2)) [.g_ 78 113 (C 180 51 [L 75,L 77]) [c 177 49 [L 75,s (A 78 92) (L 113),L 77,L 76,L 173]]],c 181 50 [L 75,L 173,L 77,L 76],g 76]⟩
def fV:Fn:=⟨[75,76,182,77],[y 173 (l []),F 68 (L 182) [c 176 48 [L 75,L 68,L 77,L 76,L 173]],c 181 50 [L 75,L 173,L 77,L 76]]⟩
def iM:Fn:=⟨[75,108],[.é (A 75 100) (C 116 35 [L 75,L 108]) (K 1)]⟩
def aL:Fn:=⟨[75,78,55],[F 68 (C 114 11 [L 55]) [y 87 (P 75 79 2 [L 68]),I (a [Z .bF (L 87) N,Z .lt (A 87 77) (A 78 77)]) [R (k true)]],R (k false)]⟩
def bL:Fn:=⟨[75],[y 72 (l []),F 78 (A 75 98) [I (Z .gt (A 78 77) (K 0)) [.Č 113 (ZZ9 (A 78 92)) (some 10) [I (C 183 55 [L 75,L 78,s (A 78 92) (L 113)]) [m 72 0 [t [L 78,L 113]]]]]],g 72]⟩
def d7:Fn:=⟨[75],[q (L 75) 100 (.dict [] []),.g_ 78 113 (C 184 56 [L 75]) [c 185 54 [L 75,C 117 33 [L 78,L 113]]]]⟩
def cj:Fn:=⟨[75,77],[y 186 (G 99 16),F 78 (A 75 98) [I (a [Z .gt (A 78 77) (L 77),Z .gt (B .add (A 78 68) (A 78 93)) (L 186)]) [y 186 (B .add (A 78 68) (A 78 93))]],g 186]⟩
def fW:Fn:=⟨[75,76,77],[y 82 (.dict [] []),y 187 (C 188 58 [L 75,L 77]),F 78 (A 75 98) [I (a [Z .le (A 78 77) (L 77),Z .isin (A 78 68) (L 76)]) [.é (L 82) (A 78 68) (L 187),u 187 .add (A 78 93)]],g 82]⟩
def fX:Fn:=⟨[3,75,82],[q (L 3) 75 (L 75),q (L 3) 82 (L 82)]⟩
def ts:Fn:=⟨[78,82,77],[R (o [Z .gt (A 78 77) (L 77),Z .isin (A 78 68) (L 82)])]⟩
def cq:Fn:=⟨[179,82,62],[y 72 (l []),F 55 (L 179) [m 72 0 [C 189 12 [L 55,L 82,L 62]]],g 72]⟩
def iN:Fn:=⟨[178,82,62],[y 72 (l []),F 179 (L 178) [m 72 0 [C 190 62 [L 179,L 82,L 62]]],g 72]⟩
def iO:Fn:=⟨[178,101],[.Č 60 (ZZ9 (L 178)) (some 10) [y 179 (s (L 178) (L 60)),.Č 191 (ZZ9 (L 179)) (some 10) [.é (L 179) (L 191) (s (s (L 101) (L 60)) (L 191))]]]⟩
def d8:Fn:=⟨[182,82],[y 72 (l []),F 68 (L 182) [m 72 0 [M 82 2 [L 68,L 68]]],g 72]⟩
def cu:Fn:=⟨[75,78,82,77],[I (Z .gt (A 78 77) (L 77)) [.ret none],y 187 (s (L 82) (A 78 68)),I (Z .ne (L 187) (A 78 68)) [.jw (L 75) 103 .add (K 1)],q (L 78) 68 (L 187),I (Z .lt (A 78 77) (G 106 2)) [.jw (L 78) 77 .add (K 1)]]⟩
def bM:Fn:=⟨[75,82,77],[y 192 (l []),F 78 (A 75 98) [I (C 193 61 [L 78,L 82,L 77]) [m 192 0 [L 78]]],q (L 75) 98 (L 192),q (L 75) 79 (.dict [] []),q (L 75) 59 (G 99 16),F 78 (L 192) [c 194 66 [L 75,L 78,L 82,L 77],.é (A 75 79) (A 78 68) (L 78),q (L 75) 59 (B .add (A 78 68) (A 78 93))]]⟩
def jG:Fn:=⟨[75,178,82,77],[y 62 (.new 195 11 [L 75,L 82]),y 196 (l []),F 179 (L 178) [m 196 0 [L 179]],m 196 0 [A 75 86],F 78 (A 75 98) [I (C 193 61 [L 78,L 82,L 77]) [m 196 0 [A 78 92]]],c 197 64 [L 196,C 198 63 [L 196,L 82,L 62]],q (L 75) 85 (C 199 65 [A 75 85,L 82]),c 200 67 [L 75,L 82,L 77]]⟩
def fY:Fn:=⟨[75,178,159],[y 72 (l []),F 179 (L 178) [m 72 0 [L 179]],m 72 0 [A 75 86],I (Z .bF (L 159) N) [m 72 0 [C 201 17 [L 159]]],g 72]⟩
def d9:Fn:=⟨[75,178,159,77],[y 76 (C 202 52 [L 75,C 203 69 [L 75,L 178,L 159],L 77]),I (Z .bF (L 159) N) [c 204 19 [L 159,G 205 1,L 76,L 75,L 77]],y 84 (C 206 21 [L 75,L 76,L 77]),c 207 53 [L 75,L 76,L 84,L 77],I (Z .bF (L 159) N) [c 204 19 [L 159,G 208 2,L 76,L 75,L 77]],g 76]⟩
def lN:Fn:=⟨[75,178,159,77],[y 209 (ZZ9 (A 75 98)),y 76 (C 210 70 [L 75,L 178,L 159,L 77]),y 82 (C 211 59 [L 75,L 76,L 77]),c 212 68 [L 75,L 178,L 82,L 77],I (Z .bF (L 159) N) [c 213 20 [L 159,L 82]],c 214 57 [L 75],c 215 31 [L 75,L 77],R (B .sub (L 209) (ZZ9 (A 75 98)))]⟩
def tu:Fn:=⟨[169],[y 72 (l []),F 171 (A 169 118) [I (X (A 171 129) (A 171 11)) [m 72 0 [A 171 44],m 72 0 [A 171 123]],m 72 0 [A 171 124],m 72 0 [A 171 128],m 72 0 [A 171 127]],F 91 (.bi 216 .sorted [A 169 119]) [m 72 0 [s (A 169 119) (L 91)]],F 217 (A 169 152) [m 72 0 [A 217 218]],m 72 0 [A 169 154],F 179 (A 169 155) [m 72 0 [L 179]],F 91 (.bi 216 .sorted [A 169 143]) [m 72 0 [s (A 169 143) (L 91)]],m 72 0 [A 169 158],g 72]⟩
def d_:Fn:=⟨[169,77],[I (Z .is (A 169 159) N) [q (L 169) 159 (.new 219 2 [])],R (C 220 71 [A 169 75,C 221 72 [L 169],A 169 159,L 77])]⟩
def ec:Fn:=⟨[169,55],[R (.ì (.attr (A 169 75) 79) 2 [D 55 1])]⟩
def cw:Fn:=⟨[169,134,135],[m 169 222 [L 134,L 135],R (G 223 (-2))]⟩
def aM:Fn:=⟨[3,169,171,44],[c 224 73 [L 169,K 2],R (G 225 (-1))]⟩
def ś:Fn:=⟨[3,169,171,44],[y 77 (s (D 44 0) (K 1)),I (Z .lt (L 77) (K 0)) [R (C 226 75 [L 169,G 227 32,Q 228])],I (Z .gt (L 77) (K 2)) [y 77 (K 2)],c 224 73 [L 169,L 77],R (G 225 (-1))]⟩
def cx:Fn:=⟨[169,91],[R (M 169 229 [L 91,t [G 230 12,G 231 6,t []]])]⟩
def ag:Fn:=⟨[3,169,171,44],[I (X (s (D 44 0) (K 1)) (K 0)) [R (C 226 75 [L 169,G 232 31,Q 233])],c 234 23 [A 169 75,s (D 44 0) (K 1)],R (G 225 (-1))]⟩
def Ŝ:Fn:=⟨[3,169,171,44],[y 78 (C 235 74 [L 169,D 44 0]),I (Z .is (L 78) N) [R (C 226 75 [L 169,G 232 31,Q 233])],I (M 169 236 [A 78 91]) [c 237 24 [A 169 75,A 78 68]],R (G 225 (-1))]⟩
def cy:Fn:=⟨[169],[F 238 (A 169 118) [I (X (A 238 29) (G 239 5)) [R (k true)]],R (k false)]⟩
def ed:Fn:=⟨[3,169,171,44],[I (C 240 81 [L 169]) [R (G 225 (-1))],y 68 (C 241 25 [A 169 75]),I (X (L 68) (K 0)) [R (G 225 (-1))],m 169 242 [C 243 78 [L 169,.attr (s (.attr (A 169 75) 79) (L 68)) 91],l [t [G 56 4,L 68]],G 239 5],R (G 223 (-2))]⟩
def ŝ:Fn:=⟨[169],[.é (A 169 145) (G 244 33) (.new 245 12 []),.é (A 169 145) (G 246 34) (.new 247 13 []),.é (A 169 145) (G 248 35) (.new 249 14 []),.é (A 169 145) (G 250 36) (.new 251 15 []),.é (A 169 145) (G 252 37) (.new 253 16 [])]⟩
def bN:Fn:=⟨[3,169,171,44],[I (Z .is (A 169 159) N) [q (L 169) 159 (.new 219 2 [])],y 29 (G 205 1),I (Z .ne (s (D 44 1) (K 1)) (K 0)) [y 29 (G 208 2)],R (t [G 254 1,C 255 15 [A 169 159,L 29,s (D 44 0) (K 1)]])]⟩
def ah:Fn:=⟨[3,169,171,44],[I (Z .is (A 169 159) N) [R (t [G 56 4,K 0])],R (t [G 56 4,C 229 16 [A 169 159,s (D 44 0) (K 1)]])]⟩
def ŀ:Fn:=⟨[169],[.é (A 169 145) (G 256 38) (.new 257 17 []),.é (A 169 145) (G 258 39) (.new 259 18 [])]⟩
def iP:Fn:=⟨[260,261],[R (t [G 56 4,s (W 262) (L 261)])]⟩
def jH:Fn:=⟨[260],[y 169 (W 169),.é (L 260) (Q 262) (.dict [.int 0] [K 0]),F 263 (.attr (A 169 75) 98) [.é (W 262) (A 263 95) (A 263 68)],I (Z .ne (.comp (A 263 95) 263 (.attr (A 169 75) 98) none []) (W 264)) [R (k false)],F 263 (.attr (A 169 75) 98) [I (o [Z .ne (A 263 91) (s (W 265) (s (W 266) (A 263 95))),Z .ne (A 263 77) (s (W 267) (A 263 95)),Z .ne (A 263 92) (.comp (C 268 87 [L 260,L 261]) 261 (s (W 92) (A 263 95)) none [])]) [R (k false)]],F 218 (W 269) [I (Z .ne (s (D 218 0) (D 218 1)) (C 268 87 [L 260,D 218 2])) [R (k false)]],y 4 (B .add (B .add (l [K 0,K 0]) (.comp (D 12 1) 12 (W 4) none [])) (l [K 0])),.Č 191 (ZZ9 (L 4)) (some 10) [I (Z .ne (.ì (s (A 169 145) (G 258 39)) 270 [L 169,s (A 169 118) (K 0),l [t [G 254 1,B .sub (L 191) (K 1)]]]) (C 268 87 [L 260,s (L 4) (L 191)])) [R (k false)]],R (a [X (.attr (A 169 75) 85) (.comp (s (W 262) (L 261)) 261 (W 85) none []),X (.attr (A 169 75) 86) (.comp (C 268 87 [L 260,L 261]) 261 (W 86) none []),X (A 169 149) (W 149),X (A 169 148) (l []),X (A 169 146) (G 147 0),X (ZZ9 (A 169 151)) (W 271)])]⟩
def iQ:Fn:=⟨[260,77,272],[y 16 (l []),y 273 (L 272),w (Z .gt (ZZ9 (L 273)) (K 0)) [y 101 (l []),F 261 (L 273) [I (a [Z .gt (L 261) (K 0),Z .le (s (W 267) (L 261)) (L 77),Z .ũ (L 261) (L 16)]) [m 16 0 [L 261],y 101 (B .add (L 101) (s (W 92) (L 261)))]],y 273 (L 101)],g 16]⟩
def jI:Fn:=⟨[260,29,77,16],[F 12 (W 4) [I (a [X (D 12 0) (L 29),Z .le (s (W 267) (D 12 1)) (L 77),Z .ũ (D 12 1) (L 16)]) [.é (L 12) (K 1) (K 0)]]]⟩
def ej:Fn:=⟨[260,77],[y 272 (B .add (W 86) (.comp (D 218 2) 218 (W 269) none [])),F 261 (W 264) [I (Z .gt (s (W 267) (L 261)) (L 77)) [y 272 (B .add (L 272) (s (W 92) (L 261)))]],y 16 (C 274 89 [L 260,L 77,L 272]),c 275 90 [L 260,K 0,L 77,L 16],y 276 (.comp (L 261) 261 (W 85) none [a [Z .le (s (W 267) (L 261)) (L 77),Z .ũ (L 261) (L 16)]]),.é (L 260) (Q 85) (.comp (L 261) 261 (W 85) none [Z .ũ (L 261) (L 276)]),.é (L 260) (Q 86) (B .add (W 86) (L 276)),y 16 (C 274 89 [L 260,L 77,B .add (L 272) (L 276)]),c 275 90 [L 260,K 1,L 77,L 16],.é (L 260) (Q 264) (.comp (L 261) 261 (W 264) none [o [Z .gt (s (W 267) (L 261)) (L 77),Z .isin (L 261) (L 16)]]),F 261 (L 16) [.é (W 267) (L 261) (.bi 277 .min [K 2,B .add (s (W 267) (L 261)) (K 1)])]]⟩
def lP:Fn:=⟨[260,278,261],[y 218 (s (W 269) (L 278)),.é (D 218 0) (D 218 1) (C 268 87 [L 260,L 261]),.é (L 218) (K 2) (L 261)]⟩
def jJ:Fn:=⟨[260,279],[y 69 (ZZ9 (W 269)),y 280 (B .fdiv (L 279) (K 4)),y 155 (.comp (D 218 2) 218 (W 269) none []),y 92 (l [s (L 155) (B .mod (L 280) (L 69)),s (B .add (l [K 0]) (L 155)) (B .mod (B .fdiv (L 280) (L 69)) (B .add (L 69) (K 1)))]),y 263 (C 281 29 [.attr (W 169) 75,s (W 265) (B .mod (L 279) (K 4)),.comp (C 268 87 [L 260,L 261]) 261 (L 92) none []]),.lj (L 260) (Q 104) .add (K 1),e (.ì (W 266) 0 [B .mod (L 279) (K 4)]),e (.ì (W 267) 0 [K 0]),e (.ì (W 92) 0 [L 92]),e (.ì (W 264) 0 [W 104]),.é (W 262) (W 104) (A 263 68),I (Z .ne (B .mod (L 279) (K 4)) (K 1)) [c 282 22 [.attr (W 169) 75,A 263 68],e (.ì (W 85) 0 [W 104])],c 283 92 [L 260,B .mod (B .fdiv (B .fdiv (L 280) (L 69)) (B .add (L 69) (K 1))) (L 69),W 104],R (k true)]⟩
def jK:Fn:=⟨[260],[.lj (L 260) (Q 79) .add (K 1),I (Z .le (W 79) (ZZ9 (W 284))) [R (s (W 284) (B .sub (W 79) (K 1)))],R (K 0)]⟩
def br:Fn:=⟨[260,270],[y 169 (W 169),I (Z .gt (ZZ9 (W 269)) (K 4)) [R (X (M 270 270 [L 169,s (A 169 118) (B .sub (ZZ9 (A 169 118)) (K 1)),l []]) (G 225 (-1)))],w (Z .gt (ZZ9 (W 86)) (K 0)) [y 261 (s (W 86) (K 0)),.é (L 260) (Q 86) (.slice (W 86) (some 1) none),I (Z .ne (M 270 270 [L 169,s (A 169 118) (K 0),l []]) (G 223 (-2))) [R (k false)],y 270 (.new 253 16 []),.lj (L 260) (Q 271) .add (K 1),y 171 (s (A 169 151) (B .sub (ZZ9 (A 169 151)) (K 1))),.ou 285 286 (s (t [t [K 0,K 300],t [K 0,K 0],t [K 0,K 300],t [K 3,K 301]]) (s (W 266) (L 261))),I (Z .ne (t [A 171 120,A 171 44,A 171 29]) (t [t [s (W 265) (L 285),L 286,t []],l [C 268 87 [L 260,L 261]],G 239 5])) [R (k false)],p 169 118 0 [L 171],e (.ì (W 269) 0 [l [A 171 44,K 0,L 261]]),y 287 (C 288 94 [L 260]),I (X (B .mod (B .fdiv (L 287) (K 3)) (K 2)) (K 1)) [p 169 118 0 [.new 172 6 [B .add (K 9000) (W 271),t [G 230 12,K 400,t []],N,l [],G 289 0]]],I (n (C 290 88 [L 260])) [R (k false)],.Č 191 (B .mod (L 287) (K 3)) (some 10) [I (n (C 291 100 [L 260,C 288 94 [L 260]])) [R (k false)]],q (L 169) 118 (.slice (A 169 118) none (some 1)),.é (L 260) (Q 269) (.slice (W 269) none (some 4))],R (X (M 270 270 [L 169,s (A 169 118) (K 0),l []]) (G 225 (-1)))]⟩
def fZ:Fn:=⟨[260,11,44],[R (.ì (s (.attr (W 169) 145) (L 11)) 270 [W 169,s (.attr (W 169) 118) (K 0),L 44])]⟩
def jL:Fn:=⟨[260,261,11],[y 292 (C 293 96 [L 260,L 11,l [C 268 87 [L 260,L 261]]]),I (X (L 261) (K 0)) [e (.ì (W 149) 0 [G 232 31]),R (X (L 292) (G 223 (-2)))],ZZ_ (X (L 11) (G 248 35)) [.é (L 260) (Q 85) (.comp (L 294) 294 (W 85) none [Z .ne (L 294) (L 261)]),.é (L 260) (Q 86) (.comp (L 294) 294 (W 86) none [Z .ne (L 294) (L 261)])] [I (Z .ne (s (W 266) (L 261)) (K 1)) [e (.ì (W 85) 0 [L 261])]],R (X (L 292) (G 225 (-1)))]⟩
def lQ:Fn:=⟨[260,77],[y 292 (C 293 96 [L 260,G 246 34,l [t [G 254 1,L 77]]]),I (Z .lt (L 77) (K 0)) [e (.ì (W 149) 0 [G 227 32]),R (X (L 292) (G 223 (-2)))],c 295 91 [L 260,.bi 277 .min [L 77,K 2]],R (X (L 292) (G 225 (-1)))]⟩
def jM:Fn:=⟨[260,296,279],[y 69 (ZZ9 (W 269)),y 261 (s (s (W 269) (B .mod (L 279) (L 69))) (K 2)),y 280 (B .fdiv (L 279) (L 69)),I (Z .lt (L 296) (K 2)) [R (C 297 93 [L 260,L 279])],ZZ_ (X (L 296) (K 2)) [c 283 92 [L 260,B .mod (L 280) (L 69),L 261]] [ZZ_ (X (L 296) (K 3)) [c 283 92 [L 260,B .mod (L 279) (L 69),K 0]] [ZZ_ (a [X (L 296) (K 4),Z .gt (L 261) (K 0)]) [y 294 (s (s (W 269) (B .mod (B .fdiv (L 280) (K 2)) (L 69))) (K 2)),c 298 36 [.attr (W 169) 75,s (.attr (.attr (W 169) 75) 79) (s (W 262) (L 261)),B .mod (L 280) (K 2),C 268 87 [L 260,L 294]],.é (s (W 92) (L 261)) (B .mod (L 280) (K 2)) (L 294)] [ZZ_ (X (L 296) (K 5)) [y 292 (C 293 96 [L 260,G 244 33,l []]),c 295 91 [L 260,K 2],R (X (L 292) (G 225 (-1)))] [ZZ_ (X (L 296) (K 6)) [R (C 299 98 [L 260,s (.glob 300 (.tup [.int 0,.int (-1),.int 1,.int 2,.int 3,.int 2147483647,.int (-2147483648)])) (B .mod (L 279) (K 7))])] [ZZ_ (X (L 296) (K 7)) [R (C 301 97 [L 260,L 261,G 248 35])] [ZZ_ (X (L 296) (K 8)) [R (C 301 97 [L 260,L 261,G 250 36])] [ZZ_ (X (L 296) (K 9)) [R (C 302 95 [L 260,s (.attr (W 169) 145) (G 252 37)])] [ZZ_ (X (L 296) (K 10)) [e (.ì (W 4) 0 [l [B .mod (L 280) (K 2),L 261]]),R (X (C 293 96 [L 260,G 256 38,l [C 268 87 [L 260,L 261],t [G 254 1,B .mod (L 280) (K 2)]]]) (t [G 254 1,ZZ9 (W 4)]))] [I (X (L 296) (K 11)) [y 191 (B .mod (L 280) (B .add (ZZ9 (W 4)) (K 3))),y 292 (C 293 96 [L 260,G 258 39,l [t [G 254 1,B .sub (L 191) (K 1)]]]),c 283 92 [L 260,B .mod (L 279) (L 69),s (B .add (B .add (l [K 0,K 0]) (.comp (D 12 1) 12 (W 4) none [])) (l [K 0])) (L 191)],R (X (L 292) (C 268 87 [L 260,s (s (W 269) (B .mod (L 279) (L 69))) (K 2)]))]]]]]]]]]],R (k true)]⟩
def jN:Fn:=⟨[260,303],[R (a [C 304 99 [L 260,B .mod (L 303) (K 12),B .fdiv (L 303) (K 12)],C 290 88 [L 260]])]⟩
def cA:Fn:=⟨[305],[y 306 (.comp (B .mod (L 69) (K 99991)) 69 (.slice (L 305) none (some 14)) none []),y 307 (s (B .add (L 306) (l [K 0])) (K 0)),y 137 (.new 308 1 []),y 169 (.new 309 10 [L 137,.new 310 4 [K 1000,K 2]]),c 311 83 [L 169],c 312 86 [L 169],y 265 (B .add (.comp (P 137 38 313 [t [G 30 2,B .add (K 64) (L 191),t []]]) 191 (K 3) (some 10) []) (l [P 137 38 313 [t [G 30 2,K 67,t [G 314 7]]]])),F 191 (t [K 0,K 2,K 3]) [.é (A 169 85) (s (L 265) (L 191)) (K 1),.é (A 169 133) (t [s (L 265) (L 191),G 231 6]) (s (t [t [D 265 0,K 300,t []],K 0,t [D 265 0,K 300,t []],t [D 265 3,K 301,t []]]) (L 191))],y 171 (.new 172 6 [K 0,t [G 230 12,K 399,t []],N,l [],s (t [G 289 0,G 315 2,G 316 3,G 317 4,G 318 1]) (B .mod (B .fdiv (L 307) (K 2)) (K 5))]),q (L 171) 123 (l [.glob 319 (.tup [.int 4,.int 0]),.glob 319 (.tup [.int 4,.int 0]),.glob 319 (.tup [.int 4,.int 0])]),q (L 169) 118 (l [L 171]),.é (A 169 119) (K 40) (l [.glob 319 (.tup [.int 4,.int 0])]),y 260 (.dict [.str 169,.str 284,.str 79,.str 265,.str 266,.str 267,.str 92,.str 264,.str 262,.str 104,.str 85,.str 86,.str 4,.str 149,.str 271] [L 169,B .add (.comp (L 303) 303 (.glob 320 (.tup [.int 7,.int 8,.int 18,.int 0,.int 960,.int 10,.int 3,.int 22,.int 70,.int 15,.int 6,.int 9,.int 4,.int 9,.int 2,.int 9,.int 230,.int 5,.int 44,.int 39,.int 5])) none []) (L 306),K 0,L 265,l [K 0],l [K 0],l [l []],l [],.dict [] [],K 0,l [],l [],l [],l [],K 0]),.é (L 260) (Q 269) (l [l [A 171 123,K 0,K 0],l [A 171 123,K 1,K 0],l [A 171 123,K 2,K 0],l [s (A 169 119) (K 40),K 0,K 0]]),y 321 (C 290 88 [L 260]),I (X (B .mod (L 307) (K 2)) (K 1)) [y 321 (a [L 321,C 291 100 [L 260,K 5]])],w (a [L 321,Z .lt (W 79) (ZZ9 (W 284))]) [y 321 (C 291 100 [L 260,C 288 94 [L 260]])],R (a [L 321,C 291 100 [L 260,K 9],C 291 100 [L 260,K 5],C 291 100 [L 260,K 9]])]⟩
end
def Bs:List Fn:=[aG,bH,bI,dR,iF,fB,aH,dS,fC,iG,fE,lM,fF,fG,cb,fH,oQ,bJ,fI,bK,cf,dT,jD,jE,fJ,fK,iH,fM,iI,fN,fP,aI,fQ,iJ,aa,dU,fR,aJ,fS,dW,aK,fT,ab,ae,dY,dZ,d6,jF,iK,fU,tr,iL,xK,fV,iM,aL,bL,d7,cj,fW,fX,ts,cq,iN,iO,d8,cu,bM,jG,fY,d9,lN,tu,d_,ec,cw,aM,ś,cx,ag,Ŝ,cy,ed,ŝ,bN,ah,ŀ,iP,jH,iQ,jI,ej,lP,jJ,jK,br,fZ,jL,lQ,jM,jN,cA]
def fns(f:Nat):Option Fn:=Bs[f]?
def lS:List (List (Nat×Nat)):=[[(12,1),(313,2)],[],[],[],[],[],[],[],[],[],[(229,39),(222,40),(236,42),(242,43)],[],[(270,76)],[(270,77)],[(270,79)],[(270,80)],[(270,82)],[(270,84)],[(270,85)]]
def oR:List (Option Nat):=[(some 0),(some 10),(some 14),(some 27),(some 28),(some 37),(some 38),none,none,none,(some 41),(some 60),none,none,none,none,none,none,none]
def xM:List (List Nat):=[[4,5,6,7,8],[38,49,50,51,52,53,54],[4],[68,91,92,77,93,95],[98,79,59,96,100,97,101,102,85,86,103,104],[75,118,119],[11,120,121,122,44,123,124,125,126,127,128,29,129,130,131],[],[],[],[137,38,75,138,4,133,139,140,85,118,141,119,142,143,144,145,146,148,149,150,151,152,153,154,155,156,157,158,159,160,162,164,166],[75,82],[],[],[],[],[],[],[]]
def G:sZ:=⟨λ c x=>(lS[c]?).bind λ l=>(l.find? (λ p=>p.1==x)).map (·.2),λ c=>oR[c]?,λ c x=>match xM[c]? with|some l=>l.any (λ y=>y==x)|none=>false⟩
end Mine
namespace Mine
theorem xN:fns 81\cy:=rfl
theorem BS:fns 101\cA:=rfl
end Mine
namespace Mine.Z
abbrev val(a:Int):V:=.tup [.int 4,.int a]
def Wf(s:St):Prop:=∀r,s.n<=r->s.get r=none
theorem Wf.lt{s:St}(w:Wf s){r:Nat}{o:O}(h:s.get r\o):r<s.n:=by
 by_cases q:r<s.n
 ·exact q
 ·rw[w r (by exact Yg q)]at h;exact ns h
theorem Wf.set{s:St}(w:Wf s){r:Nat}{o:O}(h:r<s.n):Wf (s.set r o):=by intro i hi;have hi:s.n<=i:=hi;show(if i=r then some o else s.get i)=none;rw[XW (by exact abi (Ye h hi))];exact w i hi
theorem Wf.new{s:St}(w:Wf s){o:O}:Wf (s.new o):=by intro i hi;have hi:s.n+1<=i:=hi;show(if i=s.n then some o else s.get i)=none;rw[XW (by exact abi hi)];exact w i (by exact XJ hi)
theorem get_set{s:St}{r i:Nat}{o:O}:(s.set r o).get i=if i=r then some o else s.get i:=rfl
theorem tv{s:St}{i:Nat}{o:O}:(s.new o).get i=if i=s.n then some o else s.get i:=rfl
theorem mM{s:St}{r:Nat}{o:O}:(s.set r o).get r\o:=by rw[get_set,XR rfl]
theorem qO{s:St}{r i:Nat}{o:O}(h:i≠r):(s.set r o).get i=s.get i:=by rw[get_set,XW h]
theorem mN{s:St}{o:O}:(s.new o).get s.n\o:=by rw[tv,XR rfl]
theorem qP{s:St}{i:Nat}{o:O}(h:i<s.n):(s.new o).get i=s.get i:=by rw[tv,XW (by exact Y9 h)]
theorem Wf.mP{s:St}(w:Wf s){i:Nat}{o o':O}(h:s.get i\o'):(s.new o).get i\o':=by rw[qP (w.lt h)];exact h
theorem eM{o:Option Nat}{a:Nat}(h:o\a):(o==some a)=true:=h▸Z9 (some a)
abbrev þ(r len:Nat):Src:=BO r len
theorem src_list{s:St}{r:Nat}{l:List V}(h:s.get r\(.list l))(hz:l.length<=lim):bq s false (.ref r)\(þ r l.length):=show gd (false=false) (ol (s.get r) λ l=>gd (l.length<=lim) (some (BO r l.length)))=_ from č rfl (Ś h (č hz rfl))
def jO(n:Nat):Src:=⟨n,λ i _=>some (.int i),λ _=>true⟩
theorem BU{s:St}{n:Nat}(hz:n<=lim):bq s true (.int n)\(jO n):=č ⟨rfl,YG n,hz⟩ rfl
section
variable{f:Loc->St->Option (Fl×Loc×St)}{bnd:Loc->V->Option Loc}{c:Src}
theorem oS(n:Nat)(I:Nat->Loc->St->Prop)(hf:∀ρ s,I n ρ s->c.fin s=true)
  (step:∀i ρ s,I i ρ s->i<n->∃x ċ Ð s',c.item i s\x/\bnd ρ x\ċ/\f ċ s\(.next,Ð,s')/\I (i+1) Ð s') (k:Nat):
  ∀(i:Nat) (ρ:Loc) (s:St),i+k=n->I i ρ s->∃Ð s',forLoop f bnd c k i ρ s\(.next,Ð,s')/\I n Ð s':=by
 induction k with
 |zero=>exact λ i ρ s h hI=>⟨ρ,s,č (hf ρ s (h▸hI)) rfl,h▸hI⟩
 |succ k ih=>exact λ i ρ s h hI=>(step i ρ s hI (h▸Y7 (Y0 k))).elim λ x a=>a.elim λ ċ a=>a.elim λ Ð a=>a.elim λ s' a=>
  (ih (i+1) Ð s' ((aat i k)^h) a.2.2.2).elim λ dG b=>b.elim λ s2 b=>⟨dG,s2,ò a.1 (ò a.2.1 (vc a.2.2.1 b.1)),b.2⟩
theorem oT{r:Nat}{xs:List V}(I:Nat->Loc->St->Prop)(hl:∀i ρ s,I i ρ s->s.get r\(.list xs))
  (step:∀i ρ s x,I i ρ s->xs[i]?\x->∃ċ Ð s',bnd ρ x\ċ/\f ċ s\(.next,Ð,s')/\I (i+1) Ð s') {ρ:Loc} {s:St} (h0:I 0 ρ s):
  ∃Ð s',forLoop f bnd (þ r xs.length) (þ r xs.length).len 0 ρ s\(.next,Ð,s')/\I xs.length Ð s':=
 oS xs.length I (λ ρ s h=>eM (Ś (hl _ ρ s h) rfl)) (λ i ρ s h hi=>⟨xs[i],(step i ρ s _ h (Xz hi)).elim λ ċ a=>⟨ċ,a.elim λ Ð a=>a.elim λ s' a=>⟨Ð,s',Ś (hl _ ρ s h) (Xz hi),a⟩⟩⟩) _ 0 ρ s (Zg _) h0
theorem BV{n:Nat}(I:Nat->Loc->St->Prop)
  (step:∀i ρ s,I i ρ s->i<n->∃ċ Ð s',bnd ρ (.int i)\ċ/\f ċ s\(.next,Ð,s')/\I (i+1) Ð s') {ρ:Loc} {s:St} (h0:I 0 ρ s):
  ∃Ð s',forLoop f bnd (jO n) (jO n).len 0 ρ s\(.next,Ð,s')/\I n Ð s':=
 oS n I (λ _ _ _=>rfl) (λ i ρ s h hi=>⟨.int i,(step i ρ s h hi).elim λ ċ a=>⟨ċ,a.elim λ Ð a=>a.elim λ s' a=>⟨Ð,s',rfl,a⟩⟩⟩) _ 0 ρ s (Zg _) h0
end
section
variable{fe:Loc->St->Option (V×St)}{fi:Loc->St->Option (Bool×St)}{ρ:Loc}{x r:Nat}{xs:List V}
def E4(fe:Loc->St->Option (V×St))(fi:Loc->St->Option (Bool×St))(ρ:Loc)(x:Nat)(I:Nat->List V->St->Prop)(i:Nat)(ys:List V)(s:St)(v:V):Prop:=(∃s1,fi (ρ.set x v) s\(false,s1)/\I (i+1) ys s1)\/(∃s1 y s2,fi (ρ.set x v) s\(true,s1)/\fe (ρ.set x v) s1\(y,s2)/\I (i+1) (ys++[y]) s2)
theorem ve(I:Nat->List V->St->Prop)(hl:∀i ys s,I i ys s->s.get r\(.list xs))(step:∀i ys s v,I i ys s->xs[i]?\v->E4 fe fi ρ x I i ys s v)(k:Nat):
  ∀(i:Nat) (ys:List V) (s:St),i+k=xs.length->I i ys s->∃zs s',compLoop fe fi ρ x (þ r xs.length) k i s\(zs,s')/\I xs.length (ys++zs) s':=by
 induction k with
 |zero=>exact λ i ys s h hI=>⟨[],s,č (eM (Ś (hl _ ys s hI) rfl)) rfl,(XQ ys).symm▸h▸hI⟩
 |succ k ih=>exact λ i ys s h hI=>
  have hx:=Xz (h▸Y7 (Y0 k):i<xs.length);have hc:(þ r xs.length).item i s=some xs[i]:=Ś (hl _ ys s hI) hx
  (step i ys s _ hI hx).elim (λ a=>a.elim λ s1 a=>(ih (i+1) ys s1 ((aat i k)^h) a.2).elim λ zs b=>b.elim λ s' b=>⟨zs,s',ò hc (ò a.1 b.1),b.2⟩) λ a=>a.elim λ s1 a=>a.elim λ y a=>a.elim λ s2 a=>(ih (i+1) _ s2 ((aat i k)^h) a.2.2).elim λ zs b=>b.elim λ s' b=>⟨y::zs,s',ò hc (ò a.1 (show(ú (fe (ρ.set x xs[i]) s1) λ y s2=>ú (compLoop fe fi ρ x (þ r xs.length) k (i+1) s2) λ ys s3=>some (y::ys,s3))=_ from Ï a.2.1 (Ï b.1 rfl))),(List.append_cons ys y zs).symm▸b.2⟩
theorem vf(I:Nat->List V->St->Prop)(hl:∀i ys s,I i ys s->s.get r\(.list xs))(step:∀i ys s v,I i ys s->xs[i]?\v->E4 fe fi ρ x I i ys s v){s:St}(h0:I 0 [] s):
 ∃zs s',compLoop fe fi ρ x (þ r xs.length) (þ r xs.length).len 0 s\(zs,s')/\I xs.length zs s':=ve I hl step xs.length 0 [] s (Zg _) h0
end
theorem qQ{fc:Loc->St->Option (V×St)}{fb:Loc->St->Option (Fl×Loc×St)}(I:Nat->Loc->St->Prop)(Q:Loc->St->Prop)
  (step:∀n ρ s,I n ρ s->(∃s1,fc ρ s\(.bool false,s1)/\Q ρ s1)\/(∃s1 dG s2 m,fc ρ s\(.bool true,s1)/\fb ρ s1\(.next,dG,s2)/\m<n/\I m dG s2)) (k:Nat):
  ∀(n:Nat) (ρ:Loc) (s:St),n<k->I n ρ s->∃Ð s',whileLoop fc fb k ρ s\(.next,Ð,s')/\Q Ð s':=by
 induction k with
 |zero=>exact λ n ρ s h=>absurd h (YQ n)
 |succ k ih=>exact λ n ρ s h hI=>(step n ρ s hI).elim (λ a=>a.elim λ s1 a=>⟨ρ,s1,Ï a.1 rfl,a.2⟩) λ a=>a.elim λ s1 a=>a.elim λ dG a=>a.elim λ s2 a=>a.elim λ m a=>(ih m dG s2 (Ye a.2.2.1 (Nat.le_of_lt_succ h)) a.2.2.2).elim λ Ð b=>b.elim λ s' b=>⟨Ð,s',Ï a.1 (show bf (fb ρ s1) (λ dG s2=>whileLoop fc fb k dG s2) (λ v dG s2=>some (.ret v,dG,s2))=_ from vc a.2.1 b.1),b.2⟩
section
variable{C:Call}{x:S}{r b:List S}{ρ ċ:Loc}{s s1:St}{v:V}{e c:E}
theorem xP:Ê G C [] ρ s\(.next,ρ,s):=rfl
theorem tw(h:ü G C x ρ s\(.next,ċ,s1)):Ê G C (x::r) ρ s=Ê G C r ċ s1:=vc h rfl
theorem jP(h:ü G C x ρ s\(.ret v,ċ,s1)):Ê G C (x::r) ρ s\(.ret v,ċ,s1):=BR h rfl
theorem xQ(h:ü G C x ρ s\(.next,ċ,s1)):Ê G C [x] ρ s\(.next,ċ,s1):=(tw h)^xP
theorem oU:ü G C (.while c b) ρ s=whileLoop (λ Ð s'=>Ä G C Ð c s') (λ Ð s'=>Ê G C b Ð s') i3 ρ s:=rfl
theorem eO{y:Nat}{ù:Option Nat}{src:Src}(he:Ä G C ρ e s\(v,s1))(hs:bq s1 ù.isSome v\src):ü G C (.Č y e ù b) ρ s=forLoop (λ Ð s'=>Ê G C b Ð s') (bind1 y) src src.len 0 ρ s1:=jC^(Ï he (ò hs rfl))
theorem jQ{y z:Nat}{src:Src}(he:Ä G C ρ e s\(v,s1))(hs:bq s1 false v\src):ü G C (.g_ y z e b) ρ s=forLoop (λ Ð s'=>Ê G C b Ð s') (fu y z) src src.len 0 ρ s1:=oP^(Ï he (ò hs rfl))
theorem xR{t f:List S}(h:Ä G C ρ c s\(.bool true,s1)):ü G C (.ite c t f) ρ s=Ê G C t ρ s1:=fA^(Ï h rfl)
theorem xU{t f:List S}(h:Ä G C ρ c s\(.bool false,s1)):ü G C (.ite c t f) ρ s=Ê G C f ρ s1:=fA^(Ï h rfl)
theorem hM(h:Ä G C ρ e s\(v,s1)):ü G C (.ret (some e)) ρ s\(.ret v,ρ,s1):=mK^(Ï h rfl)
theorem cB{f d:Nat}{fn:Fn}{args:List V}(hf:fns f\fn)(hb:Ŕ fn.params args\ρ)(h:Ê G (Ý G fns d) fn.body ρ s\(.ret v,ċ,s1)):Ý G fns (d+1) f args s\(v,s1):=ò hf (ò hb (BR h rfl))
theorem lT{f d:Nat}{fn:Fn}{args:List V}(hf:fns f\fn)(hb:Ŕ fn.params args\ρ)(h:Ê G (Ý G fns d) fn.body ρ s\(.next,ċ,s1)):Ý G fns (d+1) f args s\(.none,s1):=ò hf (ò hb (vc h rfl))
end
theorem mQ{C:Call}{b:List S}{ρ:Loc}{s s1:St}{e:E}{y r:Nat}{l:List V}(he:Ä G C ρ e s\(.ref r,s1))(h:s1.get r\(.list l))(hz:l.length<=lim):
 ü G C (.Č y e none b) ρ s=forLoop (λ Ð s'=>Ê G C b Ð s') (bind1 y) (þ r l.length) (þ r l.length).len 0 ρ s1:=eO he (src_list h hz)
theorem oV{C:Call}{b:List S}{ρ:Loc}{s s1:St}{e:E}{y k n:Nat}(he:Ä G C ρ e s\(.int n,s1))(hz:n<=lim):
 ü G C (.Č y e (some k) b) ρ s=forLoop (λ Ð s'=>Ê G C b Ð s') (bind1 y) (jO n) (jO n).len 0 ρ s1:=eO he (BU hz)
theorem f6{s:St}{r n i:Nat}{l:List V}(h:s.get r\(.list l)):(þ r n).item i s=l[i]?:=show ol (s.get r) (λ l'=>l'[i]?)=_ from Ś h rfl
theorem iR{s:St}{r n:Nat}{l:List V}(h:s.get r\(.list l))(hn:l.length=n):(þ r n).fin s=true:=eM (Ś h (Xq some hn))
abbrev QY:Loc:=λ _=>none
abbrev mR:=Nat×O
abbrev Ç:=List mR
structure Own (s:St) (C:Ç):Prop where
 wf:Wf s
 nd:(C.map Prod.fst).Nodup
 at_:∀p∈C,s.get p.1\p.2
theorem Own.get{s:St}{C:Ç}(W:Own s C){i a:Nat}{o:O}(h:C[i]?\(a,o)):s.get a\o:=W.at_ _ (Xt h)
theorem Own.set{s:St}{C:Ç}(W:Own s C){i a:Nat}{o o':O}(h:C[i]?\(a,o)):Own (s.set a o') (C.set i (a,o')):=by
 have hk:(C.set i (a,o')).map Prod.fst=C.map Prod.fst:=by
  rw[ZH];refine Zh λ j=>?_;rw[Y1];by_cases e:i=j
  ·subst e;rw[XR rfl,Xm,XR (Xv.mp h).1,X3,h];rfl
  ·rw[XW e]
 refine⟨W.wf.set (W.wf.lt (W.get h)),hk▸W.nd,λ p hp=>?_⟩;obtain⟨j,hj⟩:=YW hp;rw[Y1]at hj;by_cases e:i=j
 ·subst e;rw[XR rfl,XR (Xv.mp h).1]at hj;cases hj;exact mM
 ·rw[XW e]at hj;refine(qO λ q=>e ?_).trans (W.get (i:=j) hj);refine(List.getElem?_inj (l:=C.map Prod.fst) ?_ W.nd).mp ?_
  ·rw[Xm];exact(Xv.mp h).1
  ·rw[X3,X3,h,hj];exact Xq some q.symm
theorem Own.new{s:St}{C:Ç}(W:Own s C){o:O}:Own (s.new o) ((s.n,o)::C):=by
 refine⟨W.wf.new,?_,λ p hp=>?_⟩
 ·refine X0.mpr ⟨λ h=>?_,W.nd⟩;obtain⟨p,hp,e⟩:=Xx.mp h;have:=W.wf.lt (W.at_ p hp);rw[e]at this;exact Nat.lt_irrefl _ this
 ·rcases XE.mp hp with rfl|hp
  ·exact mN
  ·exact W.wf.mP (W.at_ p hp)
theorem Own.perm{s:St}{C D:Ç}(W:Own s C)(h:C.Perm D):Own s D:=⟨W.wf,(h.map _).nodup_iff.mp W.nd,λ p hp=>W.at_ p (h.mem_iff.mpr hp)⟩
theorem Own.sub{s:St}{C D:Ç}(W:Own s C)(h:List.Sublist D C):Own s D:=⟨W.wf,(h.map _).nodup W.nd,λ p hp=>W.at_ p (h.subset hp)⟩
inductive QV where
 |n (a:Nat)
 |b (x:Bool)
 |v (x:Option V)
 |ob (x:Option Bool)
 |es (x:Option (List (V×V)))
 |l (t:Nat)
 |o (x:O)
abbrev Fact:={q:QV×QV//q.1=q.2}
abbrev LV:=List (Nat×V)
def lk:LV->Nat->Option V
 |[],_=>none
 |(y,v)::r,x=>match Nat.beq x y with
  |true=>some v
  |false=>lk r x
structure X where
 E:Ç
 T:List Ç
 R:List mR
 n:Nat
 L:LV
 Q:List Fact
 h:Nat
inductive Rt where
 |bad (q:QV) (x:X)
 |need (a b:QV) (r:Rt)
 |call (j f:Nat) (args:List V) (x:X) (k:V->X->Rt)
 |ev (j:Nat) (e:E) (x:X) (k:V->X->Rt)
 |st (j:Nat) (S:S) (x:X) (k:X->Rt)
 |fin (fl:Fl) (x:X)
abbrev KV:=V->X->Rt
abbrev KX:=X->Rt
def X.sh(x:X)(h:Nat):X:=match x with
 |⟨E,T,R,n,L,Q,_⟩=>⟨E,T,R,n,L,Q,h⟩
def X.nx(x:X):X:=x.sh (x.h/256)
def X.new(x:X)(o:O):X:=match x with
 |⟨E,T,R,n,L,Q,h⟩=>⟨(n,o)::E,T,R,n+1,L,Q,h⟩
def X.alloc(x:X)(o:O)(k:V->X->Rt):Rt:=match x with
 |⟨E,T,R,n,L,Q,h⟩=>k (.ref n) ⟨(n,o)::E,T,R,n+1,L,Q,h⟩
def X.sE(x:X)(i:Nat)(c:mR):X:=match x with
 |⟨E,T,R,n,L,Q,h⟩=>⟨E.set i c,T,R,n,L,Q,h⟩
def X.sL(x:X)(M:LV):X:=match x with
 |⟨E,T,R,n,_,Q,h⟩=>⟨E,T,R,n,M,Q,h⟩
def mS(q:QV)(x:X)(k:QV->X->Rt):Rt:=match x.h%256 with
 |0=>k q x.nx
 |j+1=>match x.Q[j]? with
  |some f=>.need q f.1.1 (k f.1.2 x.nx)
  |none=>.bad q x
def xB(p:Prop)[Decidable p](x:X)(k:Bool->KX):Rt:=mS (.b (decide p)) x λ q x=>match q with
 |.b b=>k b x
 |_=>.bad q x
def KI(b:Bool)(x:X)(k:Bool->KX):Rt:=mS (.b b) x λ q x=>match q with
 |.b b=>k b x
 |_=>.bad q x
def xV(o:Option V)(x:X)(k:KV):Rt:=mS (.v o) x λ q x=>match q with
 |.v (some w)=>k w x
 |_=>.bad q x
def NT(o:Option Bool)(x:X)(k:Bool->KX):Rt:=mS (.ob o) x λ q x=>match q with
 |.ob (some w)=>k w x
 |_=>.bad q x
def xT(p:Prop)[Decidable p](x:X)(k:KX):Rt:=xB p x λ b x=>match b with
 |true=>k x
 |false=>.bad (.b false) x
def xO(o:O)(x:X)(k:O->KX):Rt:=mS (.o o) x λ q x=>match q with
 |.o o=>k o x
 |_=>.bad q x
def Ÿ(a:Nat)(x:X)(k:Nat->O->X->Rt):Rt:=match Nat.ble 192 (x.h%256)with
 |false=>(match x.E[x.h%256]? with
  |some c=>.need (.n a) (.n c.1) (k (x.h%256) c.2 x.nx)
  |none=>.bad (.n a) x)
 |true=>(match x.R[x.h%256 - 192]? with
  |some c=>.need (.n a) (.n c.1) (k 192 c.2 x.nx)
  |none=>.bad (.n a) x)
def oW(i a:Nat)(o:O)(x:X)(k:KX):Rt:=match Nat.ble 192 i with
 |false=>mS (.o o) x λ q x=>match q with
  |.o o=>k (x.sE i (a,o))
  |_=>.bad q x
 |true=>.bad (.n a) x
def f9(v:V)(x:X)(k:Nat->Rt):Rt:=match v with
 |.ref r=>k r
 |_=>.bad (.v (some v)) x
def Ź(v:V)(x:X)(k:Int->Rt):Rt:=match v with
 |.int z=>k z
 |_=>.bad (.v (some v)) x
def oX(v:V)(x:X)(k:List V->Rt):Rt:=match v with
 |.tup l=>k l
 |_=>.bad (.v (some v)) x
def eo(v:V)(x:X)(k:Bool->Rt):Rt:=match v with
 |.bool b=>k b
 |_=>.bad (.v (some v)) x
def BX(v:V)(x:X)(r:Rt):Rt:=match v with
 |.none=>r
 |_=>.bad (.v (some v)) x
def QZ(v:V)(x:X)(k:Nat->Rt)(k':List V->Rt):Rt:=match v with
 |.ref r=>k r
 |.tup l=>k' l
 |_=>.bad (.v (some v)) x
def hS(o:O)(x:X)(k:List V->Rt):Rt:=match o with
 |.list l=>k l
 |_=>.bad (.o o) x
def Gv(o:O)(x:X)(k:List (V×V)->Rt):Rt:=match o with
 |.dict l=>k l
 |_=>.bad (.o o) x
def Gw(o:O)(x:X)(k:Nat->List (Nat×V)->Rt):Rt:=match o with
 |.inst c l=>k c l
 |_=>.bad (.o o) x
def NU(l:List V)(x:X)(k:V->Rt):Rt:=match l with
 |[a]=>k a
 |_=>.bad (.n 0) x
def Q1(l:List V)(x:X)(k:V->V->Rt):Rt:=match l with
 |[a,b]=>k a b
 |_=>.bad (.n 0) x
def f_{α:Type}(q:QV)(o:Option α)(x:X)(k:α->Rt):Rt:=match o with
 |some a=>k a
 |none=>.bad q x
def Tw(q:QV)(x:X)(k:List (V×V)->Rt):Rt:=match q with
 |.es o=>f_ q o x k
 |_=>.bad q x
def xW(y:Nat)(v:V)(x:X)(k:KV):Rt:=f9 v x λ r=>Ÿ r x λ _ o x=>Gw o x λ _ fs=>f_ (.n y) (look fs y) x λ w=>k w x
def Tx(w:V)(o:O)(x:X)(k:KV):Rt:=match o with
 |.list l=>Ź w x λ z=>xV (Ū l z) x k
 |.dict es=>xT (ó w=true) x λ x=>xV (è es w).join x k
 |_=>.bad (.o o) x
def xX(v w:V)(x:X)(k:KV):Rt:=QZ v x (λ r=>Ÿ r x λ _ o x=>Tx w o x k) λ l=>Ź w x λ z=>xT (z<1000) x λ x=>xV (Ū l z) x k
def W_(r i:Nat)(w u:V)(o:O)(x:X)(k:KX):Rt:=match o with
 |.list l=>Ź w x λ z=>xT (0<=z/\z.toNat<l.length) x λ x=>oW i r (.list (l.set z.toNat u)) x k
 |.dict es=>xT (ó w=true/\es.length<lim) x λ x=>mS (.es (putK es w u)) x λ q x=>Tw q x λ ř=>oW i r (.dict ř) x k
 |_=>.bad (.o o) x
def xY(v w u:V)(x:X)(k:KX):Rt:=f9 v x λ r=>Ÿ r x λ i o x=>W_ r i w u o x k
def sE:St:=⟨0,λ _=>none⟩
def xZ(f:V->V->X->(Bool->KX)->Rt):List V->List V->X->(Bool->KX)->Rt
 |[],[],x,k=>k true x
 |[],_::_,x,k=>k false x
 |_::_,[],x,k=>k false x
 |a::l,b::m,x,k=>f a b x λ p x=>xZ f l m x λ q x=>k (p&&q) x
def BY:Nat->V->V->X->(Bool->KX)->Rt
 |0,_,_,x,_=>.bad (.n 0) x
 |n+1,a,b,x,k=>match a with
  |.int a=>Ź b x λ b=>k (decide (a=b)) x
  |.tup l=>oX b x λ m=>xZ (BY n) l m x k
  |.ref i=>f9 b x λ j=>Ÿ i x λ _ o x=>Ÿ j x λ _ p x=>hS o x λ l=>hS p x λ m=>NT (if l.length=m.length then ŋ (dh sE n) l m else some false) x k
  |_=>.bad (.v (some a)) x
def Xa(u:V)(o:O)(x:X)(k:Bool->KX):Rt:=match o with
 |.list l=>Ź u x λ z=>NT (Br z l) x k
 |.dict es=>xT (ó u=true) x λ x=>NT ((è es u).map Option.isSome) x k
 |_=>.bad (.o o) x
def x7(u v:V)(x:X)(k:Bool->KX):Rt:=f9 v x λ r=>Ÿ r x λ _ o x=>Xa u o x k
def KJ(o:qF)(a b:V)(x:X)(k:Bool->KX):Rt:=match o with
 |.eq=>BY 6 a b x k
 |.ne=>BY 6 a b x λ p x=>k (!p) x
 |.isin=>x7 a b x k
 |.ũ=>x7 a b x λ p x=>k (!p) x
 |.is=>BX b x (k (isNone a) x)
 |.bF=>BX b x (k (!isNone a) x)
 |.lt=>Ź a x λ a=>Ź b x λ b=>k (decide (a<b)) x
 |.le=>Ź a x λ a=>Ź b x λ b=>k (decide (a<=b)) x
 |.gt=>Ź a x λ a=>Ź b x λ b=>k (decide (b<a)) x
 |.ge=>Ź a x λ a=>Ź b x λ b=>k (decide (b<=a)) x
def Q2(i j:Nat)(x:X)(k:KV):Rt:=Ÿ i x λ _ o x=>Ÿ j x λ _ p x=>hS o x λ l=>hS p x λ m=>xT (l.length+m.length<=lim) x λ x=>xO (.list (l++m)) x λ o x=>x.alloc o k
def KL(o:fo)(a b:V)(x:X)(k:KV):Rt:=match a with
 |.int a=>Ź b x λ b=>(match o with
  |.add=>k (.int (a+b)) x
  |.sub=>k (.int (a - b)) x
  |.mul=>xT (a.natAbs<1000) x λ x=>k (.int (a*b)) x
  |.fdiv=>xT (0<b/\b<1073741824) x λ x=>k (.int (a.fdiv b)) x
  |.mod=>xT (0<b/\b<1073741824) x λ x=>k (.int (a.fmod b)) x
  |.shr=>xT (b=2/\16<=a/\a<2^62) x λ x=>k (.int (a.fdiv 4)) x)
 |.ref i=>f9 b x λ j=>(match o with
  |.add=>Q2 i j x k
  |_=>.bad (.n i) x)
 |_=>.bad (.v (some a)) x
def Q5(v:V)(x:X)(k:KV):Rt:=QZ v x (λ r=>Ÿ r x λ _ o x=>hS o x λ l=>k (.int l.length) x) λ l=>xT (l.length<=lim) x λ x=>k (.int l.length) x
def Q6(es:List (V×V))(x:X)(k:KV):Rt:=match es with
 |[]=>x.alloc (.list []) k
 |[p]=>Ź p.1 x λ z=>x.alloc (.list [.int z]) k
 |_=>.bad (.n 0) x
def Tz(f:Bi)(vs:List V)(x:X)(k:KV):Rt:=match f with
 |.len=>NU vs x λ v=>Q5 v x k
 |.sorted=>NU vs x λ v=>f9 v x λ r=>Ÿ r x λ _ o x=>Gv o x λ es=>Q6 es x k
 |.min=>Q1 vs x λ a b=>Ź a x λ a=>Ź b x λ b=>xV (some (.int (if b<a then b else a))) x k
def Xb(lo hi:Option Nat)(l:List V)(x:X)(k:KV):Rt:=match lo,hi with
 |some a,none=>xO (.list (l.drop a)) x λ o x=>x.alloc o k
 |none,some b=>xO (.list (l.take b)) x λ o x=>x.alloc o k
 |_,_=>.bad (.n 0) x
def x8(lo hi:Option Nat)(v:V)(x:X)(k:KV):Rt:=f9 v x λ r=>Ÿ r x λ _ o x=>hS o x λ l=>xT (l.length<=lim) x λ x=>Xb lo hi l x k
def Xc(y:Nat)(o:O)(x:X)(k:MK->KX):Rt:=match o with
 |.list _=>if y=dg then k .append x else if y=xl then k .pop x else .bad (.n y) x
 |.dict _=>if y=xn then k .get x else .bad (.n y) x
 |.inst c fs=>(match look fs y with
  |none=>f_ (.n y) (G.ì c y) x λ f=>k (.fn f) x
  |some _=>.bad (.n y) x)
def x9(y:Nat)(v:V)(x:X)(k:MK->KX):Rt:=f9 v x λ r=>Ÿ r x λ _ o x=>Xc y o x k
abbrev KC:=Nat->List V->X->KV->Rt
def Gx(r:Nat)(vs:List V)(x:X)(k:KV):Rt:=match vs with
 |[]=>Ÿ r x λ i o x=>hS o x λ l=>xT (l.length<=lim) x λ x=>xV l.getLast? x λ v x=>oW i r (.list l.dropLast) x λ x=>k v x
 |[v]=>Ź v x λ z=>if z=0 then Ÿ r x λ i o x=>hS o x λ l=>(match l with
  |v::l=>xT (l.length<lim) x λ x=>oW i r (.list l) x λ x=>k v x
  |[]=>.bad (.n r) x)else .bad (.n r) x
 |_=>.bad (.n r) x
def Q7(r:Nat)(w d:V)(x:X)(k:KV):Rt:=Ÿ r x λ _ o x=>Gv o x λ es=>xT (ó w=true) x λ x=>xV ((è es w).map λ q=>q.getD d) x k
def x_(c:KC)(o:V)(mk:MK)(vs:List V)(x:X)(k:KV):Rt:=match mk with
 |.fn f=>c f (o::vs) x k
 |.append=>f9 o x λ r=>NU vs x λ v=>Ÿ r x λ i o x=>hS o x λ l=>xT (l.length<lim) x λ x=>oW i r (.list (l++[v])) x λ x=>k .none x
 |.pop=>f9 o x λ r=>Gx r vs x k
 |.get=>f9 o x λ r=>(match vs with
  |[w]=>Q7 r w .none x k
  |[w,d]=>Q7 r w d x k
  |_=>.bad (.n r) x)
def KO(c:KC)(cl:Nat)(vs:List V)(x:X)(k:KV):Rt:=match G.init cl with
 |none=>.bad (.n cl) x
 |some none=>(match vs with
  |[]=>x.alloc (.inst cl []) k
  |_=>.bad (.n cl) x)
 |some (some f)=>x.alloc (.inst cl []) λ r x=>c f (r::vs) x λ v x'=>BX v x' (k r x')
def ya(y:Nat)(w v:V)(x:X)(k:KX):Rt:=f9 v x λ r=>Ÿ r x λ i o x=>Gw o x λ c fs=>xT (fs.length<900/\G.fld c y=true) x λ x=>oW i r (.inst c (av fs y w)) x k
def BZ(o:fo)(a b:V)(x:X)(k:KV):Rt:=f_ (.v (some a)) (mE o a b) x λ w=>k w x
def yc(t:Nat)(x:X)(a:KX)(b:KX):Rt:=match x.h%256 with
 |0=>a x.nx
 |1=>b x.nx
 |_+2=>.bad (.l t) x
mutual
noncomputable def xE (c:KC) (j:Nat):E->X->KV->Rt
 |.const v,x,k=>k v x
 |.loc y,x,k=>f_ (.n y) (lk x.L y) x λ v=>k v x
 |.glob _ v,x,k=>k v x
 |.attr e y,x,k=>xE c j e x λ v x=>xW y v x k
 |.sub e i,x,k=>xE c j e x λ v x=>xE c j i x λ w x=>xX v w x k
 |.slice e lo hi,x,k=>xE c j e x λ v x=>x8 lo hi v x k
 |.bin o a b,x,k=>xE c j a x λ v x=>xE c j b x λ w x=>KL o v w x k
 |.neg a,x,k=>xE c j a x λ v x=>Ź v x λ i=>k (.int (-i)) x
 |.not a,x,k=>xE c j a x λ v x=>eo v x λ b=>k (.bool (!b)) x
 |.and l,x,k=>Gy c j l x k
 |.or l,x,k=>Q8 c j l x k
 |.cmp o a b,x,k=>xE c j a x λ v x=>xE c j b x λ w x=>KJ o v w x λ p x=>k (.bool p) x
 |.Ñ _ f args,x,k=>B0 c j args x λ vs x=>c f vs x k
 |.new _ cl args,x,k=>B0 c j args x λ vs x=>KO c cl vs x k
 |.bi _ f args,x,k=>B0 c j args x λ vs x=>Tz f vs x k
 |.ì o y args,x,k=>xE c j o x λ v x=>x9 y v x λ mk x=>B0 c j args x λ vs x=>x_ c v mk vs x k
 |.list l,x,k=>B0 c j l x λ vs x=>x.alloc (.list vs) k
 |.tup l,x,k=>B0 c j l x λ vs x=>k (.tup vs) x
 |.dict ks l,x,k=>B0 c j l x λ vs x=>f_ (.n 0) (ĸ ks vs []) x λ es=>x.alloc (.dict es) k
 |.BL a _ ks,x,k=>xE c j a x λ v x=>Ź v x λ i=>k (.bool (ks.any λ k=>decide (k=i))) x
 |.comp a y src ù ifs,x,k=>.ev j (.comp a y src ù ifs) x k
noncomputable def B0 (c:KC) (j:Nat):List E->X->(List V->KX)->Rt
 |[],x,k=>k [] x
 |e::r,x,k=>xE c j e x λ v x=>B0 c j r x λ vs x=>k (v::vs) x
noncomputable def Gy (c:KC) (j:Nat):List E->X->KV->Rt
 |[],x,_=>.bad (.n 0) x
 |e
  ::r,x,k=>xE c j e x λ v x=>eo v x λ b=>(match r with
  |[]=>k (.bool b) x
  |_::_=>KI b x λ b x=>bif b then Gy c j r x k else k (.bool false) x)
noncomputable def Q8 (c:KC) (j:Nat):List E->X->KV->Rt
 |[],x,_=>.bad (.n 0) x
 |e
  ::r,x,k=>xE c j e x λ v x=>eo v x λ b=>(match r with
  |[]=>k (.bool b) x
  |_::_=>KI b x λ b x=>bif b then k (.bool true) x else Q8 c j r x k)
end
def qR(ce:X->KV->Rt)(b:X->KX->KV->Rt):Nat->X->KX->KV->Rt
 |0,x,_,_=>.bad (.n 0) x
 |m+1,x,kn,kr=>ce x λ v x=>eo v x λ p=>KI p x λ p x=>bif p then b x (λ x=>qR ce b m x kn kr) kr else kn x
def B1(item:Nat->X->KV->Rt)(fin:X->KX->Rt)(y:Nat)(b:X->KX->KV->Rt):Nat->Nat->X->KX->KV->Rt
 |0,_,x,kn,_=>fin x kn
 |m+1,i,x,kn,kr=>item i x λ v x=>b (x.sL ((y,v)::x.L)) (λ x=>B1 item fin y b m (i+1) x kn kr) kr
def E5(r i:Nat)(x:X)(k:KV):Rt:=Ÿ r x λ _ o x=>hS o x λ l=>f_ (.n i) l[i]? x λ v=>k v x
def E6(r n:Nat)(x:X)(k:KX):Rt:=Ÿ r x λ _ o x=>hS o x λ l=>bif Nat.beq l.length n then k x else .bad (.n r) x
def KP(ù:Option Nat)(v:V)(x:X)(y:Nat)(b:X->KX->KV->Rt)(kn:KX)(kr:KV):Rt:=match ù with
 |none=>f9 v x λ r=>Ÿ r x λ _ o x=>hS o x λ l=>xT (l.length<=lim) x λ x=>B1 (λ i x k=>E5 r i x k) (λ x k=>E6 r l.length x k) y b l.length 0 x kn kr
 |some _=>Ź v x λ z=>xT (0<=z/\z.toNat<=lim) x λ x=>B1 (λ i x k=>k (.int i) x) (λ x k=>k x) y b z.toNat 0 x kn kr
mutual
noncomputable def xS (c:KC) (j:Nat):S->X->KX->KV->Rt
 |.expr e,x,kn,_=>xE c j e x λ _ x=>kn x
 |.asg y e,x,kn,_=>xE c j e x λ v x=>kn (x.sL ((y,v)::x.L))
 |.ou y z e,x,kn,_=>xE c j e x λ v x=>oX v x λ l=>Q1 l x λ a b=>kn (x.sL ((z,b)::(y,a)::x.L))
 |.mA o y e,x,kn,_=>xE c j e x λ w x=>xE c j o x λ v x=>ya y w v x kn
 |.é o i e,x,kn,_=>xE c j e x λ u x=>xE c j o x λ v x=>xE c j i x λ w x=>xY v w u x kn
 |.mB y o e,x,kn,_=>f_ (.n y) (lk x.L y) x λ a=>xE c j e x λ v x=>BZ o a v x λ w x=>kn (x.sL ((y,w)::x.L))
 |.jw b y o e,x,kn,_=>xE c j b x λ v x=>xW y v x λ a x=>xE c j e x λ u x=>BZ o a u x λ w x=>ya y w v x kn
 |.lj b i o e,x,kn,_=>xE c j b x λ v x=>xE c j i x λ iv x=>xX v iv x λ a x=>xE c j e x λ u x=>BZ o a u x λ w x=>xY v iv w x kn
 |.ite e t f,x,kn,kr=>xE c j e x λ v x=>eo v x λ p=>KI p x λ p x=>bif p then lq c j t x kn kr else lq c j f x kn kr
 |.while e b,x,kn,kr=>yc 0 x (λ x=>qR (λ x k=>xE c j e x k) (λ x kn kr=>lq c j b x kn kr) i3 x kn kr) λ x=>.st j (.while e b) x kn
 |.Č y e ù b,x,kn,kr=>yc 0 x (λ x=>xE c j e x λ v x=>KP ù v x y (λ x kn kr=>lq c j b x kn kr) kn kr) λ x=>.st j (.Č y e ù b) x kn
 |.g_ y z e b,x,kn,_=>.st j (.g_ y z e b) x kn
 |.ret none,x,_,kr=>kr .none x
 |.ret (some e),x,_,kr=>xE c j e x kr
 |.bad,x,_,_=>.bad (.n 0) x
noncomputable def lq (c:KC) (j:Nat):List S->X->KX->KV->Rt
 |[],x,kn,_=>kn x
 |s::r,x,kn,kr=>xS c j s x (λ x=>lq c j r x kn kr) kr
end
def bindL:List Nat->List V->Option LV
 |[],[]=>some []
 |y::ys,v::vs=>(match bindL ys vs with
  |some L=>some ((y,v)::L)
  |none=>none)
 |_,_=>none
def xD:Nat->KC
 |0=>λ f vs x k=>.call 0 f vs x k
 |j+1=>λ f vs x k=>yc (f+1) x (λ x=>match fns f with
  |some fn=>(match bindL fn.params vs with
   |some L=>lq (xD j) j fn.body (x.sL L) (λ y=>k .none (y.sL x.L)) (λ v y=>k v (y.sL x.L))
   |none=>.bad (.n f) x)
  |none=>.bad (.n f) x) λ x=>.call (j+1) f vs x k
end Mine.Z
namespace Mine.Z
variable{α:Type}{vs:List V}
structure qG (s:St) (x:X):Prop where
 own:Own s (x.E++x.T.flatten)
 n:s.n=x.n
 r:∀c∈x.R,c∈x.T.flatten
def dk(ρ:Loc)(L:LV):Prop:=∀y v,lk L y\v->ρ y\v
theorem dk.set{ρ:Loc}{L:LV}(h:dk ρ L)(y:Nat)(v:V):dk (ρ.set y v) ((y,v)::L):=by
 intro z w hw;simp only[lk]at hw;simp only[Loc.set];by_cases e:z=y
 ·subst e;rw[abj]at hw;rw[XR rfl];exact hw
 ·have:Nat.beq z y=false:=Bool.eq_false_iff.mpr λ q=>e (YM q);rw[this]at hw;rw[XW e];exact h z w hw
abbrev Res:=Option (Fl×Loc×St)
def Rl(d:Nat):Rt->Res->Prop
 |.bad _ _,_=>True
 |.need a b r,m=>a=b->Rl d r m
 |.call j f vs x k,m=>∃s,qG s x/\∀v s' x',Ý G fns (d+j) f vs s\(v,s')->qG s' x'->x'.L=x.L->Rl d (k v x') m
 |.ev j e x k,m=>∃s ρ,qG s x/\dk ρ x.L/\∀v s' x',Ä G (Ý G fns (d+j)) ρ e s\(v,s')->qG s' x'->x'.L=x.L->Rl d (k v x') m
 |.st j S x k,m=>∃s ρ,qG s x/\dk ρ x.L/\∀Ð s' x',ü G (Ý G fns (d+j)) S ρ s\(.next,Ð,s')->qG s' x'->dk Ð x'.L->Rl d (k x') m
 |.fin fl x,m=>∃s ρ,qG s x/\dk ρ x.L/\m\(fl,ρ,s)
structure Wk (s:St) (ρ:Loc) (x:X):Prop where
 ok:qG s x
 l:dk ρ x.L
section
variable{d:Nat}{m:Res}{s:St}{x:X}{ρ:Loc}
theorem qG.sh(H:qG s x)(h:Nat):qG s (x.sh h):=⟨H.own,H.n,H.r⟩
theorem qG.new(H:qG s x)(o:O):qG (s.new o) (x.new o):=⟨show Own _ ((x.n,o)::_)from H.n▸H.own.new,Xq Nat.succ H.n,H.r⟩
theorem Wk.sh(H:Wk s ρ x)(h:Nat):Wk s ρ (x.sh h):=⟨H.1.sh h,H.2⟩
theorem Wk.new(H:Wk s ρ x)(o:O):Wk (s.new o) ρ (x.new o):=⟨H.1.new o,H.2⟩
def qT(d:Nat)(m:Res)(k:KV)(ρ:Loc)(r:Option (V×St)):Prop:=∀v s' x',r\(v,s')->Wk s' ρ x'->Rl d (k v x') m
def Xd(d:Nat)(m:Res)(k:List V->KX)(ρ:Loc)(r:Option (List V×St)):Prop:=∀v s' x',r\(v,s')->Wk s' ρ x'->Rl d (k v x') m
def TA(d:Nat)(m:Res)(k:KX)(ρ:Loc)(r:Option St):Prop:=∀s' x',r\s'->Wk s' ρ x'->Rl d (k x') m
def JX(d:Nat)(m:Res)(k:Bool->KX)(s:St)(ρ:Loc)(r:Option Bool):Prop:=∀v x',r\v->Wk s ρ x'->Rl d (k v x') m
def KQ(d:Nat)(m:Res)(k:KV)(s:St)(ρ:Loc)(r:Option V):Prop:=∀v x',r\v->Wk s ρ x'->Rl d (k v x') m
def Xe(d:Nat)(m:Res)(k:MK->KX)(s:St)(ρ:Loc)(r:Option MK):Prop:=∀v x',r\v->Wk s ρ x'->Rl d (k v x') m
theorem aN{o:O}{k:KV}{r:Option (V×St)}(H:Wk s ρ x)(hk:qT d m k ρ r)(e:r\(.ref s.n,s.new o)):Rl d (x.alloc o k) m:=hk (.ref x.n) _ (x.new o) (H.1.n▸e) (H.new o)
theorem Ĩ{v:V}{k:Nat->Rt}(h:∀r,v=.ref r->Rl d (k r) m):Rl d (f9 v x k) m:=by
 cases v with
 |ref r=>exact h r rfl
 |_=>trivial
theorem ĝ{v:V}{k:Int->Rt}(h:∀r,v=.int r->Rl d (k r) m):Rl d (Ź v x k) m:=by
 cases v with
 |int r=>exact h r rfl
 |_=>trivial
theorem tx{v:V}{k:List V->Rt}(h:∀r,v=.tup r->Rl d (k r) m):Rl d (oX v x k) m:=by
 cases v with
 |tup r=>exact h r rfl
 |_=>trivial
theorem ū{v:V}{k:Bool->Rt}(h:∀r,v=.bool r->Rl d (k r) m):Rl d (eo v x k) m:=by
 cases v with
 |bool r=>exact h r rfl
 |_=>trivial
theorem mU{v:V}{k:Rt}(h:v=.none->Rl d k m):Rl d (BX v x k) m:=by
 cases v with
 |none=>exact h rfl
 |_=>trivial
theorem yd{v:V}{k:Nat->Rt}{k':List V->Rt}(h:∀r,v=.ref r->Rl d (k r) m)(h':∀r,v=.tup r->Rl d (k' r) m):Rl d (QZ v x k k') m:=by
 cases v with
 |ref r=>exact h r rfl
 |tup r=>exact h' r rfl
 |_=>trivial
theorem ı{v:O}{k:List V->Rt}(h:∀r,v=.list r->Rl d (k r) m):Rl d (hS v x k) m:=by
 cases v with
 |list r=>exact h r rfl
 |_=>trivial
theorem tB{v:O}{k:List (V×V)->Rt}(h:∀r,v=.dict r->Rl d (k r) m):Rl d (Gv v x k) m:=by
 cases v with
 |dict r=>exact h r rfl
 |_=>trivial
theorem tC{v:O}{k:Nat->List (Nat×V)->Rt}(h:∀c r,v=.inst c r->Rl d (k c r) m):Rl d (Gw v x k) m:=by
 cases v with
 |inst c r=>exact h c r rfl
 |_=>trivial
theorem qU{l:List V}{k:V->Rt}(h:∀a,l=[a]->Rl d (k a) m):Rl d (NU l x k) m:=by
 cases l with
 |nil=>trivial
 |cons a l=>cases l with
  |nil=>exact h a rfl
  |cons _ _=>trivial
theorem yf{l:List V}{k:V->V->Rt}(h:∀a b,l=[a,b]->Rl d (k a b) m):Rl d (Q1 l x k) m:=by
 cases l with
 |nil=>trivial
 |cons a l=>cases l with
  |nil=>trivial
  |cons b l=>cases l with
   |nil=>exact h a b rfl
   |cons _ _=>trivial
theorem Ō{q:QV}{o:Option α}{k:α->Rt}(h:∀a,o\a->Rl d (k a) m):Rl d (f_ q o x k) m:=by
 cases o with
 |none=>trivial
 |some a=>exact h a rfl
theorem Gz{r:List (V×V)->Rt}{o:Option (List (V×V))}(h:∀a,o\a->Rl d (r a) m):Rl d (Tw (.es o) x r) m:=Ō h
theorem jS{b:Bool}{p q:Rt}(h:b=true->Rl d p m)(h':b=false->Rl d q m):Rl d (bif b then p else q) m:=by
 cases b with
 |true=>exact h rfl
 |false=>exact h' rfl
theorem mV{c:Prop}[i:Decidable c]{p q:Rt}(h:c->Rl d p m)(h':¬c->Rl d q m):Rl d (if c then p else q) m:=by
 cases i with
 |isTrue q=>exact h q
 |isFalse q=>exact h' q
theorem eP{q:QV}{k:QV->KX}(hk:∀h,Rl d (k q (x.sh h)) m):Rl d (mS q x k) m:=by
 unfold mS;cases x.h%256 with
 |zero=>exact hk _
 |succ j=>
  show Rl d (match x.Q[j]? with|some f=>_|none=>_) m;cases x.Q[j]? with
  |none=>trivial
  |some f=>exact λ e=>(e.trans f.2:q=f.1.2)▸hk _
theorem tD{p:Bool}{k:Bool->KX}(H:Wk s ρ x)(hk:∀x',Wk s ρ x'->Rl d (k p x') m):Rl d (KI p x k) m:=eP λ h=>hk _ (H.sh h)
theorem vg{o:Option V}{k:KV}(H:Wk s ρ x)(hk:∀v h,o\v->Wk s ρ (x.sh h)->Rl d (k v (x.sh h)) m):Rl d (xV o x k) m:=eP λ h=>by
 cases o with
 |none=>trivial
 |some v=>exact hk v _ rfl (H.sh h)
theorem yg{o:Option Bool}{k:Bool->KX}(H:Wk s ρ x)(hk:JX d m k s ρ o):Rl d (NT o x k) m:=eP λ h=>by
 cases o with
 |none=>trivial
 |some v=>exact hk v _ rfl (H.sh h)
theorem dH{p:Prop}[i:Decidable p]{k:KX}(H:Wk s ρ x)(hk:∀h,p->Wk s ρ (x.sh h)->Rl d (k (x.sh h)) m):Rl d (xT p x k) m:=by
 unfold xT xB;refine eP λ h=>?_;cases i with
 |isFalse h=>trivial
 |isTrue q=>exact hk _ q (H.sh h)
theorem GA{o:O}{k:KV}{r:Option (V×St)}(H:Wk s ρ x)(hk:qT d m k ρ r)(e:r\(.ref s.n,s.new o)):Rl d (xO o x λ o x=>x.alloc o k) m:=eP λ h=>aN (H.sh h) hk e
def Xf(d:Nat)(m:Res)(s:St)(ρ:Loc)(i a:Nat)(E:Ç)(T:List Ç)(R:List mR):Prop:=∀o' x' k',x'.E=E->x'.T=T->x'.R=R->Wk s ρ x'->(∀TB,Wk (s.set a o') ρ TB->Rl d (k' TB) m)->Rl d (oW i a o' x' k') m
theorem Ą{a:Nat}{k:Nat->O->KX}(H:Wk s ρ x)(hk:∀i o x',s.get a\o->Wk s ρ x'->Xf d m s ρ i a x'.E x'.T x'.R->Rl d (k i o x') m):Rl d (Ÿ a x k) m:=by
 unfold Ÿ;cases hi:Nat.ble 192 (x.h%256)with
 |false=>
  show Rl d (match x.E[x.h%256]? with|some c=>_|none=>_) m;cases hc:x.E[x.h%256]? with
  |none=>trivial
  |some c=>
   intro e;cases e;have hE:(x.E++x.T.flatten)[x.h%256]?\c:=(Yp (Xv.mp hc).1)^hc;refine hk _ _ _ (H.1.own.get hE) (H.sh _) λ o' x' k' e1 e2 e3 H' h=>?_;unfold oW;rw[hi];refine eP λ Pb=>h _ ⟨⟨?_,H'.1.n,H'.1.r⟩,H'.2⟩;show Own _ (x'.E.set _ _++x'.T.flatten);rw[e1,e2];exact List.set_append_left _ _ (Xv.mp hc).1▸H.1.own.set (o':=o') hE
 |true=>
  show Rl d (match x.R[x.h%256 - 192]? with|some c=>_|none=>_) m;cases hc:x.R[x.h%256 - 192]? with
  |none=>trivial
  |some c=>
   intro e;cases e;exact hk _ _ _ (H.1.own.at_ _ (Xw _ (H.1.r _ (Xt hc)))) (H.sh _) λ _ _ _ _ _ _ _ _=>trivial
theorem B4{y r c:Nat}{v w:V}{o:O}{fs:List (Nat×V)}(e0:v=.ref r)(hg:s.get r\o)(e1:o=.inst c fs)(e2:look fs y\w):fp s y v\w:=by subst e0 e1;exact(show oi (s.get r) (λ _ fs=>look fs y)=_ from tb hg e2)
theorem tE{y:Nat}{v:V}{k:KV}(H:Wk s ρ x)(hk:KQ d m k s ρ (fp s y v)):Rl d (xW y v x k) m:=Ĩ λ r e0=>Ą H λ i o x1 hg H1 _=>tC λ c fs e1=>Ō λ w e2=>hk w _ (B4 e0 hg e1 e2) H1
abbrev KS(s:St)(r:Nat)(w:V):Option V:=old (s.get r) (λ l=>wi w λ z=>Ū l z) λ l=>gd (ó w=true) (è l w).join
theorem GB{v w:V}{r:Nat}{z:Int}{o:O}{l:List V}(e0:v=.ref r)(hg:s.get r\o)(e1:o=.list l)(e2:w=.int z):jy s v w=Ū l z:=by subst e0 e1 e2;exact(show KS s r (.int z)=_ from xF hg rfl)
theorem GC{v w:V}{r:Nat}{o:O}{l:List (V×V)}(e0:v=.ref r)(hg:s.get r\o)(e1:o=.dict l)(e2:ó w=true):jy s v w=(è l w).join:=by subst e0 e1;exact(show KS s r w=_ from xG hg (č e2 rfl))
theorem GD{v w:V}{r:Nat}{o:O}{k:KV}(H:Wk s ρ x)(e0:v=.ref r)(hg:s.get r\o)(hk:KQ d m k s ρ (jy s v w)):Rl d (Tx w o x k) m:=by
 cases o with
 |list l=>exact ĝ λ z e2=>vg H λ u x1 e=>hk u _ ((GB e0 hg rfl e2)^e)
 |dict l=>exact dH H λ x1 e2 H1=>vg H1 λ u x1 e=>hk u _ ((GC e0 hg rfl e2)^e)
 |inst c l=>trivial
theorem tF{v w:V}{k:KV}(H:Wk s ρ x)(hk:KQ d m k s ρ (jy s v w)):Rl d (xX v w x k) m:=yd (λ r e0=>Ą H λ i o x1 hg H1 _=>GD H1 e0 hg hk) λ l e0=>ĝ λ z e2=>dH H λ x1 q H1=>vg H1 λ u x1 e=>hk u _ (by subst e0 e2;exact(show gd (z<1000) (Ū l z)=_ from č q e))
abbrev KU(s:St)(r:Nat)(w u:V):Option St:=old (s.get r) (λ l=>wi w λ z=>gd (0<=z/\z.toNat<l.length) (some (s.set r (.list (l.set z.toNat u))))) λ l=>gd (ó w=true/\l.length<lim) ((putK l w u).map (λ ř=>s.set r (.dict ř)))
theorem GF{v w u:V}{r:Nat}{z:Int}{o:O}{l:List V}(e0:v=.ref r)(hg:s.get r\o)(e1:o=.list l)(e2:w=.int z)(q:0<=z/\z.toNat<l.length):é s v w u\(s.set r (.list (l.set z.toNat u))):=by subst e0 e1 e2;exact(show KU s r (.int z) u=_ from xF hg (show gd (0<=z/\z.toNat<l.length) _=_ from č q rfl))
theorem GG{v w u:V}{r:Nat}{o:O}{l l':List (V×V)}(e0:v=.ref r)(hg:s.get r\o)(e1:o=.dict l)(q:ó w=true/\l.length<lim)(e3:putK l w u\l'):é s v w u\(s.set r (.dict l')):=by subst e0 e1;exact(show KU s r w u=_ from xG hg (č q (map_eq e3 rfl)))
theorem tG{v w u:V}{k:KX}(H:Wk s ρ x)(hk:TA d m k ρ (é s v w u)):Rl d (xY v w u x k) m:=
 Ĩ λ r e0=>Ą H λ i o x1 hg H1 hp=>by
  cases o with
  |list l=>exact ĝ λ z e2=>dH H1 λ h2 q H2=>hp _ _ _ rfl rfl rfl H2 λ x' H'=>hk _ x' (GF e0 hg rfl e2 q) H'
  |dict l=>exact dH H1 λ h2 q H2=>eP λ h=>Gz λ l' e3=>hp _ _ _ rfl rfl rfl (H2.sh h) λ x' H'=>hk _ x' (GG e0 hg rfl q e3) H'
  |inst c l=>trivial
theorem lU{f g:V->V->Option Bool}(h:∀a b r,f a b\r->g a b\r){l:List V}:∀{m:List V} {r:Bool},ŋ f l m\r->ŋ g l m\r:=by
 induction l with
 |nil=>exact λ e=>e
 |cons a l ih=>exact fun {m r} e=>match m,e with
  |[],e=>e
  |b::m,e=>í (show bo (f a b) (λ x=>bo (ŋ f l m) λ y=>some (x&&y))\r from e) λ p e1 e=>í e λ q e2 e=>(show bo (g a b) (λ x=>bo (ŋ g l m) λ y=>some (x&&y))\r from ò (h _ _ _ e1) (ò (ih e2) e))
theorem GH{s:St}{n:Nat}{a b:V}{r:Bool}(e:dh sE n a b\r):dh s n a b\r:=by
 induction n generalizing a b r with
 |zero=>exact ns e
 |succ n ih=>
  refine mG (f:=λ i=>wi b λ j=>some (decide (i=j))) (g:=λ l=>wt b λ m=>ŋ (dh sE n) l m) (h:=λ i=>wr b λ j=>ol (sE.get i) λ l=>ol (sE.get j) λ m=>if l.length=m.length then ŋ (dh sE n) l m else some false) e
   (λ i h e=>?_) (λ l h e=>?_) λ i h e=>?_
  ·subst h;exact(show wi b (λ j=>some (decide (i=j)))\r from e)
  ·subst h;exact ox e λ m h e=>by subst h;exact(show ŋ (dh s n) l m\r from lU (λ _ _ _=>ih) e)
  ·exact bY e λ j _ e=>aE e λ l h=>ns h
theorem B5{f:V->V->X->(Bool->KX)->Rt}{g:V->V->Option Bool}(h:∀a b x k,Wk s ρ x->JX d m k s ρ (g a b)->Rl d (f a b x k) m){l l':List V}{x:X}{k:Bool->KX}(H:Wk s ρ x)(hk:JX d m k s ρ (ŋ g l l')):Rl d (xZ f l l' x k) m:=by
 induction l generalizing l' x k with
 |nil=>cases l'<;>exact hk _ _ rfl H
 |cons a l ih=>cases l' with
  |nil=>exact hk _ _ rfl H
  |cons b l'=>exact h a b x _ H λ p x1 e1 H1=>ih H1 λ q x2 e2 H2=>hk _ x2 (show bo (g a b) (λ x=>bo (ŋ g l l') λ y=>some (x&&y))=_ from ò e1 (ò e2 rfl)) H2
theorem GI{n i j:Nat}{l l':List V}{r:Bool}(U:s.get i\(.list l))(h2:s.get j\(.list l'))(e:(if l.length=l'.length then ŋ (dh sE n) l l' else some false)\r):dh s (n+1) (.ref i) (.ref j)\r:=
 show ol (s.get i) (λ l=>ol (s.get j) λ m=>if l.length=m.length then ŋ (dh s n) l m else some false)=_ from Ś U (Ś h2 (by
 by_cases q:l.length=l'.length
 ·rw[XR q]at e ⊢;exact lU (λ _ _ _=>GH) e
 ·rw[XW q]at e ⊢;exact e))
theorem yh{n:Nat}{a b:V}{x:X}{k:Bool->KX}(H:Wk s ρ x)(hk:JX d m k s ρ (dh s n a b)):Rl d (BY n a b x k) m:=by
 induction n generalizing a b x k with
 |zero=>trivial
 |succ n ih=>cases a with
  |int i=>exact ĝ λ j e=>hk _ _ (by subst e;rfl) H
  |tup l=>exact tx λ j e=>B5 (λ a b x k=>ih) H (by subst e;exact hk)
  |ref i=>exact Ĩ λ j e=>Ą H λ _ o x1 hg H1 _=>Ą H1 λ _ p x2 Q9 H2 _=>ı λ l e1=>ı λ l' e2=>yg H2 λ b x3 e3 H3=>hk _ x3 (by subst e e1 e2;exact GI hg Q9 e3) H3
  |_=>trivial
abbrev KW(s:St)(r:Nat)(u:V):Option Bool:=old (s.get r) (λ l=>wi u λ z=>Br z l) λ l=>gd (ó u=true) ((è l u).map Option.isSome)
theorem GJ{u v:V}{r:Nat}{z:Int}{l:List V}(e0:v=.ref r)(hg:s.get r\(.list l))(e2:u=.int z):isIn s u v=Br z l:=by subst e0 e2;exact(show KW s r (.int z)=_ from xF hg rfl)
theorem GK{u v:V}{r:Nat}{l:List (V×V)}(e0:v=.ref r)(hg:s.get r\(.dict l))(e2:ó u=true):isIn s u v=(è l u).map Option.isSome:=by subst e0;exact(show KW s r u=_ from xG hg (č e2 rfl))
theorem tH{u v:V}{k:Bool->KX}(H:Wk s ρ x)(hk:JX d m k s ρ (isIn s u v)):Rl d (x7 u v x k) m:=
 Ĩ λ r e0=>Ą H λ _ o x1 hg H1 _=>by
  cases o with
  |list l=>exact ĝ λ z e=>yg H1 λ b x2 e2=>hk b x2 ((GJ e0 hg e)^e2)
  |dict l=>exact dH H1 λ h e H1=>yg H1 λ b x2 e2=>hk b x2 ((GK e0 hg e)^e2)
  |inst c l=>trivial
theorem GL{o:qF}{a b:V}{k:Bool->KX}(H:Wk s ρ x)(hk:JX d m k s ρ (BN s o a b)):Rl d (KJ o a b x k) m:=by
 cases o with
 |eq=>exact yh H hk
 |ne=>exact yh H λ p x' e=>hk _ x' (map_eq e rfl)
 |isin=>exact tH H hk
 |ũ=>exact tH H λ p x' e=>hk _ x' (map_eq e rfl)
 |is=>exact mU λ e=>hk _ _ (by subst e;rfl) H
 |bF=>exact mU λ e=>hk _ _ (by subst e;rfl) H
 |_=>exact ĝ λ i e=>ĝ λ j e'=>hk _ _ (by subst e e';rfl) H
theorem KY{i j:Nat}{l l':List V}(U:s.get i\(.list l))(h2:s.get j\(.list l'))(q:l.length+l'.length<=lim):xq s .add (.ref i) (.ref j)\(.ref s.n,s.new (.list (l++l'))):=show gd (isAdd .add=true) (ol (s.get i) λ l=>ol (s.get j) λ m=>gd (l.length+m.length<=lim) (some (V.ref s.n,s.new (.list (l++m)))))=_ from č rfl (Ś U (Ś h2 (č q rfl)))
theorem GN{o:fo}{a b:V}{k:KV}(H:Wk s ρ x)(hk:qT d m k ρ (xq s o a b)):Rl d (KL o a b x k) m:=by
 cases a with
 |int a=>
  exact ĝ λ b e=>by
   subst e;cases o with
   |add=>exact hk _ _ _ rfl H
   |sub=>exact hk _ _ _ rfl H
   |_=>exact dH H λ h q H=>hk _ _ _ (map_eq (č q rfl) rfl) H
 |ref i=>
  exact Ĩ λ j e=>by
   subst e;cases o with
   |add=>exact Ą H λ _ o x1 hg H1 _=>Ą H1 λ _ p x2 Q9 H2 _=>ı λ l e1=>ı λ l' e2=>dH H2 λ h q H=>GA H hk (KY (e1▸hg) (e2▸Q9) q)
   |_=>trivial
 |_=>trivial
theorem KZ{v:V}{r:Nat}{l:List V}(e0:v=.ref r)(hg:s.get r\(.list l)):Gl s v\(.int l.length):=by subst e0;exact(show ol (s.get r) (λ l=>some (V.int l.length))=_ from Ś hg rfl)
theorem E7{r:Nat}{l:List (V×V)}{m:List V}(hg:s.get r\(.dict l))(e:di l\m):Kv s .sorted [.ref r]\(.ref s.n,s.new (.list m)):=show od (s.get r) (λ es=>(di es).map λ l=>(V.ref s.n,s.new (.list l)))=_ from EZ hg (map_eq e rfl)
theorem K0{f:Bi}{k:KV}(H:Wk s ρ x)(hk:qT d m k ρ (Kv s f vs)):Rl d (Tz f vs x k) m:=by
 cases f with
 |len=>exact qU λ a e=>yd (λ r e0=>Ą H λ _ o x1 hg H1 _=>ı λ l e1=>hk _ _ _ (by subst e;exact map_eq (KZ e0 (e1▸hg)) rfl) H1) λ l e0=>dH H λ h q H=>hk _ _ _ (by subst e e0;exact map_eq (show gd (l.length<=lim) _=_ from č q rfl) rfl) H
 |sorted=>
  exact qU λ a e=>Ĩ λ r e0=>Ą H λ _ o x1 hg H1 _=>tB λ l e1=>by
   subst e e0 e1;cases l with
   |nil=>exact aN H1 hk (E7 hg rfl)
   |cons p l=>cases l with
    |nil=>exact ĝ λ z e=>aN H1 hk (by cases p with|mk a b=>cases e;exact E7 hg rfl)
    |cons _ _=>trivial
 |min=>exact yf λ a b e=>ĝ λ i e1=>ĝ λ j e2=>vg H λ v h e3 H=>hk _ _ _ (by subst e e1 e2;cases e3;rfl) H
theorem Q_{lo hi:Option Nat}{v:V}{r:Nat}{l m:List V}(e0:v=.ref r)(hg:s.get r\(.list l))(q:l.length<=lim)(e:qM lo hi l\m):hG s lo hi v\(.ref s.n,s.new (.list m)):=by subst e0;exact(show ol (s.get r) (λ l=>gd (l.length<=lim) ((qM lo hi l).map λ m=>(V.ref s.n,s.new (.list m))))=_ from Ś hg (č q (map_eq e rfl)))
theorem yi{lo hi:Option Nat}{v:V}{k:KV}(H:Wk s ρ x)(hk:qT d m k ρ (hG s lo hi v)):Rl d (x8 lo hi v x k) m:=
 Ĩ λ r e0=>Ą H λ _ o x1 hg H1 _=>ı λ l e1=>dH H1 λ h q H=>by
  have E:=fun {m} (e:qM lo hi l\m)=>Q_ e0 (e1▸hg) q e;cases lo with
  |none=>cases hi with
   |none=>trivial
   |some b=>exact GA H hk (E rfl)
  |some a=>cases hi with
   |none=>exact GA H hk (E rfl)
   |some b=>trivial
theorem K1{y r:Nat}{v:V}{l:List V}(e0:v=.ref r)(hg:s.get r\(.list l)):jz G s y v=if y=dg then some .append else gd (y=xl) (some .pop):=by subst e0;exact KA hg
theorem Ra{y r:Nat}{v:V}{l:List (V×V)}(e0:v=.ref r)(hg:s.get r\(.dict l)):jz G s y v=gd (y=xn) (some .get):=by subst e0;exact KD hg
theorem Rb{y r c f:Nat}{v:V}{l:List (Nat×V)}(e0:v=.ref r)(hg:s.get r\(.inst c l))(e1:look l y=none)(e2:G.ì c y\f):jz G s y v\(.fn f):=by subst e0;exact(KG hg)^(č (e1▸rfl) (map_eq e2 rfl))
theorem yj{y:Nat}{v:V}{k:MK->KX}(H:Wk s ρ x)(hk:Xe d m k s ρ (jz G s y v)):Rl d (x9 y v x k) m:=
 Ĩ λ r e0=>Ą H λ _ o x1 hg H1 _=>by
  cases o with
  |list l=>exact mV (λ q=>hk _ _ ((K1 e0 hg)^(XR q)) H1) λ q=>mV (λ q'=>hk _ _ (((K1 e0 hg)^(XW q))^(č q' rfl)) H1) λ _=>trivial
  |dict l=>exact mV (λ q=>hk _ _ ((Ra e0 hg)^(č q rfl)) H1) λ _=>trivial
  |inst c l=>
   show Rl d (match look l y with|none=>_|some _=>_) m;cases e1:look l y with
   |none=>exact Ō λ f e2=>hk _ _ (Rb e0 hg e1 e2) H1
   |some _=>trivial
def K2(d:Nat)(c:KC)(C:Call):Prop:=∀f vs x k m s ρ,Wk s ρ x->qT d m k ρ (C f vs s)->Rl d (c f vs x k) m
variable{c:KC}{C:Call}
theorem K3{r:Nat}{v:V}{l:List V}(hg:s.get r\(.list l))(q:l.length<lim):bG C s (.ref r) .append [v]\(.none,s.set r (.list (l++[v]))):=show ol (s.get r) (λ l=>gd (l.length<lim) (some (V.none,s.set r (.list (l++[v])))))=_ from Ś hg (č q rfl)
theorem K4{r:Nat}{v:V}{l:List V}(hg:s.get r\(.list l))(q:l.length<=lim)(e:l.getLast?\v):bG C s (.ref r) .pop []\(v,s.set r (.list l.dropLast)):=show ol (s.get r) (λ l=>gd (l.length<=lim) (bo l.getLast? λ y=>some (y,s.set r (.list l.dropLast))))=_ from Ś hg (č q (ò e rfl))
theorem GO{r:Nat}{v:V}{l:List V}(hg:s.get r\(.list (v::l)))(q:l.length<lim):bG C s (.ref r) .pop [.int 0]\(v,s.set r (.list l)):=show ol (s.get r) (λ l=>wc l λ y t=>gd (t.length<lim) (some (y,s.set r (.list t))))=_ from Ś hg (show gd (l.length<lim) _=_ from č q rfl)
theorem K5{r:Nat}{w e:V}{l:List (V×V)}{q':Option V}(hg:s.get r\(.dict l))(q:ó w=true)(h:è l w\q'):lp s r w e\(q'.getD e,s):=show od (s.get r) (λ es=>gd (ó w=true) ((è es w).map λ r=>(r.getD e,s)))=_ from EZ hg (č q (map_eq h rfl))
theorem E8{r:Nat}{w e:V}{k:KV}(H:Wk s ρ x)(hk:qT d m k ρ (lp s r w e)):Rl d (Q7 r w e x k) m:=
 Ą H λ _ o x1 hg H1 _=>tB λ l e1=>dH H1 λ h q H=>vg H λ v h e3 H=>hk _ _ _ (by
  cases e4:è l w with
  |none=>rw[e4]at e3;exact ns e3
  |some q'=>rw[e4]at e3;cases e3;exact K5 (e1▸hg) q e4) H
theorem GQ{r:Nat}{k:KV}(H:Wk s ρ x)(hk:qT d m k ρ (bG C s (.ref r) .pop vs)):Rl d (Gx r vs x k) m:=by
 cases vs with
 |nil=>
  unfold Gx;exact Ą H λ _ o x1 hg H1 hp=>ı λ l e1=>dH H1 λ h q H=>vg H λ v h e3 H=>hp _ _ _ rfl rfl rfl H λ x' H'=>hk _ _ _ (K4 (e1▸hg) q e3) H'
 |cons v vs=>cases vs with
  |nil=>exact ĝ λ z e=>mV (λ e'=>Ą H λ _ o x1 hg H1 hp=>ı λ l e1=>by
   subst e e' e1;cases l with
   |nil=>trivial
   |cons v l=>exact dH H1 λ h q H=>hp _ _ _ rfl rfl rfl H λ x' H'=>hk _ _ _ (GO hg q) H') λ _=>trivial
  |cons _ _=>trivial
theorem yk(hc:K2 d c C){o:V}{mk:MK}{k:KV}(H:Wk s ρ x)(hk:qT d m k ρ (bG C s o mk vs)):Rl d (x_ c o mk vs x k) m:=by
 cases mk with
 |fn f=>exact hc _ _ _ _ _ _ _ H hk
 |append=>exact Ĩ λ r e0=>qU λ v e=>Ą H λ _ o x1 hg H1 hp=>ı λ l e1=>dH H1 λ h q H=>hp _ _ _ rfl rfl rfl H λ x' H'=>hk _ _ _ (by subst e0 e e1;exact K3 hg q) H'
 |pop=>exact Ĩ λ r e0=>GQ (C:=C) H (e0▸hk)
 |get=>
  refine Ĩ λ r e0=>?_;subst e0;cases vs with
  |nil=>trivial
  |cons w vs=>cases vs with
   |nil=>exact E8 H hk
   |cons e vs=>cases vs with
    |nil=>exact E8 H hk
    |cons _ _=>trivial
theorem K6{cl f:Nat}{s':St}(e1:G.init cl\(some f))(e2:C f (.ref s.n::vs) (s.new (.inst cl []))\(.none,s')):xt G C s cl vs\(.ref s.n,s'):=ò e1 (Ï e2 rfl)
theorem K7{cl:Nat}(e1:G.init cl\none):xt G C s cl []\(.ref s.n,s.new (.inst cl [])):=ò e1 rfl
theorem GR(hc:K2 d c C){cl:Nat}{k:KV}(H:Wk s ρ x)(hk:qT d m k ρ (xt G C s cl vs)):Rl d (KO c cl vs x k) m:=by
 show Rl d (match G.init cl with|none=>_|some none=>_|some (some f)=>_) m;cases U:G.init cl with
 |none=>trivial
 |some o=>cases o with
  |none=>cases vs with
   |nil=>exact aN H hk (K7 U)
   |cons _ _=>trivial
  |some f=>
   refine hc _ _ _ _ _ _ ρ (H.new _) λ v s' x' e H'=>mU λ e'=>?_;subst e';exact hk _ s' x' (H.1.n▸K6 U (H.1.n.symm▸e)) H'
theorem GS{y r c:Nat}{w v:V}{fs:List (Nat×V)}(e0:v=.ref r)(hg:s.get r\(.inst c fs))(q:fs.length<900/\G.fld c y=true):jA G s y w v\(s.set r (.inst c (av fs y w))):=by subst e0;exact(show oi (s.get r) (λ c fs=>gd (fs.length<900/\G.fld c y=true) (some (s.set r (.inst c (av fs y w)))))=_ from tb hg (č q rfl))
theorem tI{y:Nat}{w v:V}{k:KX}(H:Wk s ρ x)(hk:TA d m k ρ (jA G s y w v)):Rl d (ya y w v x k) m:=Ĩ λ r e0=>Ą H λ _ o x1 hg H1 hp=>tC λ c fs e1=>dH H1 λ h q H=>hp _ _ _ rfl rfl rfl H λ x' H'=>hk _ x' (GS e0 (e1▸hg) q) H'
theorem qV{o:fo}{a b:V}{k:KV}(hk:∀w,mE o a b\w->Rl d (k w x) m):Rl d (BZ o a b x k) m:=Ō hk
end
section
variable{d j:Nat}{m:Res}{c:KC}(hc:K2 d c (Ý G fns (d+j)))
include hc
mutual
theorem ø:∀(e:E) (x:X) (k:KV) (ρ:Loc) (s:St),Wk s ρ x->qT d m k ρ (Ä G (Ý G fns (d+j)) ρ e s)->Rl d (xE c j e x k) m
 |.const v,x,k,ρ,s,H,hk=>hk v s x rfl H
 |.loc y,x,k,ρ,s,H,hk=>Ō λ v e=>hk v s x (map_eq (H.2 y v e) rfl) H
 |.glob _ v,x,k,ρ,s,H,hk=>hk v s x rfl H
 |.attr e y,x,k,ρ,s,H,hk=>ø e x _ ρ s H λ v s1 x1 e1 H1=>tE H1 λ w x2 e2 H2=>hk w s1 x2 (fy^(Ï e1 (map_eq e2 rfl))) H2
 |.sub e i,x,k,ρ,s,H,hk=>ø e x _ ρ s H λ v s1 x1 e1 H1=>ø i x1 _ ρ s1 H1 λ w s2 x2 e2 H2=>tF H2 λ u x3 e3 H3=>hk u s2 x3 (tc^(Ï e1 (Ï e2 (map_eq e3 rfl)))) H3
 |.slice e lo hi,x,k,ρ,s,H,hk=>ø e x _ ρ s H λ v s1 x1 e1 H1=>yi H1 λ w s2 x2 e2 H2=>hk w s2 x2 (hH^(Ï e1 e2)) H2
 |.bin o a b,x,k,ρ,s,H,hk=>ø a x _ ρ s H λ v s1 x1 e1 H1=>ø b x1 _ ρ s1 H1 λ w s2 x2 e2 H2=>GN H2 λ u s3 x3 e3 H3=>hk u s3 x3 (td^(Ï e1 (Ï e2 e3))) H3
 |.neg a,x,k,ρ,s,H,hk=>ø a x _ ρ s H λ v s1 x1 e1 H1=>ĝ λ i e2=>hk _ s1 x1 (ti^(Ï e1 (e2▸rfl))) H1
 |.not a,x,k,ρ,s,H,hk=>ø a x _ ρ s H λ v s1 x1 e1 H1=>ū λ i e2=>hk _ s1 x1 (mI^(Ï e1 (e2▸rfl))) H1
 |.and l,x,k,ρ,s,H,hk=>tJ l x k ρ s H hk
 |.or l,x,k,ρ,s,H,hk=>ym l x k ρ s H hk
 |.cmp o a b,x,k,ρ,s,H,hk=>ø a x _ ρ s H λ v s1 x1 e1 H1=>ø b x1 _ ρ s1 H1 λ w s2 x2 e2 H2=>GL H2 λ u x3 e3 H3=>hk _ s2 x3 (je^(Ï e1 (Ï e2 (map_eq e3 rfl)))) H3
 |.Ñ _ f args,x,k,ρ,s,H,hk=>cG args x _ ρ s H λ v s1 x1 e1 H1=>hc _ _ _ _ _ _ ρ H1 λ u s2 x2 e2 H2=>hk u s2 x2 (oz^(Ï e1 e2)) H2
 |.new _ cl args,x,k,ρ,s,H,hk=>cG args x _ ρ s H λ v s1 x1 e1 H1=>GR hc H1 λ u s2 x2 e2 H2=>hk u s2 x2 (tj^(Ï e1 e2)) H2
 |.bi _ f args,x,k,ρ,s,H,hk=>cG args x _ ρ s H λ v s1 x1 e1 H1=>K0 H1 λ u s2 x2 e2 H2=>hk u s2 x2 (xI^(Ï e1 e2)) H2
 |.ì o y args,x,k,ρ,s,H,hk=>ø o x _ ρ s H λ v s1 x1 e1 H1=>yj H1 λ q x2 e2 H2=>cG args x2 _ ρ s1 H2 λ w s3 x3 e3 H3=>yk hc H3 λ u s4 x4 e4 H4=>hk u s4 x4 (oA^(Ï e1 (ò e2 (Ï e3 e4)))) H4
 |.list l,x,k,ρ,s,H,hk=>cG l x _ ρ s H λ v s1 x1 e1 H1=>aN H1 hk (oB^(Ï e1 rfl))
 |.tup l,x,k,ρ,s,H,hk=>cG l x _ ρ s H λ v s1 x1 e1 H1=>hk _ s1 x1 (tl^(Ï e1 rfl)) H1
 |.dict ks l,x,k,ρ,s,H,hk=>cG l x _ ρ s H λ v s1 x1 e1 H1=>Ō λ es e2=>aN H1 hk (oC^(Ï e1 (map_eq e2 rfl)))
 |.BL a _ ks,x,k,ρ,s,H,hk=>ø a x _ ρ s H λ v s1 x1 e1 H1=>ĝ λ i e2=>hk _ s1 x1 (mJ^(Ï e1 (e2▸rfl))) H1
 |.comp a y src ù ifs,x,k,ρ,s,H,hk=>⟨s,ρ,H.1,H.2,λ v s' x' e H' L'=>hk v s' x' e ⟨H',L'▸H.2⟩⟩
theorem cG:∀(l:List E) (x:X) (k:List V->KX) (ρ:Loc) (s:St),Wk s ρ x->Xd d m k ρ (ß G (Ý G fns (d+j)) ρ l s)->Rl d (B0 c j l x k) m
 |[],x,k,ρ,s,H,hk=>hk [] s x rfl H
 |e::r,x,k,ρ,s,H,hk=>ø e x _ ρ s H λ v s1 x1 e1 H1=>cG r x1 _ ρ s1 H1 λ w s2 x2 e2 H2=>hk _ s2 x2 (aF^(Ï e1 (Ï e2 rfl))) H2
theorem tJ:∀(l:List E) (x:X) (k:KV) (ρ:Loc) (s:St),Wk s ρ x->qT d m k ρ (evalAnd G (Ý G fns (d+j)) ρ l s)->Rl d (Gy c j l x k) m
 |[],_,_,_,_,_,_=>trivial
 |[e],x,k,ρ,s,H,hk=>ø e x _ ρ s H λ v s1 x1 e1 H1=>ū λ b e2=>hk _ s1 x1 (bZ^(Ï e1 (by subst e2;cases b<;>rfl))) H1
 |e::a::r,x,k,ρ,s,H,hk=>ø e x _ ρ s H λ v s1 x1 e1 H1=>ū λ b e2=>tD H1 λ x2 H2=>jS (λ e3=>tJ (a::r) x2 k ρ s1 H2 λ w s3 x3 e4=>hk _ s3 x3 (bZ^(Ï e1 (by subst e2 e3;exact e4)))) λ e3=>hk _ s1 x2 (bZ^(Ï e1 (by subst e2 e3;rfl))) H2
theorem ym:∀(l:List E) (x:X) (k:KV) (ρ:Loc) (s:St),Wk s ρ x->qT d m k ρ (evalOr G (Ý G fns (d+j)) ρ l s)->Rl d (Q8 c j l x k) m
 |[],_,_,_,_,_,_=>trivial
 |[e],x,k,ρ,s,H,hk=>ø e x _ ρ s H λ v s1 x1 e1 H1=>ū λ b e2=>hk _ s1 x1 (b_^(Ï e1 (by subst e2;cases b<;>rfl))) H1
 |e::a::r,x,k,ρ,s,H,hk=>ø e x _ ρ s H λ v s1 x1 e1 H1=>ū λ b e2=>tD H1 λ x2 H2=>jS (λ e3=>hk _ s1 x2 (b_^(Ï e1 (by subst e2 e3;rfl))) H2) λ e3=>ym (a::r) x2 k ρ s1 H2 λ w s3 x3 e4=>hk _ s3 x3 (b_^(Ï e1 (by subst e2 e3;exact e4)))
end
end
end Mine.Z
namespace Mine.Z
variable{vs:List V}
def KN(d:Nat)(m:Res)(k:KX)(r:Res):Prop:=∀Ð s' x',r\(.next,Ð,s')->Wk s' Ð x'->Rl d (k x') m
def KR(d:Nat)(m:Res)(k:KV)(r:Res):Prop:=∀v Ð s' x',r\(.ret v,Ð,s')->Wk s' Ð x'->Rl d (k v x') m
structure KB (d:Nat) (m:Res) (kn:KX) (kr:KV) (r:Res):Prop where
 n:KN d m kn r
 r:KR d m kr r
theorem Wk.set{s:St}{ρ:Loc}{x:X}(H:Wk s ρ x)(y:Nat)(v:V):Wk s (ρ.set y v) (x.sL ((y,v)::x.L)):=⟨⟨H.1.own,H.1.n,H.1.r⟩,H.2.set y v⟩
section
variable{d:Nat}{m:Res}{s:St}{ρ:Loc}{x:X}{kn:KX}{kr:KV}
theorem KB.to{r r':Res}(h:KB d m kn kr r)(e:r=r'):KB d m kn kr r':=e▸h
theorem KB.sq{r:Res}{f:Loc->St->Res}(h:KB d m kn kr (bf r f λ v ρ s=>some (.ret v,ρ,s))):KR d m kr r:=λ v Ð s' x' e=>h.r v Ð s' x' (BR e rfl)
theorem KB.sn{r:Res}{f:Loc->St->Res}(h:KB d m kn kr (bf r f λ v ρ s=>some (.ret v,ρ,s))){Ð:Loc}{s':St}(e:r\(.next,Ð,s')):KB d m kn kr (f Ð s'):=h.to (vc e rfl)
theorem qW{t:Nat}{a b:KX}(H:Wk s ρ x)(ha:∀x',Wk s ρ x'->Rl d (a x') m)(hb:∀x',Wk s ρ x'->Rl d (b x') m):Rl d (yc t x a b) m:=by
 unfold yc;cases x.h%256 with
 |zero=>exact ha _ (H.sh _)
 |succ n=>cases n with
  |zero=>exact hb _ (H.sh _)
  |succ _=>trivial
theorem yn{ce:X->KV->Rt}{b:X->KX->KV->Rt}{fe:Loc->St->Option (V×St)}{fb:Loc->St->Res}
  (he:∀x k ρ s,Wk s ρ x->qT d m k ρ (fe ρ s)->Rl d (ce x k) m) (hb:∀x kn kr ρ s,Wk s ρ x->KB d m kn kr (fb ρ s)->Rl d (b x kn kr) m) {n:Nat} {x:X} {ρ:Loc} {s:St} (H:Wk s ρ x) (h:KB d m kn kr (whileLoop fe fb n ρ s)):Rl d (qR ce b n x kn kr) m:=by
 induction n generalizing x ρ s with
 |zero=>trivial
 |succ n ih=>exact he x _ ρ s H λ v s1 x1 e1 H1=>ū λ p e2=>tD H1 λ x2 H2=>jS (λ e3=>
  have h':=h.to (mL^(Ï e1 (by subst e2 e3;rfl)))
  hb _ _ _ ρ s1 H2 ⟨λ dG s2 x3 e3 H3=>ih H3 (h'.sn e3),h'.sq⟩) λ e3=>h.n ρ s1 _ (mL^(Ï e1 (by subst e2 e3;rfl))) H2
theorem yo{item:Nat->X->KV->Rt}{fin:X->KX->Rt}{b:X->KX->KV->Rt}{y:Nat}{sc:Src}{fb:Loc->St->Res}
  (hi:∀i x k ρ s,Wk s ρ x->KQ d m k s ρ (sc.item i s)->Rl d (item i x k) m)
  (hf:∀x k ρ s,Wk s ρ x->(∀x',sc.fin s=true->Wk s ρ x'->Rl d (k x') m)->Rl d (fin x k) m)
  (hb:∀x kn kr ρ s,Wk s ρ x->KB d m kn kr (fb ρ s)->Rl d (b x kn kr) m) {n i:Nat} {x:X} {ρ:Loc} {s:St} (H:Wk s ρ x) (h:KB d m kn kr (forLoop fb (bind1 y) sc n i ρ s)):Rl d (B1 item fin y b n i x kn kr) m:=by
 induction n generalizing i x ρ s with
 |zero=>exact hf x kn ρ s H λ x' e H'=>h.n ρ s _ (XR e) H'
 |succ n ih=>
  refine hi i x _ ρ s H λ v x1 e1 H1=>?_;have h':=h.to (tq^(ò e1 rfl));exact hb _ _ _ _ s (H1.set y v) ⟨λ dG s2 x3 e3 H3=>ih H3 (h'.sn e3),h'.sq⟩
theorem B6{r i n:Nat}{k:KV}(H:Wk s ρ x)(hk:KQ d m k s ρ ((þ r n).item i s)):Rl d (E5 r i x k) m:=Ą H λ _ o x1 hg H1 _=>ı λ l e=>Ō λ v e1=>hk v _ ((f6 (e▸hg))^e1) H1
theorem B7{r n:Nat}{k:KX}(H:Wk s ρ x)(hk:∀x',(þ r n).fin s=true->Wk s ρ x'->Rl d (k x') m):Rl d (E6 r n x k) m:=Ą H λ _ o x1 hg H1 _=>ı λ l e=>jS (λ e1=>hk _ (iR (e▸hg) (YM e1)) H1) λ _=>trivial
theorem GU{ù:Option Nat}{v:V}{y:Nat}{b:X->KX->KV->Rt}{fb:Loc->St->Res}
  (hb:∀x kn kr ρ s,Wk s ρ x->KB d m kn kr (fb ρ s)->Rl d (b x kn kr) m) (H:Wk s ρ x) (h:KB d m kn kr (bo (bq s ù.isSome v) λ c=>forLoop fb (bind1 y) c c.len 0 ρ s)):Rl d (KP ù v x y b kn kr) m:=by
 cases ù with
 |none=>exact Ĩ λ r e0=>Ą H λ _ o x1 hg H1 _=>ı λ l e1=>dH H1 λ z q H=>yo (sc:=þ r l.length) (λ i x k ρ s H hk=>B6 H hk) (λ x k ρ s H hk=>B7 H hk) hb H (h.to (ò (by subst e0 e1;exact src_list hg q) rfl))
 |some k=>exact ĝ λ z e0=>dH H λ q q' H=>yo (sc:=⟨z.toNat,λ i _=>some (.int i),λ _=>true⟩) (λ i x k ρ s H hk=>hk _ _ rfl H) (λ x k ρ s H hk=>hk _ rfl H) hb H (h.to (ò (by subst e0;exact(show gd _ _=_ from č ⟨rfl,q'⟩ rfl)) rfl))
theorem qX{j:Nat}{a:S}(H:Wk s ρ x)(h:KB d m kn kr (ü G (Ý G fns (d+j)) a ρ s)):Rl d (.st j a x kn) m:=⟨s,ρ,H.1,H.2,λ Ð s' x' e H' R'=>h.n Ð s' x' e ⟨H',R'⟩⟩
theorem oY{j f:Nat}(H:Wk s ρ x)(hk:qT d m kr ρ (Ý G fns (d+j) f vs s)):Rl d (.call j f vs x kr) m:=⟨s,H.1,λ v s' x' e H' L'=>hk v s' x' e ⟨H',L'▸H.2⟩⟩
end
section
variable{d j:Nat}{m:Res}{c:KC}(hc:K2 d c (Ý G fns (d+j)))
include hc
mutual
theorem K8:∀(S:S) (x:X) (kn:KX) (kr:KV) (ρ:Loc) (s:St),Wk s ρ x->KB d m kn kr (ü G (Ý G fns (d+j)) S ρ s)->Rl d (xS c j S x kn kr) m
 |.expr e,x,kn,kr,ρ,s,H,h=>ø hc e x _ ρ s H λ v s1 x1 e1 H1=>h.n ρ s1 x1 (oE^(Ï e1 rfl)) H1
 |.asg y e,x,kn,kr,ρ,s,H,h=>ø hc e x _ ρ s H λ v s1 x1 e1 H1=>h.n _ s1 _ (tn^(Ï e1 rfl)) (H1.set y v)
 |.ou y z e,x,kn,kr,ρ,s,H,h=>ø hc e x _ ρ s H λ v s1 x1 e1 H1=>tx λ l e2=>yf λ a b e3=>h.n _ s1 _ (oH^(Ï e1 (by subst e2 e3;rfl))) ((H1.set y a).set z b)
 |.mA o y e,x,kn,kr,ρ,s,H,h=>ø hc e x _ ρ s H λ v s1 x1 e1 H1=>ø hc o x1 _ ρ s1 H1 λ w s2 x2 e2 H2=>tI H2 λ s3 x3 e3 H3=>h.n ρ s3 x3 (oJ^(Ï e1 (Ï e2 (map_eq e3 rfl)))) H3
 |.é o i e,x,kn,kr,ρ,s,H,h=>ø hc e x _ ρ s H λ v s1 x1 e1 H1=>ø hc o x1 _ ρ s1 H1 λ w s2 x2 e2 H2=>ø hc i x2 _ ρ s2 H2 λ u s3 x3 e3 H3=>tG H3 λ s4 x4 e4 H4=>h.n ρ s4 x4 (oK^(Ï e1 (Ï e2 (Ï e3 (map_eq e4 rfl))))) H4
 |.mB y o e,x,kn,kr,ρ,s,H,h=>Ō λ a ea=>ø hc e x _ ρ s H λ v s1 x1 e1 H1=>qV λ w e2=>h.n _ s1 _ (oM^(ò (H.2 y a ea) (Ï e1 (map_eq e2 rfl)))) (H1.set y w)
 |.jw b y o e,x,kn,kr,ρ,s,H,h=>ø hc b x _ ρ s H λ v s1 x1 e1 H1=>tE H1 λ a x2 e2 H2=>ø hc e x2 _ ρ s1 H2 λ u s3 x3 e3 H3=>qV λ w e4=>tI H3 λ s5 x5 e5 H5=>h.n ρ s5 x5 (oN^(Ï e1 (ò e2 (Ï e3 (ò e4 (map_eq e5 rfl)))))) H5
 |.lj b i o e,x,kn,kr,ρ,s,H,h=>ø hc b x _ ρ s H λ v s1 x1 e1 H1=>ø hc i x1 _ ρ s1 H1 λ iv s2 x2 e2 H2=>tF H2 λ a x3 e3 H3=>ø hc e x3 _ ρ s2 H3 λ u s4 x4 e4 H4=>qV λ w e5=>tG H4 λ s6 x6 e6 H6=>h.n ρ s6 x6 (oO^(Ï e1 (Ï e2 (ò e3 (Ï e4 (ò e5 (map_eq e6 rfl))))))) H6
 |.ite e t f,x,kn,kr,ρ,s,H,h=>ø hc e x _ ρ s H λ v s1 x1 e1 H1=>ū λ p e2=>tD H1 λ x2 H2=>jS (λ e3=>cJ t _ kn kr ρ s1 H2 (h.to (fA^(Ï e1 (by subst e2 e3;rfl))))) λ e3=>cJ f _ kn kr ρ s1 H2 (h.to (fA^(Ï e1 (by subst e2 e3;rfl))))
 |.while e b,x,kn,kr,ρ,s,H,h=>qW H (λ x1 H1=>yn (λ x k ρ s H=>ø hc e x k ρ s H) (λ x kn kr ρ s H h=>cJ b x kn kr ρ s H h) H1 (h.to vd)) (λ x1 H1=>qX H1 h)
 |.Č y e ù b,x,kn,kr,ρ,s,H,h=>qW H (λ x1 H1=>ø hc e _ _ ρ s H1 λ v s1 x2 e1 H2=>GU (λ x kn kr ρ s H h=>cJ b x kn kr ρ s H h) H2 (h.to (jC^(Ï e1 rfl)))) (λ x1 H1=>qX H1 h)
 |.g_ y z e b,x,kn,kr,ρ,s,H,h=>qX H h
 |.ret none,x,kn,kr,ρ,s,H,h=>h.r _ ρ s x rfl H
 |.ret (some e),x,kn,kr,ρ,s,H,h=>ø hc e x _ ρ s H λ v s1 x1 e1 H1=>h.r v ρ s1 x1 (mK^(Ï e1 rfl)) H1
 |.bad,x,kn,kr,ρ,s,H,h=>trivial
theorem cJ:∀(l:List S) (x:X) (kn:KX) (kr:KV) (ρ:Loc) (s:St),Wk s ρ x->KB d m kn kr (Ê G (Ý G fns (d+j)) l ρ s)->Rl d (lq c j l x kn kr) m
 |[],x,kn,kr,ρ,s,H,h=>h.n ρ s x rfl H
 |a::r,x,kn,kr,ρ,s,H,h=>
  have h':=h.to dj
  K8 a x _ kr ρ s H ⟨λ ċ s1 x1 e1 H1=>cJ r x1 kn kr ċ s1 H1 (h'.sn e1),h'.sq⟩
end
end
theorem oZ{ps:List Nat}{L:LV}(e:bindL ps vs\L):∃ρ,Ŕ ps vs\ρ/\dk ρ L:=by
 induction ps generalizing vs L with
 |nil=>cases vs with
  |nil=>cases e;exact⟨_,rfl,λ y v h=>ns h⟩
  |cons _ _=>exact ns e
 |cons y ys ih=>cases vs with
  |nil=>exact ns e
  |cons v vs=>
   cases e1:bindL ys vs with
   |none=>exact ns ((Xq (λ o:Option LV=>(match o with|some L=>some ((y,v)::L)|none=>none)) e1).symm.trans e)
   |some L'=>
    obtain⟨ρ,U,h2⟩:=ih e1;have e2:=(Xq (λ o:Option LV=>(match o with|some L=>some ((y,v)::L)|none=>none)) e1).symm.trans e;cases e2;exact⟨ρ.set y v,map_eq U rfl,h2.set y v⟩
theorem yp{d:Nat}{j:Nat}:K2 d (xD j) (Ý G fns (d+j)):=by
 induction j with
 |zero=>exact λ f vs x k m s ρ H hk=>oY H hk
 |succ j ih=>
  intro f vs x k m s ρ H hk;unfold xD;refine qW H (λ x1 H1=>?_) λ x1 H1=>oY H1 hk;show Rl d (match fns f with|some fn=>_|none=>_) m;cases hf:fns f with
  |none=>trivial
  |some fn=>
   show Rl d (match bindL fn.params vs with|some L=>_|none=>_) m;cases hL:bindL fn.params vs with
   |none=>trivial
   |some L=>
    obtain⟨Ð,U,h2⟩:=oZ hL;exact cJ ih _ _ _ _ Ð s ⟨⟨H1.1.own,H1.1.n,H1.1.r⟩,h2⟩ ⟨λ ċ s1 x2 e1 H2=>hk _ s1 _ (lT hf U e1) ⟨⟨H2.1.own,H2.1.n,H2.1.r⟩,H1.2⟩,λ v ċ s1 x2 e1 H2=>hk _ s1 _ (cB hf U e1) ⟨⟨H2.1.own,H2.1.n,H2.1.r⟩,H1.2⟩⟩
variable{α:Type}
structure Hp where
 E:Ç
 T:List Ç
 n:Nat
def Ė(s:St)(h:Hp):Prop:=Own s (h.E++h.T.flatten)/\s.n=h.n
def Spec(d f:Nat)(vs:List V)(h:Hp)(Z:V->Hp->Prop):Prop:=∀s,Ė s h->∃v s' h',Ý G fns d f vs s\(v,s')/\Ė s' h'/\Z v h'
def Ó(d:Nat)(e:E)(L:LV)(h:Hp)(Z:V->Hp->Prop):Prop:=∀s ρ,dk ρ L->Ė s h->∃v s' h',Ä G (Ý G fns d) ρ e s\(v,s')/\Ė s' h'/\Z v h'
def Ď(d:Nat)(S:S)(L:LV)(h:Hp)(Z:LV->Hp->Prop):Prop:=∀s ρ,dk ρ L->Ė s h->∃Ð s' L' h',ü G (Ý G fns d) S ρ s\(.next,Ð,s')/\dk Ð L'/\Ė s' h'/\Z L' h'
def Ã(d:Nat)(b:List S)(L:LV)(h:Hp)(Z:LV->Hp->Prop):Prop:=∀s ρ,dk ρ L->Ė s h->∃Ð s' L' h',Ê G (Ý G fns d) b ρ s\(.next,Ð,s')/\dk Ð L'/\Ė s' h'/\Z L' h'
def Fin(Z:Fl->LV->Hp->Prop)(m:Res):Prop:=∃fl ρ s L h,m\(fl,ρ,s)/\dk ρ L/\Ė s h/\Z fl L h
def Done(d:Nat)(r:Rt)(Z:Fl->LV->Hp->Prop):Prop:=∀m,Rl d r m->Fin Z m
def pick{α:Type}:List Nat->List α->List α×List α
 |[],C=>([],C)
 |i::r,C=>match C[i]? with
  |some c=>(c::(pick r (C.eraseIdx i)).1,(pick r (C.eraseIdx i)).2)
  |none=>pick r C
theorem qY{C:List α}{i:Nat}{c:α}(h:C[i]?\c):(c::C.eraseIdx i).Perm C:=by obtain⟨hi,e⟩:=Xv.mp h;rw[Z7];refine List.perm_middle.symm.trans (List.Perm.of_eq ?_);rw[<-e,<-Yv hi,YN]
theorem ŧ{α:Type}:∀(ix:List Nat) (C:List α),((pick ix C).1++(pick ix C).2).Perm C
 |[],C=>.refl _
 |i::r,C=>by
  unfold pick;split
  ·rename_i c h;exact((ŧ r _).cons c)^(qY h)
  ·exact ŧ r C
def front(jx:List Nat)(T:List Ç):List Ç:=(pick jx T).1++(pick jx T).2
def ń:Ç->List Ç->List Ç
 |[],T=>T
 |r,T=>r::T
def lay:List Nat->List Nat->Hp->Hp
 |[],jx,h=>⟨h.E,front jx h.T,h.n⟩
 |ix,jx,h=>⟨(pick ix h.E).1,front jx (ń (pick ix h.E).2 h.T),h.n⟩
def K9:List Nat->List Nat->Hp->Hp
 |[],jx,h=>⟨h.E,front jx h.T,h.n⟩
 |ix,jx,h=>⟨(pick ix h.E).1,front jx h.T,h.n⟩
def ō(ux:List Nat)(h:Hp):Hp:=⟨h.E++(pick ux h.T).1.flatten,(pick ux h.T).2,h.n⟩
theorem yq(r:Ç)(T:List Ç):(ń r T).flatten=r++T.flatten:=by cases r<;>rfl
theorem Ŭ(jx:List Nat)(T:List Ç):T.flatten.Perm (front jx T).flatten:=(ŧ jx T).flatten.symm
theorem qZ{s:St}{ix jx:List Nat}{h:Hp}(W:Ė s h):Ė s (lay ix jx h):=by
 refine⟨W.1.perm ?_,by cases ix<;>exact W.2⟩;cases ix with
 |nil=>exact(Ŭ jx h.T).append_left _
 |cons i r=>
  refine((ŧ (i::r) h.E).symm.append_right _).trans ?_;rw[X4,<-yq];exact(Ŭ jx _).append_left _
theorem B8{s:St}{ix jx:List Nat}{h:Hp}(W:Ė s h):Ė s (K9 ix jx h):=by
 refine⟨?_,by cases ix<;>exact W.2⟩;cases ix with
 |nil=>exact W.1.perm ((Ŭ jx h.T).append_left _)
 |cons i r=>exact(W.1.perm (((ŧ (i::r) h.E).symm.append_right _)^((Ŭ jx h.T).append_left _))).sub (List.Sublist.append (Zk _ _) (.refl _))
theorem o3{s:St}{ux:List Nat}{h:Hp}(W:Ė s h):Ė s (ō ux h):=by refine⟨W.1.perm ?_,W.2⟩;show(h.E++h.T.flatten).Perm ((h.E++(pick ux h.T).1.flatten)++(pick ux h.T).2.flatten);rw[X4,<-Y3];exact(ŧ ux h.T).flatten.symm.append_left _
def Rt.NV:Rt->List QV
 |.need a _ r=>a::r.NV
 |_=>[]
def Rt.NW:Rt->List QV
 |.need _ b r=>b::r.NW
 |_=>[]
def Rt.core:Rt->Rt
 |.need _ _ r=>r.core
 |r=>r
theorem gc{d:Nat}{m:Res}:∀{r:Rt},Rl d r m->r.NV=r.NW->Rl d r.core m
 |.need a b r,H,e=>by simp only[Rt.NV,Rt.NW,Zs]at e;exact gc (r:=r) (H e.1) e.2
 |.bad _ _,H,_=>H
 |.call ..,H,_=>H
 |.ev ..,H,_=>H
 |.st ..,H,_=>H
 |.fin ..,H,_=>H
def X.hp(x:X):Hp:=⟨x.E,x.T,x.n⟩
inductive Vw where
 |call (j f:Nat) (vs:List V) (h:Hp)
 |ev (j:Nat) (e:E) (h:Hp)
 |st (j:Nat) (S:S) (h:Hp)
 |fin (fl:Fl) (h:Hp)
 |bad
def Rt.vw(ix jx:List Nat):Rt->Vw
 |.call j f vs x _=>.call j f vs (lay ix jx x.hp)
 |.ev j e x _=>.ev j e (lay ix jx x.hp)
 |.st j S x _=>.st j S (lay ix jx x.hp)
 |.fin fl x=>.fin fl (K9 ix jx x.hp)
 |_=>.bad
def Rt.loc:Rt->LV
 |.call _ _ _ x _=>x.L
 |.ev _ _ x _=>x.L
 |.st _ _ x _=>x.L
 |.fin _ x=>x.L
 |_=>[]
def Rt.hp:Rt->Hp
 |.call _ _ _ x _=>x.hp
 |.ev _ _ x _=>x.hp
 |.st _ _ x _=>x.hp
 |.fin _ x=>x.hp
 |_=>⟨[],[],0⟩
def Rt.rest(r:Rt)(ix jx:List Nat)(m:Nat):List Ç:=(lay ix jx r.core.hp).T.drop m
def vL(r:Rt)(ix jx:List Nat)(L:LV):List QV×Vw×List (Option V):=(r.NV,r.core.vw ix jx,L.map λ p=>lk r.core.loc p.1)
def vR(r:Rt)(w:Vw)(L:LV):List QV×Vw×List (Option V):=(r.NW,w,L.map λ p=>some p.2)
theorem tK{L0:LV}:∀{L:LV},L.map (λ p=>lk L0 p.1)=L.map (λ p=>some p.2)->∀y v,lk L y\v->lk L0 y\v
 |[],_,_,_,h=>ns h
 |(z,w)::L,e,y,v,h=>by
  simp only[Yd,Zs]at e;simp only[lk]at h;split at h
  ·rename_i q;rw[YM q,e.1];exact h
  ·exact tK e.2 y v h
def K_(r:Rt)(v:V)(h:Hp)(R:List mR)(Q:List Fact)(k:Nat):Rt:=match r with
 |.call _ _ _ x c=>c v ⟨h.E,h.T,R,h.n,x.L,Q,k⟩
 |.ev _ _ x c=>c v ⟨h.E,h.T,R,h.n,x.L,Q,k⟩
 |r=>r
def NX(r:Rt)(L:LV)(h:Hp)(R:List mR)(Q:List Fact)(k:Nat):Rt:=match r with
 |.st _ _ _ c=>c ⟨h.E,h.T,R,h.n,L,Q,k⟩
 |r=>r
def á(d:Nat)(r:Rt)(Z:Fl->LV->Hp->Prop)(v:V)(h:Hp):Prop:=∀s m,Ė s h->(∀x,qG s x->x.L=r.core.loc->Rl d (match r.core with|.call _ _ _ _ k=>k v x|.ev _ _ _ k=>k v x|r=>r) m)->Fin Z m
def Į(d:Nat)(r:Rt)(Z:Fl->LV->Hp->Prop)(L:LV)(h:Hp):Prop:=∀s m ρ,Ė s h->dk ρ L->(∀x,qG s x->dk ρ x.L->Rl d (match r.core with|.st _ _ _ k=>k x|r=>r) m)->Fin Z m
section
variable{d j f:Nat}{r:Rt}{Z:Fl->LV->Hp->Prop}
theorem á.go{v:V}{h:Hp}(ux:List Nat)(R:List mR)(hR:∀c∈R,c∈(ō ux h).T.flatten)(Q:List Fact)(k:Nat)(D:Done d (K_ r.core v (ō ux h) R Q k) Z):á d r Z v h:=λ s m W H=>by have W':=o3 (ux:=ux) W;have:=H ⟨(ō ux h).E,(ō ux h).T,R,h.n,r.core.loc,Q,k⟩ ⟨W'.1,W'.2,hR⟩ rfl;refine D m ?_;revert this;cases r.core<;>exact id
theorem Į.go{L:LV}{h:Hp}(ux:List Nat)(R:List mR)(hR:∀c∈R,c∈(ō ux h).T.flatten)(Q:List Fact)(k:Nat)(D:Done d (NX r.core L (ō ux h) R Q k) Z):Į d r Z L h:=λ s m ρ W RL H=>by have W':=o3 (ux:=ux) W;have:=H ⟨(ō ux h).E,(ō ux h).T,R,h.n,L,Q,k⟩ ⟨W'.1,W'.2,hR⟩ RL;refine D m ?_;revert this;cases r.core<;>exact id
theorem Done.call{vs:List V}{h:Hp}(S:Spec (d+j) f vs h (á d r Z))(ix jx:List Nat)(e:vL r ix jx []=vR r (.call j f vs h) []):Done d r Z:=λ m H=>by
 have H:=gc H (Xq (·.1) e);have e:r.core.vw ix jx=_:=Xq (·.2.1) e;generalize hq:r.core=q at H e;cases q with
 |call j' f' aw x k=>
  cases e;obtain⟨s,W,K⟩:=H;obtain⟨v,s',h',e1,W1,C⟩:=S s (qZ ⟨W.own,W.n⟩);refine C s' m W1 λ x' H' L'=>?_;rw[hq]at L' ⊢;exact K v s' x' e1 H' L'
 |_=>cases e
theorem Done.lV{E:Ç}{F:List Ç}{n:Nat}(S:Spec (d+j) f vs ⟨E,F,n⟩ (á d r Z))(ix jx:List Nat)(_:F=Rt.rest r ix jx 0)(e:vL r ix jx []=vR r (.call j f vs ⟨E,F,n⟩) []):Done d r Z:=Done.call S ix jx e
theorem Done.ā{E:Ç}{s0:Ç}{F:List Ç}{n:Nat}(S:Spec (d+j) f vs ⟨E,s0::F,n⟩ (á d r Z))(ix jx:List Nat)(_:F=Rt.rest r ix jx 1)(e:vL r ix jx []=vR r (.call j f vs ⟨E,s0::F,n⟩) []):Done d r Z:=Done.call S ix jx e
theorem Done.call2{E:Ç}{s0 s1:Ç}{F:List Ç}{n:Nat}(S:Spec (d+j) f vs ⟨E,s0::s1::F,n⟩ (á d r Z))(ix jx:List Nat)(_:F=Rt.rest r ix jx 2)(e:vL r ix jx []=vR r (.call j f vs ⟨E,s0::s1::F,n⟩) []):Done d r Z:=Done.call S ix jx e
theorem Done.lW{E:Ç}{s0 s1 s2:Ç}{F:List Ç}{n:Nat}(S:Spec (d+j) f vs ⟨E,s0::s1::s2::F,n⟩ (á d r Z))(ix jx:List Nat)(_:F=Rt.rest r ix jx 3)(e:vL r ix jx []=vR r (.call j f vs ⟨E,s0::s1::s2::F,n⟩) []):Done d r Z:=Done.call S ix jx e
theorem Done.yt{E:Ç}{s0 s1 s2 s3 s4:Ç}{F:List Ç}{n:Nat}(S:Spec (d+j) f vs ⟨E,s0::s1::s2::s3::s4::F,n⟩ (á d r Z))(ix jx:List Nat)(_:F=Rt.rest r ix jx 5)(e:vL r ix jx []=vR r (.call j f vs ⟨E,s0::s1::s2::s3::s4::F,n⟩) []):Done d r Z:=Done.call S ix jx e
theorem Done.o4{E:Ç}{s0 s1 s2 s3 s4 s5 s6 s7:Ç}{F:List Ç}{n:Nat}(S:Spec (d+j) f vs ⟨E,s0::s1::s2::s3::s4::s5::s6::s7::F,n⟩ (á d r Z))(ix jx:List Nat)(_:F=Rt.rest r ix jx 8)(e:vL r ix jx []=vR r (.call j f vs ⟨E,s0::s1::s2::s3::s4::s5::s6::s7::F,n⟩) []):Done d r Z:=Done.call S ix jx e
theorem Done.ev{e0:E}{L:LV}{h:Hp}(S:Ó (d+j) e0 L h (á d r Z))(ix jx:List Nat)(e:vL r ix jx L=vR r (.ev j e0 h) L):Done d r Z:=λ m H=>by
 have H:=gc H (Xq (·.1) e);have hL:L.map (λ p=>lk r.core.loc p.1)=_:=Xq (·.2.2) e;have e:r.core.vw ix jx=_:=Xq (·.2.1) e;generalize hq:r.core=q at H e hL;cases q with
 |ev j' e' x k=>
  cases e;obtain⟨s,ρ,W,RL,K⟩:=H;obtain⟨v,s',h',e1,W1,C⟩:=S s ρ (λ y v q=>RL y v (tK hL y v q)) (qZ ⟨W.own,W.n⟩);refine C s' m W1 λ x' H' L'=>?_;rw[hq]at L' ⊢;exact K v s' x' e1 H' L'
 |_=>cases e
theorem Done.st{S0:S}{L:LV}{h:Hp}(S:Ď (d+j) S0 L h (Į d r Z))(ix jx:List Nat)(e:vL r ix jx L=vR r (.st j S0 h) L):Done d r Z:=λ m H=>by
 have H:=gc H (Xq (·.1) e);have hL:L.map (λ p=>lk r.core.loc p.1)=_:=Xq (·.2.2) e;have e:r.core.vw ix jx=_:=Xq (·.2.1) e;generalize hq:r.core=q at H e hL;cases q with
 |st j' e' x k=>
  cases e;obtain⟨s,ρ,W,RL,K⟩:=H;obtain⟨Ð,s',L',h',e1,R1,W1,C⟩:=S s ρ (λ y v q=>RL y v (tK hL y v q)) (qZ ⟨W.own,W.n⟩);refine C s' m Ð W1 R1 λ x' H' L'=>?_;rw[hq];exact K Ð s' x' e1 H' L'
 |_=>cases e
theorem Done.fin{fl:Fl}{L:LV}{h:Hp}(z:Z fl L h)(ix jx:List Nat)(e:vL r ix jx L=vR r (.fin fl h) L):Done d r Z:=λ m H=>by
 have H:=gc H (Xq (·.1) e);have hL:L.map (λ p=>lk r.core.loc p.1)=_:=Xq (·.2.2) e;have e:r.core.vw ix jx=_:=Xq (·.2.1) e;generalize hq:r.core=q at H e hL;cases q with
 |fin JY x=>
  cases e;obtain⟨s,ρ,W,RL,K⟩:=H;exact⟨_,ρ,s,L,_,K,λ y v q=>RL y v (tK hL y v q),B8 ⟨W.own,W.n⟩,z⟩
 |_=>cases e
theorem Done.JZ{e0:Mine.E}{L:LV}{E:Ç}{F:List Ç}{n:Nat}(S:Ó (d+j) e0 L ⟨E,F,n⟩ (á d r Z))(ix jx:List Nat)(_:F=Rt.rest r ix jx 0)(e:vL r ix jx L=vR r (.ev j e0 ⟨E,F,n⟩) L):Done d r Z:=Done.ev S ix jx e
theorem Done.NY{e0:Mine.E}{L:LV}{E:Ç}{s0:Ç}{F:List Ç}{n:Nat}(S:Ó (d+j) e0 L ⟨E,s0::F,n⟩ (á d r Z))(ix jx:List Nat)(_:F=Rt.rest r ix jx 1)(e:vL r ix jx L=vR r (.ev j e0 ⟨E,s0::F,n⟩) L):Done d r Z:=Done.ev S ix jx e
theorem Done.Xg{e0:Mine.E}{L:LV}{E:Ç}{s0 s1:Ç}{F:List Ç}{n:Nat}(S:Ó (d+j) e0 L ⟨E,s0::s1::F,n⟩ (á d r Z))(ix jx:List Nat)(_:F=Rt.rest r ix jx 2)(e:vL r ix jx L=vR r (.ev j e0 ⟨E,s0::s1::F,n⟩) L):Done d r Z:=Done.ev S ix jx e
theorem Done.E9{S0:Mine.S}{L:LV}{E:Ç}{F:List Ç}{n:Nat}(S:Ď (d+j) S0 L ⟨E,F,n⟩ (Į d r Z))(ix jx:List Nat)(_:F=Rt.rest r ix jx 0)(e:vL r ix jx L=vR r (.st j S0 ⟨E,F,n⟩) L):Done d r Z:=Done.st S ix jx e
theorem Done.NZ{S0:Mine.S}{L:LV}{E:Ç}{s0:Ç}{F:List Ç}{n:Nat}(S:Ď (d+j) S0 L ⟨E,s0::F,n⟩ (Į d r Z))(ix jx:List Nat)(_:F=Rt.rest r ix jx 1)(e:vL r ix jx L=vR r (.st j S0 ⟨E,s0::F,n⟩) L):Done d r Z:=Done.st S ix jx e
theorem Done.yu{S0:Mine.S}{L:LV}{E:Ç}{s0 s1:Ç}{F:List Ç}{n:Nat}(S:Ď (d+j) S0 L ⟨E,s0::s1::F,n⟩ (Į d r Z))(ix jx:List Nat)(_:F=Rt.rest r ix jx 2)(e:vL r ix jx L=vR r (.st j S0 ⟨E,s0::s1::F,n⟩) L):Done d r Z:=Done.st S ix jx e
theorem Done.J0{S0:Mine.S}{L:LV}{E:Ç}{s0 s1 s2 s3 s4 s5 s6 s7:Ç}{F:List Ç}{n:Nat}(S:Ď (d+j) S0 L ⟨E,s0::s1::s2::s3::s4::s5::s6::s7::F,n⟩ (Į d r Z))(ix jx:List Nat)(_:F=Rt.rest r ix jx 8)(e:vL r ix jx L=vR r (.st j S0 ⟨E,s0::s1::s2::s3::s4::s5::s6::s7::F,n⟩) L):Done d r Z:=Done.st S ix jx e
end
def kN:KX:=λ x=>.fin .next x
def kR:KV:=λ v x=>.fin (.ret v) x
def ZF(Z:V->Hp->Prop):Fl->LV->Hp->Prop
 |.next,_,h=>Z .none h
 |.ret v,_,h=>Z v h
def ZB(Z:LV->Hp->Prop):Fl->LV->Hp->Prop
 |.next,L,h=>Z L h
 |.ret _,_,_=>False
def ZE(Z:V->Hp->Prop):Fl->LV->Hp->Prop
 |.next,_,_=>False
 |.ret v,_,h=>Z v h
section
variable{d:Nat}{r:Rt}{L:LV}{h:Hp}
theorem Done.fr{Z:V->Hp->Prop}{v:V}(z:Z v h)(ix jx:List Nat)(e:vL r ix jx []=vR r (.fin (.ret v) h) []):Done d r (ZF Z):=Done.fin (Z:=ZF Z) (L:=[]) (fl:=.ret v) z ix jx e
theorem Done.fn{Z:V->Hp->Prop}(z:Z .none h)(ix jx:List Nat)(e:vL r ix jx []=vR r (.fin .next h) []):Done d r (ZF Z):=Done.fin (Z:=ZF Z) (L:=[]) (fl:=.next) z ix jx e
theorem Done.fb{Z:LV->Hp->Prop}(z:Z L h)(ix jx:List Nat)(e:vL r ix jx L=vR r (.fin .next h) L):Done d r (ZB Z):=Done.fin (Z:=ZB Z) (fl:=.next) z ix jx e
theorem Done.fe{Z:V->Hp->Prop}{v:V}(z:Z v h)(ix jx:List Nat)(e:vL r ix jx []=vR r (.fin (.ret v) h) []):Done d r (ZE Z):=Done.fin (Z:=ZE Z) (L:=[]) (fl:=.ret v) z ix jx e
end
section
variable{d:Nat}{h:Hp}
def i5(h:Hp)(R:List mR)(L:LV)(Q:List Fact)(k:Nat):X:=⟨h.E,h.T,R,h.n,L,Q,k⟩
theorem Spec.go(j:Nat){f:Nat}{vs:List V}{Z:V->Hp->Prop}{fn:Fn}{L:LV}(hf:fns f\fn)(hb:bindL fn.params vs\L)(R:List mR)(hR:∀c∈R,c∈h.T.flatten)(Q:List Fact)(k:Nat)
  (D:Done d (lq (xD j) j fn.body (i5 h R L Q k) kN kR) (ZF Z)):Spec (d+(j+1)) f vs h Z:=λ s W=>by
 obtain⟨ρ,La,RL⟩:=oZ hb;obtain⟨fl,Ð,s',L',h',e,-,W',z⟩:=D (Ê G (Ý G fns (d+j)) fn.body ρ s) (cJ yp _ _ _ _ ρ s ⟨⟨W.1,W.2,hR⟩,RL⟩ ⟨λ ċ s1 x1 e1 H1=>⟨s1,ċ,H1.1,H1.2,e1⟩,λ v ċ s1 x1 e1 H1=>⟨s1,ċ,H1.1,H1.2,e1⟩⟩);cases fl with
 |next=>exact⟨_,s',h',lT hf La e,W',z⟩
 |ret v=>exact⟨v,s',h',cB hf La e,W',z⟩
theorem Ã.go(j:Nat){b:List S}{L:LV}{Z:LV->Hp->Prop}(R:List mR)(hR:∀c∈R,c∈h.T.flatten)(Q:List Fact)(k:Nat)
  (D:Done d (lq (xD j) j b (i5 h R L Q k) kN kR) (ZB Z)):Ã (d+j) b L h Z:=λ s ρ RL W=>by
 obtain⟨fl,Ð,s',L',h',e,R',W',z⟩:=D (Ê G (Ý G fns (d+j)) b ρ s) (cJ yp _ _ _ _ ρ s ⟨⟨W.1,W.2,hR⟩,RL⟩ ⟨λ ċ s1 x1 e1 H1=>⟨s1,ċ,H1.1,H1.2,e1⟩,λ v ċ s1 x1 e1 H1=>⟨s1,ċ,H1.1,H1.2,e1⟩⟩);cases fl with
 |next=>exact⟨Ð,s',L',h',e,R',W',z⟩
 |ret v=>exact z.elim
theorem Ó.go(j:Nat){e:E}{L:LV}{Z:V->Hp->Prop}(R:List mR)(hR:∀c∈R,c∈h.T.flatten)(Q:List Fact)(k:Nat)
  (D:Done d (xE (xD j) j e (i5 h R L Q k) kR) (ZE Z)):Ó (d+j) e L h Z:=λ s ρ RL W=>by
 obtain⟨fl,Ð,s',L',h',e1,R',W',z⟩:=D (ú (Ä G (Ý G fns (d+j)) ρ e s) λ v s'=>some (.ret v,ρ,s')) (ø yp e _ _ ρ s ⟨⟨W.1,W.2,hR⟩,RL⟩ λ v s1 x1 e1 H1=>⟨s1,ρ,H1.1,H1.2,Ï e1 rfl⟩);cases U:Ä G (Ý G fns (d+j)) ρ e s with
 |none=>rw[U]at e1;exact ns e1
 |some p=>
  rw[U]at e1;cases e1;exact⟨p.1,p.2,h',rfl,W',z⟩
end
theorem Ó.pr{d:Nat}{h:Hp}{e:E}{L:LV}{Z:V->Hp->Prop}{v:V}(z:Z v h)(j:Nat)(R:List mR)(hR:∀c∈R,c∈h.T.flatten)(Q:List Fact)(k:Nat)(q:vL (xE (xD j) j e (i5 h R L Q k) kR) [] [] []=vR (xE (xD j) j e (i5 h R L Q k) kR) (.fin (.ret v) h) []):Ó (d+j) e L h Z:=Ó.go j R hR Q k (Done.fe z [] [] q)
theorem GW{T:Ç}:∀c∈([]:Ç),c∈T:=λ _ h=>nm h
theorem in1{T:Ç}{a:mR}(h:a∈T):∀c∈[a],c∈T:=λ _ q=>XH.mp q▸h
theorem inc{T R:Ç}{a:mR}(h:a∈T)(k:∀c∈R,c∈T):∀c∈a::R,c∈T:=λ c q=>(XE.mp q).elim (λ e=>e▸h) (k c)
theorem á.g0{d:Nat}{r:Rt}{Z:Fl->LV->Hp->Prop}{v:V}{h:Hp}(ux:List Nat)(Q:List Fact)(k:Nat)(D:Done d (K_ r.core v (ō ux h) [] Q k) Z):á d r Z v h:=á.go ux [] GW Q k D
theorem Į.g0{d:Nat}{r:Rt}{Z:Fl->LV->Hp->Prop}{L:LV}{h:Hp}(ux:List Nat)(Q:List Fact)(k:Nat)(D:Done d (NX r.core L (ō ux h) [] Q k) Z):Į d r Z L h:=Į.go ux [] GW Q k D
theorem Spec.g0{d:Nat}{h:Hp}(j:Nat){f:Nat}{vs:List V}{Z:V->Hp->Prop}{fn:Fn}{L:LV}(hf:fns f\fn)(hb:bindL fn.params vs\L)(Q:List Fact)(k:Nat)
 (D:Done d (lq (xD j) j fn.body (i5 h [] L Q k) kN kR) (ZF Z)):Spec (d+(j+1)) f vs h Z:=Spec.go j hf hb [] GW Q k D
theorem Ã.g0{d:Nat}{h:Hp}(j:Nat){b:List S}{L:LV}{Z:LV->Hp->Prop}(Q:List Fact)(k:Nat)(D:Done d (lq (xD j) j b (i5 h [] L Q k) kN kR) (ZB Z)):Ã (d+j) b L h Z:=Ã.go j [] GW Q k D
theorem Ó.g0{d:Nat}{h:Hp}(j:Nat){e:E}{L:LV}{Z:V->Hp->Prop}(Q:List Fact)(k:Nat)(D:Done d (xE (xD j) j e (i5 h [] L Q k) kR) (ZE Z)):Ó (d+j) e L h Z:=Ó.go j [] GW Q k D
theorem Ó.p0{d:Nat}{h:Hp}{e:E}{L:LV}{Z:V->Hp->Prop}{v:V}(z:Z v h)(j:Nat)(Q:List Fact)(k:Nat)(q:vL (xE (xD j) j e (i5 h [] L Q k) kR) [] [] []=vR (xE (xD j) j e (i5 h [] L Q k) kR) (.fin (.ret v) h) []):Ó (d+j) e L h Z:=Ó.pr z j [] GW Q k q
def sU(s:S)(i:Nat):S:=match s with
 |.while _ b=>b.getD i .bad
 |.Č _ _ _ b=>b.getD i .bad
 |.g_ _ _ _ b=>b.getD i .bad
 |.ite _ t f=>(t++f).getD i .bad
 |_=>.bad
def sB(f:Nat)(p:List Nat):S:=match fns f,p with
 |some fn,i::p=>p.foldl sU (fn.body.getD i .bad)
 |_,_=>.bad
abbrev Õ{p:Prop}[i:Decidable p](h:p):Fact:=⟨(.b (decide p),.b true),Xq QV.b (XI h)⟩
abbrev į{p:Prop}[i:Decidable p](h:¬p):Fact:=⟨(.b (decide p),.b false),Xq QV.b (XY h)⟩
abbrev eQ{a b:Bool}(h:a=b):Fact:=⟨(.b a,.b b),Xq QV.b h⟩
abbrev ë{a b:Option V}(h:a=b):Fact:=⟨(.v a,.v b),Xq QV.v h⟩
abbrev gf{a b:Option Bool}(h:a=b):Fact:=⟨(.ob a,.ob b),Xq QV.ob h⟩
abbrev fO{a b:O}(h:a=b):Fact:=⟨(.o a,.o b),Xq QV.o h⟩
theorem tL{f:α->V}(l:List α)(x:α):O.list (l.map f++[f x])=.list ((l++[x]).map f):=Xq O.list (XF (f:=f) (l₁:=l) (l₂:=[x])).symm
abbrev fs{α:Type}(f:α->V)(l:List α)(x:α):Fact:=fO (tL (f:=f) l x)
abbrev Bt{a b:Option (List (V×V))}(h:a=b):Fact:=⟨(.es a,.es b),Xq QV.es h⟩
end Mine.Z
namespace Mine.Z
variable{vs:List V}{β:Type}
structure Ô (h h':Hp):Prop where
 p:(h.E++h.T.flatten).Perm (h'.E++h'.T.flatten)
 n:h.n=h'.n
theorem Ô.own{h h':Hp}(P:Ô h h'){s:St}(W:Ė s h):Ė s h':=⟨W.1.perm P.p,W.2.trans P.n⟩
theorem Ã.perm{d:Nat}{b:List S}{L:LV}{h h':Hp}{Z:LV->Hp->Prop}(P:Ô h h')(B:Ã d b L h' Z):Ã d b L h Z:=λ s ρ R W=>B s ρ R (P.own W)
theorem Ď.perm{d:Nat}{b:S}{L:LV}{h h':Hp}{Z:LV->Hp->Prop}(P:Ô h h')(B:Ď d b L h' Z):Ď d b L h Z:=λ s ρ R W=>B s ρ R (P.own W)
theorem Spec.perm{d f:Nat}{h h':Hp}{Z:V->Hp->Prop}(P:Ô h h')(B:Spec d f vs h' Z):Spec d f vs h Z:=λ s W=>B s (P.own W)
theorem á.perm{d:Nat}{r:Rt}{Z:Fl->LV->Hp->Prop}{v:V}{h h':Hp}(P:Ô h h')(B:á d r Z v h'):á d r Z v h:=λ s m W=>B s m (P.own W)
theorem Į.perm{d:Nat}{r:Rt}{Z:Fl->LV->Hp->Prop}{L:LV}{h h':Hp}(P:Ô h h')(B:Į d r Z L h'):Į d r Z L h:=λ s m ρ W=>B s m ρ (P.own W)
theorem Done.Ĳ{d:Nat}{r:Rt}{L:LV}{h h':Hp}{fl:Fl}{Z:Fl->LV->Hp->Prop}(P:Ô h h')(z:Z fl L h')(ix jx:List Nat)(e:vL r ix jx L=vR r (.fin fl h) L):Done d r Z:=λ m H=>by obtain⟨JY,ρ,s,L',U,e1,R,W,rfl,rfl,rfl⟩:=Done.fin (Z:=λ JY L' U=>JY=fl/\L'=L/\U=h) ⟨rfl,rfl,rfl⟩ ix jx e m H;exact⟨_,ρ,s,_,_,e1,R,P.own W,z⟩
def cut{β:Type}(f:β->Ç)(l:List β)(i:Nat):Ç:=(l.take i).flatMap f++(l.drop (i+1)).flatMap f
theorem Bu{f:β->Ç}{l:List β}{i:Nat}{x:β}{E:Ç}{F:List Ç}{n:Nat}(h:l[i]?\x):Ô ⟨E,l.flatMap f::F,n⟩ ⟨f x++E,cut f l i::F,n⟩:=by
 refine⟨?_,rfl⟩;obtain⟨hi,e⟩:=Xv.mp h
 have el:l.flatMap f=(l.take i).flatMap f++(f x++(l.drop (i+1)).flatMap f):=by
  rw[<-Yf,<-XZ]
  congr 1
  rw[<-e,<-Yv hi,YN]
 show(E++(l.flatMap f++F.flatten)).Perm ((f x++E)++(cut f l i++F.flatten));rw[el,cut];simp only[X4];exact((YY _ _ _).append_left _)^(YY _ _ _)
theorem gh{f:β->Ç}{l:List β}{i:Nat}{x y:β}{E:Ç}{F:List Ç}{n:Nat}(h:l[i]?\x):Ô ⟨f y++E,cut f l i::F,n⟩ ⟨E,(l.set i y).flatMap f::F,n⟩:=by
 have hi:=(Xv.mp h).1;have:=Bu (f:=f) (l:=l.set i y) (i:=i) (x:=y) (E:=E) (F:=F) (n:=n) (Zq hi)
 have e:cut f (l.set i y) i=cut f l i:=by unfold cut;rw[List.take_set_of_le (XS i),List.drop_set_of_lt (YA i)]
 rw[e]at this;exact⟨this.p.symm,rfl⟩
def IZ{α:Type}(A:α->Prop)(Lf:α->LV)(hf:α->Hp)(L:LV)(h:Hp):Prop:=∃a,A a/\Lf a=L/\hf a=h
def É(d:Nat)(e:E)(L:LV)(h:Hp)(v:V):Prop:=Ó d e L h λ w h'=>w=v/\h'=h
theorem É.go{d:Nat}{e:E}{L:LV}{h:Hp}{v:V}(j:Nat)(R:List mR)(hR:∀c∈R,c∈h.T.flatten)(Q:List Fact)(k:Nat)(q:vL (xE (xD j) j e (i5 h R L Q k) kR) [] [] []=vR (xE (xD j) j e (i5 h R L Q k) kR) (.fin (.ret v) h) []):É (d+j) e L h v:=Ó.pr ⟨rfl,rfl⟩ j R hR Q k q
theorem É.g0{d:Nat}{e:E}{L:LV}{h:Hp}{v:V}(j:Nat)(Q:List Fact)(k:Nat)(q:vL (xE (xD j) j e (i5 h [] L Q k) kR) [] [] []=vR (xE (xD j) j e (i5 h [] L Q k) kR) (.fin (.ret v) h) []):É (d+j) e L h v:=É.go j [] GW Q k q
theorem É.loc{d y:Nat}{L:LV}{h:Hp}{v:V}(e:lk L y\v):É d (.loc y) L h v:=λ s ρ R W=>⟨v,s,h,Xq (Option.map λ v=>(v,s)) (R y v e),W,rfl,rfl⟩
theorem Š{s:St}{h:Hp}(W:Ė s h){r:Nat}{o:O}(m:(r,o)∈h.E++h.T.flatten):s.get r\o:=W.1.at_ _ m
section
variable{d:Nat}{α:Type}{Lf:α->LV}{hf:α->Hp}{a0:α}{Z:LV->Hp->Prop}
theorem Done.dm{A:α->Prop}{d:Nat}{r:Rt}(a:α)(z:A a)(ix jx:List Nat)(e:vL r ix jx (Lf a)=vR r (.fin .next (hf a)) (Lf a)):Done d r (ZB (IZ A Lf hf)):=Done.fb ⟨a,z,rfl,rfl⟩ ix jx e
def Lb(d y:Nat)(b:List S)(v:V)(L:LV)(h:Hp)(Z:LV->Hp->Prop):Prop:=∀s ρ,dk ρ L->Ė s h->∃c Ð s' L' h',bq s false v\c/\forLoop (λ Ð s'=>Ê G (Ý G fns d) b Ð s') (bind1 y) c c.len 0 ρ s\(.next,Ð,s')/\dk Ð L'/\Ė s' h'/\Z L' h'
def N1(d y z:Nat)(b:List S)(v:V)(L:LV)(h:Hp)(Z:LV->Hp->Prop):Prop:=∀s ρ,dk ρ L->Ė s h->∃c Ð s' L' h',bq s false v\c/\forLoop (λ Ð s'=>Ê G (Ý G fns d) b Ð s') (fu y z) c c.len 0 ρ s\(.next,Ð,s')/\dk Ð L'/\Ė s' h'/\Z L' h'
theorem Þ{y:Nat}{e:E}{b:List S}{L:LV}{h:Hp}(src:Ó d e L h λ v h'=>Lb d y b v L h' Z):Ď d (.Č y e none b) L h Z:=λ s ρ RL W=>by obtain⟨v,s1,U,e1,W1,l⟩:=src s ρ RL W;obtain⟨c,Ð,s',L',h',e2,e3,R',W',z⟩:=l s1 ρ RL W1;exact⟨Ð,s',L',h',(eO (ù:=none) e1 e2)^e3,R',W',z⟩
theorem tM{y z:Nat}{e:E}{b:List S}{L:LV}{h:Hp}(src:Ó d e L h λ v h'=>N1 d y z b v L h' Z):Ď d (.g_ y z e b) L h Z:=λ s ρ RL W=>by obtain⟨v,s1,U,e1,W1,l⟩:=src s ρ RL W;obtain⟨c,Ð,s',L',h',e2,e3,R',W',z⟩:=l s1 ρ RL W1;exact⟨Ð,s',L',h',(jQ e1 e2)^e3,R',W',z⟩
theorem Ó.loc{y:Nat}{L:LV}{h:Hp}{v:V}{Z:V->Hp->Prop}(e:lk L y\v)(z:Z v h):Ó d (.loc y) L h Z:=λ s ρ R W=>⟨v,s,h,Xq (Option.map λ v=>(v,s)) (R y v e),W,z⟩
theorem list1(A:Nat->α->Prop){y:Nat}{b:List S}{r:Nat}(l:List V)(hz:l.length<=lim)(mem:∀a,(r,.list l)∈(hf a).E++(hf a).T.flatten)(h0:A 0 a0)
  (step:∀i a v,A i a->l[i]?\v->Ã d b ((y,v)::Lf a) (hf a) (IZ (A (i+1)) Lf hf)) (fin:∀a,A l.length a->Z (Lf a) (hf a)):Lb d y b (.ref r) (Lf a0) (hf a0) Z:=λ s ρ RL W=>by
 obtain⟨Ð,s',e2,a,i2,R2,W2⟩:=oT (f:=λ Ð s'=>Ê G (Ý G fns d) b Ð s') (bnd:=bind1 y) (r:=r) (xs:=l) (λ i ρ s=>∃a,A i a/\dk ρ (Lf a)/\Ė s (hf a)) (λ i ρ s ⟨a,i1,_,W⟩=>Š W (mem a))
  (λ i ρ s x ⟨a,i1,R,W⟩ hx=>by obtain⟨Ð,s',L',h',e,R',W',a',i2,rfl,rfl⟩:=step i a x i1 hx s (ρ.set y x) (R.set y x) W;exact⟨_,Ð,s',rfl,e,a',i2,R',W'⟩) (ρ:=ρ) (s:=s) ⟨a0,h0,RL,W⟩
 exact⟨_,Ð,s',_,_,src_list (Š W (mem a0)) hz,e2,R2,W2,fin _ i2⟩
theorem Lc(A:Nat->α->Prop){y z:Nat}{b:List S}{r:Nat}(l:List V)(hz:l.length<=lim)(mem:∀a,(r,.list l)∈(hf a).E++(hf a).T.flatten)(h0:A 0 a0)
  (step:∀i a v,A i a->l[i]?\v->∃v1 v2,v=.tup [v1,v2]/\Ã d b ((z,v2)::(y,v1)::Lf a) (hf a) (IZ (A (i+1)) Lf hf)) (fin:∀a,A l.length a->Z (Lf a) (hf a)):N1 d y z b (.ref r) (Lf a0) (hf a0) Z:=λ s ρ RL W=>by
 obtain⟨Ð,s',e2,a,i2,R2,W2⟩:=oT (f:=λ Ð s'=>Ê G (Ý G fns d) b Ð s') (bnd:=fu y z) (r:=r) (xs:=l) (λ i ρ s=>∃a,A i a/\dk ρ (Lf a)/\Ė s (hf a)) (λ i ρ s ⟨a,i1,_,W⟩=>Š W (mem a))
  (λ i ρ s x ⟨a,i1,R,W⟩ hx=>by obtain⟨v1,v2,rfl,st⟩:=step i a x i1 hx;obtain⟨Ð,s',L',h',e,R',W',a',i2,rfl,rfl⟩:=st s _ ((R.set y v1).set z v2) W;exact⟨_,Ð,s',rfl,e,a',i2,R',W'⟩) (ρ:=ρ) (s:=s) ⟨a0,h0,RL,W⟩
 exact⟨_,Ð,s',_,_,src_list (Š W (mem a0)) hz,e2,R2,W2,fin _ i2⟩
theorem jT{α β:Type}{f:α->β}{l:List α}{i:Nat}{v:β}(h:(l.map f)[i]?\v){P:β->Prop}(k:∀x,l[i]?\x->P (f x)):P v:=by
 rw[X3]at h;cases e:l[i]? with
 |none=>rw[e]at h;exact ns h
 |some x=>rw[e]at h;cases h;exact k x e
theorem take_all{α:Type}{P:α->Prop}{l:List α}{i:Nat}{x:α}(h:l[i]?\x)(a:∀c∈l.take i,P c)(p:P x):∀c∈l.take (i+1),P c:=by intro c hc;rw[ZZ,h]at hc;exact(XC.mp hc).elim (a c) λ q=>XH.mp q▸p
theorem aO{α:Type}{P:α->Prop}{l:List α}(a:∀c∈l.take l.length,P c):∀c∈l,P c:=by rw[X6]at a;exact a
theorem î{β:Type}(A:Nat->α->Prop){y:Nat}{b:List S}{r:Nat}(l:List β)(f:β->V)(hz:l.length<=lim)(mem:∀a,(r,.list (l.map f))∈(hf a).E++(hf a).T.flatten)(h0:A 0 a0)
  (step:∀i a x,A i a->l[i]?\x->Ã d b ((y,f x)::Lf a) (hf a) (IZ (A (i+1)) Lf hf)) (fin:∀a,A l.length a->Z (Lf a) (hf a)):Lb d y b (.ref r) (Lf a0) (hf a0) Z:=
 list1 A (l.map f) (Xm (as:=l) f▸hz) mem h0 (λ i a v hA hv=>jT (P:=λ v=>Ã d b ((y,v)::Lf a) (hf a) (IZ (A (i+1)) Lf hf)) hv λ x hx=>step i a x hA hx) λ a hA=>fin a (Xm (as:=l) f▸hA)
theorem yv{β:Type}(A:Nat->α->Prop){y z:Nat}{b:List S}{r:Nat}(l:List β)(f g:β->V)(hz:l.length<=lim)(mem:∀a,(r,.list (l.map λ x=>.tup [f x,g x]))∈(hf a).E++(hf a).T.flatten)(h0:A 0 a0)
  (step:∀i a x,A i a->l[i]?\x->Ã d b ((z,g x)::(y,f x)::Lf a) (hf a) (IZ (A (i+1)) Lf hf)) (fin:∀a,A l.length a->Z (Lf a) (hf a)):N1 d y z b (.ref r) (Lf a0) (hf a0) Z:=
 Lc A (l.map λ x=>.tup [f x,g x]) (Xm (as:=l) _▸hz) mem h0 (λ i a v hA hv=>jT (P:=λ v=>∃v1 v2,v=.tup [v1,v2]/\Ã d b ((z,v2)::(y,v1)::Lf a) (hf a) (IZ (A (i+1)) Lf hf)) hv λ x hx=>⟨_,_,rfl,step i a x hA hx⟩) λ a hA=>fin a (Xm (as:=l) (λ x=>V.tup [f x,g x])▸hA)
theorem jU(A:Nat->α->Prop){y k:Nat}{e:E}{b:List S}{n:Nat}(src:É d e (Lf a0) (hf a0) (.int n))(hz:n<=lim)(h0:A 0 a0)
  (step:∀i a,A i a->i<n->Ã d b ((y,.int i)::Lf a) (hf a) (IZ (A (i+1)) Lf hf)) (fin:∀a,A n a->Z (Lf a) (hf a)):Ď d (.Č y e (some k) b) (Lf a0) (hf a0) Z:=λ s ρ RL W=>by
 obtain⟨v,s1,U,e1,W1,rfl,rfl⟩:=src s ρ RL W
 obtain⟨Ð,s',e2,a,i2,R2,W2⟩:=BV (f:=λ Ð s'=>Ê G (Ý G fns d) b Ð s') (bnd:=bind1 y) (n:=n) (λ i ρ s=>∃a,A i a/\dk ρ (Lf a)/\Ė s (hf a))
  (λ i ρ s ⟨a,i1,R,W⟩ hx=>by obtain⟨Ð,s',L',h',e,R',W',a',i2,rfl,rfl⟩:=step i a i1 hx s (ρ.set y (.int i)) (R.set y _) W;exact⟨_,Ð,s',rfl,e,a',i2,R',W'⟩) (ρ:=ρ) (s:=s1) ⟨a0,h0,RL,W1⟩
 exact⟨Ð,s',_,_,(oV e1 hz)^e2,R2,W2,fin _ i2⟩
theorem bu(A:α->Prop)(μ:α->Nat){c:E}{b:List S}(h0:A a0)(hk:μ a0<i3)
  (step:∀a,A a->(É d c (Lf a) (hf a) (.bool false)/\Z (Lf a) (hf a))\/(É d c (Lf a) (hf a) (.bool true)/\Ã d b (Lf a) (hf a) (IZ (λ a'=>A a'/\μ a'<μ a) Lf hf))):Ď d (.while c b) (Lf a0) (hf a0) Z:=λ s ρ RL W=>by
 obtain⟨Ð,s',e,a,z,R',W'⟩:=qQ (fc:=λ Ð s'=>Ä G (Ý G fns d) Ð c s') (fb:=λ Ð s'=>Ê G (Ý G fns d) b Ð s') (λ n ρ s=>∃a,n=μ a/\A a/\dk ρ (Lf a)/\Ė s (hf a)) (λ ρ s=>∃a,Z (Lf a) (hf a)/\dk ρ (Lf a)/\Ė s (hf a))
  (λ n ρ s ⟨a,en,i,R,W⟩=>by
   rcases step a i with⟨C,z⟩|⟨C,B⟩
   ·obtain⟨v,s1,U,e1,W1,rfl,rfl⟩:=C s ρ R W;exact .inl ⟨s1,e1,a,z,R,W1⟩
   ·obtain⟨v,s1,U,e1,W1,rfl,rfl⟩:=C s ρ R W;obtain⟨dG,s2,L2,h2,e2,R2,W2,a',i',rfl,rfl⟩:=B s1 ρ R W1;exact .inr ⟨s1,dG,s2,_,e1,e2,en▸i'.2,a',rfl,i'.1,R2,W2⟩) i3 _ ρ s hk ⟨a0,rfl,h0,RL,W⟩
 exact⟨Ð,s',_,_,oU^e,R',W',z⟩
end
section
variable{d:Nat}{L:LV}{h:Hp}
def E_(d:Nat)(ifs:List E)(L:LV)(h:Hp)(p:Bool):Prop:=∀s ρ,dk ρ L->Ė s h->∃s',İ G (Ý G fns d) ρ ifs s\(p,s')/\Ė s' h
theorem E_.nil:E_ d [] L h true:=λ s ρ R W=>⟨s,rfl,W⟩
theorem E_.one{c:E}{p:Bool}(S:É d c L h (.bool p)):E_ d [c] L h p:=λ s ρ R W=>by obtain⟨v,s',h',e,W',rfl,rfl⟩:=S s ρ R W;exact⟨s',by simp only[İ,e];cases p<;>rfl,W'⟩
theorem B9{α β:Type}{l:List α}{p:α->Bool}{f:α->β}{i:Nat}{b:α}(hb:l[i]?\b)(hp:p b=false):((l.take (i+1)).filter p).map f=((l.take i).filter p).map f:=by rw[ZZ,hb,Zc];simp[hp]
theorem B_{α β:Type}{l:List α}{p:α->Bool}{f:α->β}{i:Nat}{b:α}(hb:l[i]?\b)(hp:p b=true):((l.take (i+1)).filter p).map f=((l.take i).filter p).map f++[f b]:=by rw[ZZ,hb,Zc];simp[hp]
theorem hU{β:Type}{h0:Hp}{a:E}{y:Nat}{src:E}{ifs:List E}{r:Nat}{Z:V->Hp->Prop}(l:List β)(el:β->V)(p:β->Bool)(f:β->V)(hs:Ó d src L h0 λ w h'=>w=.ref r/\h'=h)(hz:l.length<=lim)(mem:(r,.list (l.map el))∈h.E++h.T.flatten)
  (NZ:∀b∈l,E_ d ifs ((y,el b)::L) h (p b)) (yu:∀b∈l,p b=true->É d a ((y,el b)::L) h (f b))
  (fin:Z (.ref h.n) ⟨(h.n,.list ((l.filter p).map f))::h.E,h.T,h.n+1⟩):Ó d (.comp a y src none ifs) L h0 Z:=λ s ρ RL W=>by
 obtain⟨v,s1,U,e1,W1,rfl,rfl⟩:=hs s ρ RL W;have gr:=Š W1 mem
 obtain⟨zs,s',e2,e3,W2⟩:=vf (fe:=λ Ð s'=>Ä G (Ý G fns d) Ð a s') (fi:=λ Ð s'=>İ G (Ý G fns d) Ð ifs s') (ρ:=ρ) (x:=y) (r:=r) (xs:=l.map el) (λ i ys s=>ys=((l.take i).filter p).map f/\Ė s U) (λ i ys s q=>Š q.2 mem)
  (λ i ys s v ⟨e0,W⟩ hv=>by
   subst e0;rw[X3]at hv;cases hb:l[i]? with
   |none=>rw[hb]at hv;exact ns hv
   |some b=>
    rw[hb]at hv;cases hv;have hm:=Xt hb;obtain⟨s2,ei,W2⟩:=NZ b hm s _ (RL.set y (el b)) W;cases hp:p b with
    |false=>exact .inl ⟨s2,hp▸ei,(B9 hb hp).symm,W2⟩
    |true=>
     obtain⟨w,s',h',e,W',rfl,rfl⟩:=yu b hm hp s2 _ (RL.set y (el b)) W2;exact .inr ⟨s2,_,s',hp▸ei,e,(B_ hb hp).symm,W'⟩) (s:=s1) ⟨rfl,W1⟩
 rw[Xm,X6]at e3;subst e3;refine⟨.ref s'.n,s'.new (.list ((l.filter p).map f)),⟨(U.n,.list ((l.filter p).map f))::U.E,U.T,U.n+1⟩,?_,⟨?_,Xq Nat.succ W2.2⟩,by rw[W2.2];exact fin⟩
 ·exact jB^(Ï e1 (ò (src_list gr (by rw[Xm];exact hz)) (Ï e2 rfl)))
 ·have:=W2.1.new (o:=.list ((l.filter p).map f));rw[W2.2]at this;exact this
theorem filter_all{α:Type}(l:List α):l.filter (λ _=>true)=l:=List.filter_eq_self.mpr λ _ _=>rfl
theorem comp_map{β:Type}{a:E}{y:Nat}{src:E}{r:Nat}{Z:V->Hp->Prop}(l:List β)(el f:β->V)(hs:É d src L h (.ref r))(hz:l.length<=lim)(mem:(r,.list (l.map el))∈h.E++h.T.flatten)
  (st:∀b∈l,É d a ((y,el b)::L) h (f b)) (fin:Z (.ref h.n) ⟨(h.n,.list (l.map f))::h.E,h.T,h.n+1⟩):Ó d (.comp a y src none []) L h Z:=
 hU l el (λ _=>true) f hs hz mem (λ _ _=>E_.nil) (λ b hb _=>st b hb) ((filter_all l).symm▸fin)
theorem cK{y:Nat}{src c:E}{r:Nat}{Z:V->Hp->Prop}(l:List Int)(p:Int->Bool)(hs:É d src L h (.ref r))(hz:l.length<=lim)(mem:(r,.list (l.map .int))∈h.E++h.T.flatten)
  (st:∀b∈l,É d c ((y,.int b)::L) h (.bool (p b))) (fin:Z (.ref h.n) ⟨(h.n,.list ((l.filter p).map .int))::h.E,h.T,h.n+1⟩):Ó d (.comp (.loc y) y src none [c]) L h Z:=
 hU l .int p .int hs hz mem (λ b hb=>E_.one (st b hb)) (λ b hb _=>É.loc (by simp[lk])) fin
end
end Mine.Z
namespace Mine.Z
variable{α:Type}{Å:Int->Prop}{rl:List (Nat×List Int)}{j:Nat}{ms:List Int}
structure È where
 t:Nat
 sl:Nat
 ad:Int
 kd:Int
 gn:Int
 sr:Int
 a0:Int
 a1:Int
def lX(x:È):O:=.inst 3 [(68,.int x.ad),(91,.int x.kd),(92,.ref x.sl),(77,.int x.gn),(93,.int 4),(95,.int x.sr)]
def yw(x:È):O:=.list [val x.a0,val x.a1]
structure HP where
 jV:Nat
 rat:Nat
 wW:Nat
 Œ:Nat
 ŕ:Nat
 top:Int
 lim:Int
 à:Int
 yl:Int
 qH:Int
 eu:Int
 À:List È
 ä:List Int
 fin:List Int
 Ì:List Int
def Ca(p:HP):O:=.inst 4 [(98,.ref p.jV),(79,.ref p.rat),(59,.int p.top),(96,.int p.lim),(100,.ref p.wW),(97,.int 2),(101,.int p.à),(102,.int p.yl),(85,.ref p.Œ),(86,.ref p.ŕ),(103,.int p.qH),(104,.int p.eu)]
def eA(l:List È):List V:=l.map λ x=>.ref x.t
def gX(l:List È):List (V×V):=l.map λ x=>(.int x.ad,.ref x.t)
def bU(l:List Int):List (V×V):=l.map λ c=>(.int c,.int 1)
theorem jW(f:α->Int)(g:α->V)(a:Int)(l:List α):è (l.map λ x=>(.int (f x),g x)) (.int a)\((l.find? λ x=>decide (f x=a)).map g):=by
 induction l with
 |nil=>rfl
 |cons x l ih=>
  by_cases h:f x=a
  ·rw[Y_ (p:=λ x=>decide (f x=a)) (XI h)];exact KH (E2 h)
  ·rw[Za (p:=λ x=>decide (f x=a)) (by rw[XY h];decide)];exact(Gr (xH h))^ih
theorem cL(f:α->Int)(g:α->V)(a:Int)(v:V)(l:List α)(h:∀x∈l,f x≠a):putK (l.map λ x=>(.int (f x),g x)) (.int a) v\(l.map (λ x=>(V.int (f x),g x))++[(.int a,v)]):=by
 induction l with
 |nil=>rfl
 |cons x l ih=>exact(Gr (xH (h x (.head _))))^(map_eq (ih λ y hy=>h y (.tail _ hy)) rfl)
theorem bw(l:List È)(a:Int):è (gX l) (.int a)\((l.find? λ x=>decide (x.ad=a)).map λ x=>.ref x.t):=jW _ _ a l
theorem Cb(l:List Int)(a:Int):è (bU l) (.int a)\((l.find? λ x=>decide (x=a)).map λ _=>.int 1):=jW (λ x=>x) _ a l
theorem lu(l:List Int)(a:Int):(l.find? λ x=>decide (x=a)).isSome=decide (a∈l):=by
 induction l with
 |nil=>rfl
 |cons x l ih=>
  rw[Zt];by_cases h:x=a
  ·simp[h]
  ·simp only[h,Z0];rw[ih];have:¬a=x:=λ e=>h e.symm;simp[this]
def gi(À:List È)(g:Int)(q:List Int×List È)(a:Int):List Int×List È:=
 if a=0 then q else match À.find? (λ x=>decide (x.ad=a))with
  |none=>q
  |some x=>if x.gn>g\/a∈q.1 then q else (q.1++[a],q.2++[x])
theorem ai{l:List È}{a:Int}{x:È}(h:(l.find? λ x=>decide (x.ad=a))\x):x∈l/\x.ad=a:=⟨ZL h,by simpa using aa5 h⟩
inductive cN (À:List È) (g:Int) (Å:Int->Prop):Int->Prop
 |ź {a:Int} {x:È}:Å a->a≠0->x∈À->x.ad=a->x.gn<=g->cN À g Å a
 |step {a b:Int} {x y:È}:cN À g Å b->y∈À->y.ad=b->(a=y.a0\/a=y.a1)->a≠0->x∈À->x.ad=a->x.gn<=g->cN À g Å a
structure Ż (À:List È) (g:Int) (Å:Int->Prop) (ex:È->Int->Prop) (q:List Int×List È):Prop where
 sound:∀a∈q.1,cN À g Å a
 work:∀x∈q.2,x∈À/\x.ad∈q.1
 nd:q.1.Nodup
 closed:∀a∈q.1,∀x∈À,x.ad=a->x∉q.2->∀b,(b=x.a0\/b=x.a1)->b≠0->∀y∈À,y.ad=b->y.gn<=g->b∈q.1\/ex x b
def Bv(À:List È):List Int:=À.map (·.ad)
structure ď (À:List È):Prop where
 nd:(Bv À).Nodup
 small:À.length<300
 refs:∀x∈À,(x.a0=0\/∃y∈À,y.ad=x.a0)/\(x.a1=0\/∃y∈À,y.ad=x.a1)
 ù:∀x∈À,16<=x.ad/\x.ad<10000/\x.ad%4=0
theorem ď.inj{À:List È}(T:ď À){x y:È}(hx:x∈À)(hy:y∈À)(e:x.ad=y.ad):x=y:=by
 have:=T.nd;unfold Bv at this;clear T
 induction À with
 |nil=>exact nm hx
 |cons z l ih=>
  simp only[Yd,X0]at this;rcases XE.mp hx with eB|eB<;>rcases XE.mp hy with Ld|Ld
  ·rw[eB,Ld]
  ·exact absurd (Xx.mpr ⟨y,Ld,e.symm^(by rw[eB])⟩) this.1
  ·exact absurd (Xx.mpr ⟨x,eB,e^(by rw[Ld])⟩) this.1
  ·exact ih eB Ld this.2
theorem Ņ{À:List È}(T:ď À){x:È}(hx:x∈À):(À.find? λ y=>decide (y.ad=x.ad))\x:=by obtain⟨y,hy⟩:=X_.mp (aaJ (p:=λ y:È=>decide (y.ad=x.ad)) (xs:=À)|>.mpr ⟨x,hx,by simp⟩);obtain⟨U,h2⟩:=ai hy;rw[hy,T.inj U hx h2]
def left(À:List È)(m:List Int):Nat:=((Bv À).filter λ a=>decide (a∉m)).length
theorem yx{À:List È}(T:ď À){g:Int}{ex:È->Int->Prop}{q:List Int×List È}(Q:Ż À g Å ex q){a:Int}(hs:∀x∈À,x.ad=a->a≠0->x.gn<=g->cN À g Å a):
  Ż À g Å ex (gi À g q a)/\(∀x∈À,x.ad=a->a≠0->x.gn<=g->a∈(gi À g q a).1)/\(∀b∈q.1,b∈(gi À g q a).1)/\(∀x∈q.2,x∈(gi À g q a).2)
   /\left À (gi À g q a).1+(gi À g q a).2.length=left À q.1+q.2.length:=by
 unfold gi;by_cases h0:a=0
 ·rw[XR h0];exact⟨Q,λ x _ _ h=>absurd h0 h,λ b h=>h,λ x h=>h,rfl⟩
 ·rw[XW h0];cases hx:À.find? λ x=>decide (x.ad=a)with
  |none=>
   refine⟨Q,λ x eB e _ _=>?_,λ b h=>h,λ x h=>h,rfl⟩;rw[List.find?_eq_none]at hx;exact absurd e (by simpa using hx x eB)
  |some x=>
   obtain⟨U,h2⟩:=ai hx;dsimp only;by_cases h3:x.gn>g\/a∈q.1
   ·rw[XR h3];refine⟨Q,λ y hy e _ hg=>?_,λ b h=>h,λ x h=>h,rfl⟩;obtain rfl:=T.inj U hy (h2^e.symm);rcases h3 with h3|h3
    ·exact(Yc.mpr hg h3).elim
    ·exact h3
   ·rw[XW h3];have h4:¬x.gn>g:=λ q=>h3 (.inl q);have h5:a∉q.1:=λ q=>h3 (.inr q);refine⟨⟨?_,?_,?_,?_⟩,?_,?_,?_,?_⟩
    ·intro b hb;rcases XC.mp hb with hb|hb
     ·exact Q.sound b hb
     ·obtain rfl:b=a:=by simpa using hb
      exact hs x U h2 h0 (by exact Yc.mp h4)
    ·intro y hy;rcases XC.mp hy with hy|hy
     ·exact⟨(Q.work y hy).1,Xo _ (Q.work y hy).2⟩
     ·obtain rfl:y=x:=by simpa using hy
      exact⟨U,by simp[h2]⟩
    ·rw[Yn];refine⟨Q.nd,by simp,?_⟩;intro b hb c hc;obtain rfl:c=a:=by simpa using hc
     rintro rfl;exact h5 hb
    ·intro b hb y hy e TH b' Xh vh z hz ez hg;rcases XC.mp hb with hb|hb
     ·exact(Q.closed b hb y hy e (λ q=>TH (Xo _ q)) b' Xh vh z hz ez hg).imp (Xo _) id
     ·obtain rfl:b=a:=by simpa using hb
      obtain rfl:=T.inj U hy (h2^e.symm);exact absurd (by simp) TH
    ·intro y hy e _ _;simp
    ·intro b hb;exact Xo _ hb
    ·intro b hb;exact Xo _ hb
    ·show left À (q.1++[a])+(q.2++[x]).length=_
     have:left À q.1=left À (q.1++[a])+1:=by
      unfold left;have nd:=T.nd;have hm:a∈Bv À:=Xx.mpr ⟨x,U,h2⟩;generalize Bv À=l at nd hm
      induction l with
      |nil=>exact nm hm
      |cons b l ih=>
       obtain⟨n1,n2⟩:=X0.mp nd;by_cases Rc:b=a
       ·subst Rc
        have e1:(l.filter λ c=>decide (c∉q.1))=l.filter λ c=>decide (c∉q.1++[b]):=by
         apply YS;intro c hc;have:c≠b:=by rintro rfl;exact n1 hc
         simp[this]
        rw[List.filter_cons_of_pos (by exact XR h5),List.filter_cons_of_neg (by simp),e1,Yi]
       ·have Lg:a∈l:=by
         rcases XE.mp hm with e|e
         ·exact absurd e.symm Rc
         ·exact e
        have:=ih n2 Lg;by_cases TK:b∈q.1
        ·simp only[YB,TK,XC,true_or,not_true_eq_false,Z0,ZU,aax];simpa using this
        ·simp only[YB,TK,XC,XH,Rc,or_self,not_false_eq_true,decide_true,abk,Yi];have Fb:=this;simp only[XC,XH]at Fb;exact Fb▸rfl
     rw[Xr];simp;exact Yq (ln [_,_,_] [] (.c 1 (.a (.v 0) (.k 1)) (.v 1) .e) 0 (.a (.v 0) (.a (.v 2) (.k 1))) (.a (.v 1) (.v 2)) rfl (XB this.symm)) (ln [_,_,_] [] (.c 1 (.v 0) (.a (.v 1) (.k 1)) .e) 0 (.a (.v 0) (.v 2)) (.a (.v 1) (.a (.v 2) (.k 1))) rfl (XB this))
theorem Ż.N3{À:List È}{g:Int}{Å:Int->Prop}{ex N3:È->Int->Prop}{q:List Int×List È}(Q:Ż À g Å ex q)(h:∀x b,ex x b->(b=x.a0\/b=x.a1)->b≠0->(∃y∈À,y.ad=b/\y.gn<=g)->b∈q.1\/N3 x b):Ż À g Å N3 q:=⟨Q.sound,Q.work,Q.nd,λ a ha x hx e hn b hb vh y hy ey hg=>(Q.closed a ha x hx e hn b hb vh y hy ey hg).elim .inl λ k=>h x b k hb vh ⟨y,hy,ey,hg⟩⟩
abbrev q_:È->Int->Prop:=λ _ _=>False
theorem jX:∀(l m:List Int),l.Nodup->(∀a∈l,a∈m)->l.length<=m.length
 |[],m,_,_=>by simp
 |a::l,m,nd,h=>by
  obtain⟨n1,n2⟩:=X0.mp nd;have hm:a∈m:=h a (by exact mg 0 rfl)
  have:=jX l (m.erase a) n2 λ b hb=>by
   have wX:b≠a:=by rintro rfl;exact n1 hb
   exact(List.mem_erase_of_ne wX).mpr (h b (by exact XM _ hb))
  rw[List.length_erase_of_mem hm]at this;have z2:0<m.length:=List.length_pos_of_mem hm;simp only[Yi];exact ln [_,_,_] [] (.c 1 (.v 0) (.v 1) (.c 1 (.a (.v 1) (.k 1)) (.v 2) .e)) 0 (.a (.v 0) (.k 1)) (.v 2) rfl this (XB (Yb (ln [_] [] (.c 1 (.a (.k 0) (.k 1)) (.v 0) .e) 0 (.k 1) (.v 0) rfl z2)))
theorem Cc{À:List È}{g:Int}{a:Int}(h:cN À g Å a):∃x∈À,x.ad=a/\x.gn<=g/\a≠0:=by
 cases h with
 |ź _ h0 hx e hg=>exact⟨_,hx,e,hg,h0⟩
 |step _ _ _ _ h0 hx e hg=>exact⟨_,hx,e,hg,h0⟩
theorem tN(À:List È)(m:List Int):left À m<=À.length:=by unfold left;exact Xp (XP _ _) (by simp[Bv])
theorem Ż.small{À:List È}(T:ď À){g:Int}{Å:Int->Prop}{ex:È->Int->Prop}{q:List Int×List È}(Q:Ż À g Å ex q):q.1.length<300:=by
 have:=jX q.1 (Bv À) Q.nd λ a ha=>by refine gV (Cc (Q.sound a ha)) λ x hx e _=>?_;exact Xx.mpr ⟨x,hx,e⟩
 have h2:=T.small;unfold Bv at this;rw[Xm]at this;exact Xs this h2
def Cd(x:È):List V:=[.tup [.ref x.t,.int 0],.tup [.ref x.t,.int 1]]
def lY(g:Int)(ä:List Int)(x:È):Bool:=decide (g<x.gn)&&decide (x.ad/4∈ä)
def mW(g:Int)(ä:List Int)(À:List È):List V:=(À.filter (lY g ä)).flatMap Cd
theorem tO(g:Int)(ä:List Int)(À:List È):(mW g ä À).length<=2*À.length:=by
 unfold mW
 induction À with
 |nil=>exact XS _
 |cons x l ih=>
  rw[YB];split
  ·simp only[Yf,Xr,Yi,Cd,List.length_nil];exact ln [_,_] [] (.c 1 (.v 0) (.m 2 (.v 1)) .e) 0 (.a (.a (.a (.k 0) (.k 1)) (.k 1)) (.v 0)) (.m 2 (.a (.v 1) (.k 1))) rfl ih
  ·simp only[Yi];exact Nat.le_add_right_of_le ih
theorem yy(g:Int)(ä:List Int)(À:List È)(x:È):mW g ä (À++[x])=mW g ä À++(if lY g ä x then Cd x else []):=by
 unfold mW;rw[Zc,XZ]
 congr 1
 by_cases h:lY g ä x
 ·simp[h]
 ·simp[h]
theorem take_snoc{l:List α}{i:Nat}{x:α}(h:l[i]?\x):l.take (i+1)=l.take i++[x]:=by rw[ZZ,h];rfl
def Bw(À:List È)(g a:Int):Prop:=a≠0/\∃x∈À,x.ad=a/\x.gn<=g
def jf(p:HP)(rl:List (Nat×List Int))(g:Int)(a:Int):Prop:=(∃q∈rl,a∈q.2)\/(g<2/\∃x∈p.À,lY g p.ä x=true/\(a=x.a0\/a=x.a1))
theorem tP{α β:Type}{f:α->β}{l:List α}{i:Nat}{v:β}(h:(l.map f)[i]?\v):∃x,l[i]?\x/\v=f x/\x∈l:=by
 rw[X3]at h;cases e:l[i]? with
 |none=>rw[e]at h;exact ns h
 |some x=>rw[e]at h;exact⟨x,rfl,(Xn h).symm,Xt e⟩
def ĭ(x:È)(i:Int):Int:=if i=0 then x.a0 else x.a1
theorem hV{À:List È}{g:Int}{q:List Int×List È}(Q:Ż À g Å q_ q)(h2:q.2=[])(hs:∀a,Å a->Bw À g a->a∈q.1)(a:Int):a∈q.1↔cN À g Å a:=by
 refine⟨Q.sound a,λ r=>?_⟩
 induction r with
 |ź Rd h0 hx e hg=>exact hs _ Rd ⟨h0,_,hx,e,hg⟩
 |step r hy ey hb h0 hx e hg ih=>
  exact(Q.closed _ ih _ hy ey (by rw[h2];simp) _ hb h0 _ hx e hg).resolve_right (by simp)
def dead(À:List È)(ms:List Int)(g a:Int):Bool:=match À.find? (λ x=>decide (x.ad=a))with
 |none=>false
 |some x=>decide (x.gn<=g)&&!decide (a∈ms)
abbrev Row:=Nat×Int×Int
def i6(r:Row):O:=.list [.int r.2.1,.int r.2.2,.int 1]
def gY(À:List È)(ms:List Int)(g sort:Int)(r:Row):Int:=if r.2.1=sort/\r.2.2≠0/\dead À ms g r.2.2=true then 0 else r.2.2
theorem Ă{f:α->Bool}{l:List α}{i:Nat}{x:α}(h:l[i]?\x):(l.take (i+1)).filter f=(l.take i).filter f++(if f x then [x]else []):=by rw[take_snoc h,Zc];by_cases q:f x<;>simp[q]
theorem cN.mono{À:List È}{g:Int}{s1 s2:Int->Prop}(h:∀a,s1 a->s2 a){a:Int}(r:cN À g s1 a):cN À g s2 a:=by
 induction r with
 |ź hs h0 hx e hg=>exact .ź (h _ hs) h0 hx e hg
 |step _ hy ey hb h0 hx e hg ih=>exact .step ih hy ey hb h0 hx e hg
def gj(p:HP)(rl:List (Nat×List Int))(g:Int)(a:Int):Prop:=(∃q∈rl,a∈q.2)\/a∈p.Ì\/(g<2/\∃x∈p.À,lY g p.ä x=true/\(a=x.a0\/a=x.a1))
theorem o5{p:HP}{g:Int}{e:Nat}(a:Int):jf p (rl++[(p.ŕ,p.Ì),(e,[])]) g a↔gj p rl g a:=by
 unfold jf gj;constructor
 ·rintro(⟨q,hq,ha⟩|h)
  ·rcases XC.mp hq with hq|hq
   ·exact .inl ⟨q,hq,ha⟩
   ·simp only[XE,Yh,ZP]at hq;rcases hq with rfl|rfl
    ·exact .inr (.inl ha)
    ·exact nm ha
  ·exact .inr (.inr h)
 ·rintro(⟨q,hq,ha⟩|h|h)
  ·exact .inl ⟨q,Xo _ hq,ha⟩
  ·exact .inl ⟨(p.ŕ,p.Ì),by simp,h⟩
  ·exact .inr h
theorem cN.iff{À:List È}{g:Int}{s1 s2:Int->Prop}(h:∀a,s1 a↔s2 a)(a:Int):cN À g s1 a↔cN À g s2 a:=⟨cN.mono λ a=>(h a).mp,cN.mono λ a=>(h a).mpr⟩
def ra(À:List È)(å ms:List Int)(g:Int)(r:Row):Row:=(r.1,r.2.1,gY À ms g 2 (r.1,r.2.1,gY À å g 1 r))
def š(l:List (Int×Int)):List (V×V):=l.map λ q=>(.int q.1,.int q.2)
def mv(l:List (Int×Int))(a:Int):Int:=match l.find? (λ q=>decide (q.1=a))with
 |some q=>q.2
 |none=>a
theorem jg(l:List (Int×Int))(a:Int):è (š l) (.int a)\((l.find? λ q=>decide (q.1=a)).map λ q=>.int q.2):=jW Prod.fst (λ q=>.int q.2) a l
def wY(g:Int)(ms:List Int)(x:È):Bool:=decide (x.gn<=g)&&decide (x.ad∈ms)
def Ş(base:Int)(l:List È):List (Int×Int):=l.zipIdx.map λ q=>(q.1.ad,base+4*q.2)
theorem rb(base:Int)(l:List È)(x:È):Ş base (l++[x])=Ş base l++[(x.ad,base+4*l.length)]:=by unfold Ş;rw[List.zipIdx_append];simp
theorem vi(base:Int)(l:List È):(Ş base l).length=l.length:=by simp[Ş]
theorem hW(base:Int)(l:List È):(Ş base l).map (·.1)=l.map (·.ad):=by unfold Ş;rw[X5];have:((λ x:Int×Int=>x.1)∘λ q:È×Nat=>(q.1.ad,base+4*(q.2:Int)))=(·.ad)∘Prod.fst:=rfl;rw[this,<-X5,List.zipIdx_map_fst]
theorem eS{l:List (Int×Int)}{a b:Int}(h:a∉l.map (·.1)):putK (š l) (.int a) (.int b)\(š (l++[(a,b)])):=by have:=cL (λ q:Int×Int=>q.1) (λ q=>V.int q.2) a (.int b) l (λ x hx e=>h (Xx.mpr ⟨x,hx,e⟩));simpa[š]using this
def Í(l:List (Int×Int))(g:Int)(x:È):Bool:=decide (g<x.gn)||decide (x.ad∈l.map (·.1))
theorem aP(l:List (Int×Int))(a:Int):(l.find? λ q=>decide (q.1=a)).isSome=decide (a∈l.map (·.1)):=by
 induction l with
 |nil=>rfl
 |cons q l ih=>
  rw[Zt];by_cases h:q.1=a
  ·simp[h]
  ·simp only[h,Z0];rw[ih];have:¬a=q.1:=λ e=>h e.symm;simp[this]
def tS(l:List (Int×Int))(g:Int)(x:È):Int:=if g<x.gn then x.ad else mv l x.ad
def ng(g a:Int):Int:=if g<a then a else if a<2 then a+1 else a
def J2(g:Int)(x:È):Int:=ng g x.gn
theorem Ce{g a b:Int}(h:a<=b):ng g a<=ng g b:=by
 unfold ng;by_cases U:g<a
 ·rw[XR U,XR (Yo U h)];exact h
 ·rw[XW U];by_cases h2:g<b
  ·rw[XR h2];split
   ·exact ZV (Yc.mp U) h2
   ·exact h
  ·rw[XW h2];by_cases h3:b<2
   ·rw[XR h3,XR (ZV h h3)];exact Int.add_le_add_right h 1
   ·rw[XW h3];split
    ·rename_i q;exact YZ q (Yc.mp h3)
    ·exact h
theorem GX{g a:Int}(h:0<=a/\a<=2):0<=ng g a/\ng g a<=2:=by
 unfold ng;split
 ·exact h
 ·split
  ·rename_i q;exact⟨YZ h.1 (YO (by decide)),q⟩
  ·exact h
theorem mn{a:Int}(h:a<=2):(if a<2 then a+1 else a)=min 2 (a+1):=by
 split
 ·rename_i q;exact(Int.min_eq_right q).symm
 ·rename_i q;rw[Yw h (Yc.mp q)];rfl
theorem Xi{a:Int}:(if a<2 then a else 2)=min 2 a:=by
 split
 ·rename_i q;exact(Int.min_eq_right (Z1 q)).symm
 ·rename_i q;exact(Int.min_eq_left (Yc.mp q)).symm
def nw(l:List (Int×Int))(g:Int)(x:È):È:={x with ad:=tS l g x,gn:=J2 g x}
theorem Rf(l:List (Int×Int))(g:Int)(x:È):(nw l g x).t=x.t:=rfl
theorem yz(l:List È)(x:È):gX (l++[x])=gX l++[(.int x.ad,.ref x.t)]:=by simp[gX]
theorem jY{l:List È}{x:È}(h:∀y∈l,y.ad≠x.ad):putK (gX l) (.int x.ad) (.ref x.t)\(gX (l++[x])):=by rw[yz];exact cL (λ x:È=>x.ad) (λ x=>.ref x.t) x.ad (.ref x.t) l h
def Cf(l:List (Int×Int))(x:È):È:={x with a0:=mv l x.a0,a1:=mv l x.a1}
def qI(p:HP)(l:List (Int×Int))(g:Int)(rl:List (Nat×List Int)):List (Nat×List Int):=(rl++[(p.ŕ,p.Ì)])++(p.À.filter (Í l g)).map λ x=>(x.sl,[x.a0,x.a1])
def yr(À:List È)(gn a:Int):Bool:=!decide (a=0)&&match À.find? (λ y=>decide (y.ad=a))with
 |some y=>decide (y.gn<gn)
 |none=>false
def ly(l:List Int)(c:Int):List Int:=if c∈l then l else l++[c]
theorem yB(c:Int)(l:List Int):putK (bU l) (.int c) (.int 1)\(bU (ly l c)):=by
 induction l with
 |nil=>rfl
 |cons x l ih=>
  unfold ly at ih ⊢;by_cases h:x=c
  ·rw[XR (h▸X2)];exact KH (E2 h)
  ·refine(Gr (xH h)).trans (map_eq ih ?_);by_cases h3:c∈l
   ·rw[XR h3,XR (XM _ h3)];rfl
   ·rw[XW h3,XW λ q=>(XE.mp q).elim (λ e=>h e.symm) h3];rfl
theorem cO{l:List Int}{c a:Int}:a∈ly l c↔a=c\/a∈l:=by
 unfold ly;split
 ·rename_i h;constructor
  ·exact .inr
  ·rintro(rfl|h')
   ·exact h
   ·exact h'
 ·simp;exact or_comm
theorem Cg{l:List Int}{c:Int}(h:l.Nodup):(ly l c).Nodup:=by
 unfold ly;split
 ·exact h
 ·rename_i h2;refine Yn.mpr ⟨h,by simp,?_⟩;rintro a ha b hb rfl;exact h2 ((by simpa using hb:a=c)▸ha)
structure mX (ä:List Int):Prop where
 nd:ä.Nodup
 ù:∀c∈ä,0<=c/\c<5000
theorem mX.add{ä:List Int}(C:mX ä){c:Int}(h:0<=c/\c<5000):mX (ly ä c):=⟨Cg C.nd,λ a ha=>by
 rcases cO.mp ha with rfl|ha
 ·exact h
 ·exact C.ù a ha⟩
theorem mX.len{ä:List Int}(C:mX ä):ä.length<=5000:=by
 have:=jX ä ((List.range 5000).map λ i:Nat=>(i:Int)) C.nd (λ a ha=>by have:=C.ù a ha;exact Xx.mpr ⟨a.toNat,ZC.mpr (by exact ln [_] [_] (.i 1 (.a (.v 0) (.k 1)) (.k 5000) (.i 1 (.n (.v 0)) (.v 0) .e)) 0 (.a (.v 0) (.k 1)) (.k 5000) rfl this.2 (Xu (Xy (li [] [_] (.i 1 (.k 0) (.v 0) .e) 0 (.k 0) (.v 0) rfl this.1)))),by exact Yw (li [_] [_] (.i 1 (.n (.v 0)) (.v 0) .e) 0 (.n (.v 0)) (.v 0) rfl (Xu (Xy (li [] [_] (.i 1 (.k 0) (.v 0) .e) 0 (.k 0) (.v 0) rfl this.1)))) (li [_] [_] (.i 1 (.v 0) (.n (.v 0)) .e) 0 (.v 0) (.n (.v 0)) rfl (XU _))⟩)
 simpa using this
structure dp (p:HP):Prop where
 lay:∀(i:Nat) (x:È),p.À[i]?\x->x.ad=16+4*i
 small:p.À.length<300
 gens:p.À.Pairwise λ x y=>y.gn<=x.gn
 o6:∀x∈p.À,0<=x.gn/\x.gn<=2
 refs:∀x∈p.À,(x.a0=0\/∃y∈p.À,y.ad=x.a0)/\(x.a1=0\/∃y∈p.À,y.ad=x.a1)
 top:p.top=16+4*p.À.length
 C:mX p.ä
 o7:∀x∈p.À,0<x.gn->(yr p.À x.gn x.a0=true\/yr p.À x.gn x.a1=true)->x.ad/4∈p.ä
theorem ď.of{À:List È}(lay:∀(i:Nat) (x:È),À[i]?\x->x.ad=16+4*i)(small:À.length<300)(refs:∀x∈À,(x.a0=0\/∃y∈À,y.ad=x.a0)/\(x.a1=0\/∃y∈À,y.ad=x.a1)):ď À:=by
 refine⟨?_,small,refs,?_⟩
 ·unfold Bv;unfold List.Nodup;rw[aaF];intro i j hi hj N8 e;rw[Xm]at hi hj;have U:À[i]?=some À[i]:=Xz (by exact hi);have h2:À[j]?=some À[j]:=Xz hj;rw[List.getElem_map,List.getElem_map]at e;have a:=lay i _ U;have b:=lay j _ h2;exact lL [_,_] [_,_] (.c 4 (.a (.v 0) (.k 1)) (.v 1) (.i 1 (.v 0) (.v 1) (.i 1 (.v 1) (.a (.k 16) (.m 4 (.n (.v 0)))) (.i 1 (.a (.k 16) (.m 4 (.n (.v 1)))) (.v 0) .e)))) rfl N8 (Xu e.symm) (Xu a) (Xu b.symm)
 ·intro x hx;refine Gj (aao hx) λ i hi e=>?_;have z:=lay i x (by rw[Xz hi,e]);exact⟨by exact li [_] [_] (.i 1 (.a (.k 16) (.m 4 (.n (.v 0)))) (.v 0) .e) 0 (.k 16) (.v 0) rfl (Xu z.symm),by exact li [_,_] [_] (.c 4 (.a (.v 0) (.k 1)) (.k 300) (.c 4 (.a (.v 1) (.k 1)) (.v 0) (.i 1 (.v 0) (.a (.k 16) (.m 4 (.n (.v 1)))) .e))) 0 (.a (.v 0) (.k 1)) (.k 10000) rfl small hi (Xu z),z▸Int.emod_eq_zero_of_dvd ⟨4+(i:Int),iq [_] [] (.a (.k 16) (.m 4 (.n (.v 0)))) (.m 4 (.a (.k 4) (.n (.v 0)))) rfl⟩⟩
theorem dp.T{p:HP}(O:dp p):ď p.À:=ď.of O.lay O.small O.refs
theorem hZ(g:Int):∀l:List È,(l.Pairwise λ x y=>y.gn<=x.gn)->l=l.filter (λ x=>decide (g<x.gn))++l.filter (λ x=>decide (x.gn<=g))
 |[],_=>rfl
 |x::l,h=>by
  have h2:=List.pairwise_cons.mp h;have ih:=hZ g l h2.2;by_cases hg:g<x.gn
  ·have h3:¬x.gn<=g:=by exact Int.not_le.mpr hg
   simp only[YB,hg,h3,decide_true,Z0,abk];simp only[ZU,aax,List.cons_append];rw[<-ih]
  ·have h3:x.gn<=g:=by exact Yc.mp hg
   have h4:l.filter (λ x=>decide (g<x.gn))=[]:=by rw[Z2];intro y hy;have:=h2.1 y hy;simp;exact li [] [_,_,_] (.i 1 (.v 0) (.v 1) (.i 1 (.v 2) (.v 0) .e)) 0 (.v 2) (.v 1) rfl (Yc.mp hg) this
   rw[h4]at ih;simp only[YB,hg,h3,decide_true,Z0,abk];simp only[ZU,aax,h4,aa6];rw[<-aa6 (l.filter _),<-ih]
theorem h9{l:List (Int×Int)}{a b:Int}(h:(a,b)∈l)(nd:(l.map (·.1)).Nodup):mv l a=b:=by
 induction l with
 |nil=>exact nm h
 |cons q l ih=>
  simp only[Yd,X0]at nd;unfold mv;rw[Zt];rcases XE.mp h with h|h
  ·subst h;simp
  ·have:q.1≠a:=λ e=>nd.1 (e▸Xx.mpr ⟨(a,b),h,rfl⟩);simp only[this,Z0];exact ih h nd.2
theorem rd{l:List (Int×Int)}{a:Int}(h:a∉l.map (·.1)):mv l a=a:=by
 have hf:=aP l a;rw[XY h]at hf;unfold mv;cases q:l.find? λ q=>decide (q.1=a)with
 |none=>rfl
 |some z=>rw[q]at hf;exact tf hf
theorem vj{base:Int}{L:List È}{x:È}(h:L[j]?\x):(x.ad,base+4*(j:Int))∈Ş base L:=by unfold Ş;refine Xx.mpr ⟨(x,j),?_,rfl⟩;rw[List.mem_zipIdx_iff_getElem?];exact h
def kp(g:Int)(ms:List Int)(x:È):Bool:=decide (g<x.gn)||decide (x.ad∈ms)
def Ķ(p:HP)(g:Int)(ms:List Int):List (Int×Int):=Ş (16+4*(p.À.filter λ x=>decide (g<x.gn)).length) (p.À.filter (wY g ms))
theorem jZ{p:HP}{g:Int}{a:Int}:a∈(Ķ p g ms).map (·.1)↔∃x∈p.À,x.gn<=g/\x.ad∈ms/\x.ad=a:=by
 unfold Ķ;rw[hW];simp only[Xx,XG,wY,Yx,YT];constructor
 ·rintro⟨x,⟨U,h2,h3⟩,h4⟩;exact⟨x,U,h2,h3,h4⟩
 ·rintro⟨x,U,h2,h3,h4⟩;exact⟨x,⟨U,h2,h3⟩,h4⟩
theorem yC{p:HP}(O:dp p){g:Int}{x:È}(hx:x∈p.À):Í (Ķ p g ms) g x=kp g ms x:=by
 unfold Í kp;by_cases hg:g<x.gn
 ·simp[hg]
 ·rw[XY hg,abe,abe];refine ZI.mpr ?_;rw[jZ];constructor
  ·rintro⟨y,hy,U,h2,h3⟩;rw[<-h3];exact h2
  ·intro h;exact⟨x,hx,by exact Yc.mp hg,h,rfl⟩
theorem rh{p:HP}(O:dp p){g:Int}{i:Nat}{x:È}(h:(p.À.filter (kp g ms))[i]?\x):mv (Ķ p g ms) x.ad=16+4*i/\tS (Ķ p g ms) g x=16+4*i:=by
 have T:=O.T;have sp:=hZ g p.À O.gens;generalize hA:p.À.filter (λ x=>decide (g<x.gn))=A at sp;generalize hB:p.À.filter (λ x=>decide (x.gn<=g))=B at sp;have Ri:∀y∈A,g<y.gn:=λ y hy=>by rw[<-hA]at hy;simpa using(XG.mp hy).2
 have Rj:∀y∈B,y.gn<=g:=λ y hy=>by rw[<-hB]at hy;simpa using(XG.mp hy).2
 have Rk:x∈p.À:=(XG.mp (Xt h)).1
 have f1:p.À.filter (kp g ms)=A++B.filter (λ x=>decide (x.ad∈ms)):=by
  rw[sp,Zc]
  congr 1
  ·rw[List.filter_eq_self];intro y hy;simp[kp,Ri y hy]
  ·refine YS ?_;intro y hy;have:¬g<y.gn:=by have:=Rj y hy;exact Yc.mpr this
   simp[kp,this]
 have f2:p.À.filter (wY g ms)=B.filter (λ x=>decide (x.ad∈ms)):=by
  rw[sp,Zc]
  have U:A.filter (wY g ms)=[]:=by
   rw[Z2];intro y hy;have:¬y.gn<=g:=by have:=Ri y hy;exact Int.not_le.mpr this
   simp[wY,this]
  rw[U,aa6];refine YS ?_;intro y hy;simp[wY,Rj y hy]
 have hl:Ķ p g ms=Ş (16+4*A.length) (B.filter (λ x=>decide (x.ad∈ms))):=by unfold Ķ;rw[hA,f2]
 rw[f1]at h;by_cases hi:i<A.length
 ·rw[Yp hi]at h;have hg:=Ri x (Xt h);have TL:x.ad=16+4*i:=O.lay i x (by rw[sp,Yp hi];exact h)
  have hn:x.ad∉(Ķ p g ms).map (·.1):=by rw[jZ];rintro⟨y,hy,U,h2,h3⟩;have:=T.inj hy Rk h3;subst this;exact Int.not_lt_of_ge U hg
  refine⟨(rd hn)^TL,?_⟩;unfold tS;rw[XR hg];exact TL
 ·rw[YC (by exact Yg hi)]at h;have hg:=Rj x (XG.mp (Xt h)).1
  have e:mv (Ķ p g ms) x.ad=16+4*i:=by
   have hm:=vj (base:=16+4*A.length) h;rw[<-hl]at hm
   have nd:((Ķ p g ms).map (·.1)).Nodup:=by unfold Ķ;rw[hW];exact T.nd.sublist (aap.map _)
   rw[h9 hm nd];exact Yw (li [_,_,_] [] (.c 4 (.a (.v 0) (.v 1)) (.v 2) .e) 0 (.a (.a (.k 16) (.m 4 (.n (.v 1)))) (.m 4 (.n (.v 0)))) (.a (.k 16) (.m 4 (.n (.v 2)))) rfl (XB (Yb (ln [_,_] [] (.c 1 (.v 0) (.v 1) .e) 0 (.v 0) (.v 1) rfl (Yg hi))))) (li [_,_,_] [] (.c 4 (.v 0) (.a (.v 1) (.v 2)) .e) 0 (.a (.k 16) (.m 4 (.n (.v 0)))) (.a (.a (.k 16) (.m 4 (.n (.v 2)))) (.m 4 (.n (.v 1)))) rfl (su _ _))
  refine⟨e,?_⟩;unfold tS;rw[XW (by exact Yc.mpr hg)];exact e
def GY(p:HP)(g:Int)(ms:List Int)(x:È):È:=nw (Ķ p g ms) g (Cf (Ķ p g ms) x)
def Ţ(p:HP)(g:Int)(ms:List Int):List È:=(p.À.filter (kp g ms)).map (GY p g ms)
theorem yD{p:HP}{g:Int}(O:dp p){x:È}(hx:x∈p.À)(hk:kp g ms x=true):(GY p g ms x).ad=mv (Ķ p g ms) x.ad:=by refine Gj (aao (XG.mpr ⟨hx,hk⟩)) λ i hi e=>?_;have h:=rh O (i:=i) (x:=x) (by rw[Xz hi,e]);exact h.2.trans h.1.symm
theorem mY{p:HP}{g:Int}(O:dp p):mv (Ķ p g ms) 0=0:=rd (by rw[jZ];rintro⟨x,hx,_,_,e⟩;have:=O.T.ù x hx;exact lL [] [_] (.i 1 (.v 0) (.k 0) (.i 1 (.k 16) (.v 0) .e)) rfl (Xu e) this.1)
theorem lZ{p:HP}(O:dp p){g:Int}{sd:Int->Prop}(Bx:∀a,a∈ms↔cN p.À g sd a)(Rd:∀x∈p.À,g<2->lY g p.ä x=true->sd x.a0/\sd x.a1){x:È}(hx:x∈p.À)(hk:kp g ms x=true){b:Int}(hb:b=x.a0\/b=x.a1)(h0:b≠0):∃y∈p.À,y.ad=b/\kp g ms y=true:=by
 have T:=O.T
 obtain⟨y,hy,ey⟩:∃y∈p.À,y.ad=b:=by
  rcases hb with rfl|rfl
  ·exact(O.refs x hx).1.resolve_left h0
  ·exact(O.refs x hx).2.resolve_left h0
 refine⟨y,hy,ey,?_⟩;by_cases hg:g<y.gn
 ·simp[kp,hg]
 ·have TM:y.gn<=g:=by exact Yc.mp hg
  have:b∈ms:=by
   by_cases Ll:g<x.gn
   ·have qJ:yr p.À x.gn b=true:=by
     have f:=Ņ T hy;rw[ey]at f;have:y.gn<x.gn:=by exact li [] [_,_,_] (.i 1 (.v 0) (.v 1) (.i 1 (.a (.v 1) (.k 1)) (.v 2) .e)) 0 (.a (.v 0) (.k 1)) (.v 2) rfl (Yc.mp hg) Ll
     simp[yr,h0,f,this]
    have gr:=O.o6 x hx;have gy:=O.o6 y hy;have hc:=O.o7 x hx (by exact li [] [_,_,_] (.i 1 (.v 0) (.v 1) (.i 1 (.a (.v 1) (.k 1)) (.v 2) (.i 1 (.k 0) (.v 0) .e))) 0 (.a (.k 0) (.k 1)) (.v 2) rfl (Yc.mp hg) Ll gy.1) (by rcases hb with rfl|rfl<;>simp[qJ]);have yE:lY g p.ä x=true:=by simp[lY,Ll,hc]
    obtain⟨s1,s2⟩:=Rd x hx (by exact Yo Ll gr.2) yE;refine(Bx b).mpr (.ź ?_ h0 hy ey TM);rcases hb with rfl|rfl
    ·exact s1
    ·exact s2
   ·have Rk:x.ad∈ms:=by simpa[kp,Ll]using hk
    exact(Bx b).mpr (.step ((Bx _).mp Rk) hx rfl hb h0 hy ey TM)
  simp[kp,ey,this]
theorem o8{p:HP}(O:dp p){g:Int}(i:Nat)(x:È)(h:(Ţ p g ms)[i]?\x):x.ad=16+4*i:=by refine gV (tP h) λ y hy=>?_;rintro rfl hm;exact(rh O hy).2
theorem j2{p:HP}(O:dp p){g:Int}:(Ţ p g ms).length<300:=by have z1:=XP (kp g ms) p.À;have z2:=O.small;simp only[Ţ,Xm];exact ln [_,_] [] (.c 1 (.v 0) (.v 1) (.c 1 (.a (.v 1) (.k 1)) (.k 300) .e)) 0 (.a (.v 0) (.k 1)) (.k 300) rfl z1 z2
theorem yF{p:HP}(O:dp p){g:Int}{a:Int}(h:a=0\/∃y∈p.À,y.ad=a/\kp g ms y=true):mv (Ķ p g ms) a=0\/∃y∈Ţ p g ms,y.ad=mv (Ķ p g ms) a:=by
 rcases h with rfl|⟨y,hy,rfl,hk⟩
 ·exact .inl (mY O)
 ·exact .inr ⟨GY p g ms y,Xx.mpr ⟨y,XG.mpr ⟨hy,hk⟩,rfl⟩,yD O hy hk⟩
theorem l0{p:HP}(O:dp p){g:Int}(cl:∀x∈p.À,kp g ms x=true->∀b,(b=x.a0\/b=x.a1)->b≠0->∃y∈p.À,y.ad=b/\kp g ms y=true):∀x∈Ţ p g ms,(x.a0=0\/∃y∈Ţ p g ms,y.ad=x.a0)/\(x.a1=0\/∃y∈Ţ p g ms,y.ad=x.a1):=by
 intro x hx;refine dQ (Xx.mp hx) λ y hy=>?_;rintro rfl;obtain⟨U,h2⟩:=XG.mp hy;refine⟨yF O ?_,yF O ?_⟩
 ·by_cases h0:y.a0=0
  ·exact .inl h0
  ·exact .inr (cl y U h2 _ (.inl rfl) h0)
 ·by_cases h0:y.a1=0
  ·exact .inl h0
  ·exact .inr (cl y U h2 _ (.inr rfl) h0)
theorem GZ{p:HP}{g:Int}{x:È}:(GY p g ms x).gn=J2 g x:=rfl
theorem l3{p:HP}(O:dp p){g:Int}:((Ţ p g ms).Pairwise λ x y=>y.gn<=x.gn)/\∀x∈Ţ p g ms,0<=x.gn/\x.gn<=2:=by
 refine⟨?_,?_⟩
 ·unfold Ţ;rw[aaK];exact(O.gens.sublist aap).imp λ h=>Ce h
 ·intro x hx;refine dQ (Xx.mp hx) λ y hy=>?_;rintro rfl;exact GX (O.o6 y (XG.mp hy).1)
theorem Ci{p:HP}(O:dp p){g:Int}:((p.À.filter (Í (Ķ p g ms) g)).map (Cf (Ķ p g ms))).map (nw (Ķ p g ms) g)=Ţ p g ms:=by rw[X5,YS (λ x hx=>yC O hx)];rfl
structure bV where
 f:Nat
 nm:Int
 mr:V
 ar:Nat
 lo:Nat
 st:Nat
 co:Nat
 ca:Nat
 cv:Nat
 ke:Nat
 so:Int
 as:List Int
 ls:List Int
def G0(x:bV):O:=.inst 6 [(11,.int x.nm),(120,x.mr),(121,.none),(122,.int 0),(44,.ref x.ar),(123,.ref x.lo),(124,.ref x.st),(125,.ref x.co),(126,.ref x.ca),(127,.ref x.cv),(128,.ref x.ke),(29,.int x.so),(129,.int x.nm),(130,.int 0),(131,.int (-1))]
def dJ(x:bV):List (Nat×List Int):=[(x.ar,x.as),(x.lo,x.ls),(x.st,[]),(x.ke,[]),(x.cv,[])]
def mO(c:Nat->Nat)(fr:Nat)(hv:V):O:=.inst 10 [(137,.ref (c 137)),(38,.ref (c 38)),(75,.ref (c 75)),(138,.ref (c 138)),(4,.ref (c 4)),(133,.ref (c 133)),(139,.ref (c 139)),(140,.ref (c 140)),(85,.ref (c 85)),(118,.ref fr),(141,.ref (c 141)),(119,.ref (c 119)),(142,.ref (c 142)),(143,.ref (c 143)),(144,.ref (c 144)),(145,.ref (c 145)),(146,.int 0),(148,.ref (c 148)),(149,.ref (c 149)),(150,.ref (c 150)),(151,.ref (c 151)),(152,.ref (c 152)),(153,.ref (c 153)),(154,.ref (c 154)),(155,.ref (c 155)),(156,.none),(157,.none),(158,.ref (c 158)),(159,hv),(160,.ref (c 160)),(162,.ref (c 162)),(164,.ref (c 164)),(166,.ref (c 166))]
structure Sh where
 J:Nat
 c:Nat->Nat
 fr:Nat
 hv:V
 à:List bV
 sc:Nat
 ss:List Int
 bP:List Int
 Ŗ:List V
 ń:List Nat
def Æ(q:Sh):List (Nat×List Int):=q.à.flatMap dJ++[(q.sc,q.ss),(q.c 154,[]),(q.c 158,[])]
section
variable{C:Call}{ρ:Loc}{s s1:St}
end
structure Mc where
 q:Sh
 p:HP
 rows:List Row
 fd:List Nat
abbrev Mc.h(m:Mc):Nat:=m.q.c 75
def Nm(À:List È)(a:Int):Prop:=a=0\/∃x∈À,x.ad=a
def Fc(l:List (Int×Int))(x:bV):bV:={x with as:=x.as.map (mv l),ls:=x.ls.map (mv l)}
structure Fd (m m':Mc) (g:Int) (å ms:List Int):Prop where
 m0:∀a,a∈å↔cN m.p.À g (gj m.p (Æ m.q) g) a
 m1:∀a,a∈ms↔cN m.p.À g (λ a=>gj m.p (Æ m.q) g a\/a∈m.p.fin.filter (dead m.p.À å g)) a
 À:m'.p.À=Ţ m.p g ms
 eu:m'.p.eu=m.p.eu
 fin:m'.p.fin=(m.p.fin.filter (λ a=>!dead m.p.À å g a)).map (mv (Ķ m.p g ms))
 Ì:m'.p.Ì=(m.p.Ì++m.p.fin.filter (dead m.p.À å g)).map (mv (Ķ m.p g ms))
 q:∃hd,m'.q={m.q with hv:=.ref hd,à:=m.q.à.map (Fc (Ķ m.p g ms)),ss:=m.q.ss.map (mv (Ķ m.p g ms))}
 rows:m'.rows=(m.rows.map (ra m.p.À å ms g)).map λ r=>(r.1,r.2.1,mv (Ķ m.p g ms) r.2.2)
theorem j3(q:Sh)(hv:V)(l:List (Int×Int)):Æ {q with hv:=hv,à:=q.à.map (Fc l),ss:=q.ss.map (mv l)}=(Æ q).map λ z=>(z.1,z.2.map (mv l)):=by
 unfold Æ;simp only[XF,Yd,aa1]
 congr 1
 induction q.à with
 |nil=>rfl
 |cons x L ih=>simp only[Yd,Yf,XF,ih];rfl
theorem o9{À:List È}(T:ď À){g:Int}{x:È}(hx:x∈À)(h:dead À ms g x.ad=false):kp g ms x=true:=by
 unfold dead at h;rw[Ņ T hx]at h;simp only[Bool.and_eq_false_iff,decide_eq_false_iff_not,Bool.not_eq_false',YT]at h;unfold kp;rcases h with h|h
 ·have:g<x.gn:=by exact Int.not_le.mp h
  simp[this]
 ·simp[h]
theorem Cj{À:List È}{sd:Int->Prop}{g:Int}(Bx:∀a,a∈ms↔cN À g sd a){x:È}(hx:x∈À)(h0:x.ad≠0)(h:sd x.ad):kp g ms x=true:=by
 by_cases hg:g<x.gn
 ·simp[kp,hg]
 ·have:x.ad∈ms:=(Bx _).mpr (.ź h h0 hx rfl (by exact Yc.mp hg));simp[kp,this]
theorem Lm{p:HP}(O:dp p){g:Int}{a:Int}(h:Nm p.À a)(k:∀x∈p.À,x.ad=a->kp g ms x=true):Nm (Ţ p g ms) (mv (Ķ p g ms) a):=by
 refine yF O ?_;rcases h with h|⟨x,hx,e⟩
 ·exact .inl h
 ·exact .inr ⟨x,hx,e,k x hx e⟩
theorem vk(q:Sh):(Æ q).length=5*q.à.length+3:=by
 have:∀l:List bV,(l.flatMap dJ).length=5*l.length:=λ l=>by
  induction l with
  |nil=>rfl
  |cons y l ih=>rw[Yf,Xr,ih];simp[dJ];exact nq [_] [] (.a (.k 5) (.m 5 (.v 0))) (.m 5 (.a (.v 0) (.k 1))) rfl
 simp[Æ,this]
theorem Ł(f:Int->Bool)(L:List Int):(L.filter (λ a=>!f a)).length+(L.filter f).length=L.length:=by
 induction L with
 |nil=>rfl
 |cons a L ih=>
  simp only[YB];cases f a
  ·exact(aat _ _)^(Xq (·+1) ih)
  ·exact Xq (·+1) ih
structure Cell where
 r:Nat
 l:Nat
 i:Int
 a:Int
structure Wd where
 rw:Nat
 J:Nat
 Fe:Nat
 at_:Int
 rk:Nat
 J4:Nat
 J5:Nat
 G_:Nat
 wZ:Nat
 Ha:Nat
 made:Int
 Œ:Nat
 ŕ:Nat
 Ff:Nat
 jV:Nat
 runs:Int
 yG:Nat
 bW:List Int
 sorts:List Int
 gens:List Int
 slots:List (Nat×List Int)
 live:List Int
 wh:List (Int×Int)
 fin:List Int
 Ì:List Int
 rows:List Row
 bP:List Int
 cells:List Cell
def wEs(x:Wd):List (V×V):=[(.str 169,.ref x.J),(.str 284,.ref x.Fe),(.str 79,.int x.at_),(.str 265,.ref x.rk),(.str 266,.ref x.J4),(.str 267,.ref x.J5),(.str 92,.ref x.G_),(.str 264,.ref x.wZ),(.str 262,.ref x.Ha),(.str 104,.int x.made),(.str 85,.ref x.Œ),(.str 86,.ref x.ŕ),(.str 4,.ref x.Ff),(.str 149,.ref x.jV),(.str 271,.int x.runs),(.str 269,.ref x.yG)]
def N9(x:Cell):O:=.list [.ref x.l,.int x.i,.int x.a]
def Ln(r:Row):O:=.list [.int r.2.1,.int r.2.2]
theorem ŭ(a:Int)(l:List Int):Br a (l.map .int)\(decide (a∈l)):=by
 induction l with
 |nil=>rfl
 |cons b l ih=>
  refine(show bo (Br a (l.map .int)) (λ x=>some (decide (b=a)||x))=_ from ò ih (Xq some ?_));rw[Ze,Bool.or_eq_true,YT,YT,YT,XE,eq_comm]
def ą(x:Wd)(a:Int):Int:=x.gens.getD a.toNat 0
def lz(x:Wd)(a:Int):List Int:=(x.slots.getD a.toNat (0,[])).2
inductive LR (x:Wd) (g:Int) (sd:Int->Prop):Int->Prop
 |ź {a:Int}:sd a->0<a->ą x a<=g->LR x g sd a
 |step {a b:Int}:LR x g sd b->a∈lz x b->0<a->ą x a<=g->LR x g sd a
def Ix(x:Wd)(a:Int):Prop:=0<=a/\a.toNat<x.gens.length
structure dK (x:Wd):Prop where
 len:x.slots.length=x.gens.length
 Lo:x.gens.length<=300
 two:∀q∈x.slots,q.2.length<=2/\∀a∈q.2,Ix x a
theorem cQ{x:Wd}(O:dK x){a:Int}(h:Ix x a):∃q,x.slots[a.toNat]?\q/\q∈x.slots/\lz x a=q.2:=by
 have hl:a.toNat<x.slots.length:=by rw[O.len];exact h.2
 refine⟨x.slots[a.toNat],Xz hl,Zn hl,?_⟩;unfold lz;rw[XO,Xz hl];rfl
structure Rg (x:Wd) (g:Int) (Å F:List Int) (rest:List Int):Prop where
 nd:F.Nodup
 ix:∀a∈F,Ix x a
 so:∀a∈F,LR x g (·∈Å) a
 cl:∀b∈F,∀a∈lz x b,0<a->ą x a<=g->a∈F\/a∈rest
 sd:∀a∈Å,0<a->ą x a<=g->a∈F\/a∈rest
 rs:∀a∈rest,Ix x a/\(0<a->ą x a<=g->LR x g (·∈Å) a)
theorem Fg{x:Wd}{F:List Int}(nd:F.Nodup)(ix:∀a∈F,Ix x a):F.length<=x.gens.length:=by
 have:=jX F ((List.range x.gens.length).map λ i:Nat=>(i:Int)) nd (λ a ha=>by have:=ix a ha;exact Xx.mpr ⟨a.toNat,ZC.mpr this.2,by have:=this.1;exact Yw (li [_] [_] (.i 1 (.n (.v 0)) (.v 0) .e) 0 (.n (.v 0)) (.v 0) rfl (Xu (Xy (li [] [_] (.i 1 (.k 0) (.v 0) .e) 0 (.k 0) (.v 0) rfl this)))) (li [_] [_] (.i 1 (.v 0) (.n (.v 0)) .e) 0 (.v 0) (.n (.v 0)) rfl (XU _))⟩)
 simpa using this
theorem Rg.len{x:Wd}(O:dK x){g:Int}{Å F rest:List Int}(R:Rg x g Å F rest):F.length<=x.gens.length:=Fg R.nd R.ix
def wk(x:Wd)(k g:Int)(F:List Int)(r:Row):Row:=(r.1,r.2.1,if r.2.1=k/\ą x r.2.2<=g/\r.2.2∉F then 0 else r.2.2)
theorem j4(f:Int->Bool)(p:V->Bool)(h:∀a,p (.int a)=f a):∀l:List Int,(l.map V.int).filter p=(l.filter f).map V.int
 |[]=>rfl
 |a::l=>by simp only[Yd,YB,h];rw[j4 f p h l];split<;>rfl
def ê(x:Wd)(g:Int):List Int:=(x.Ì++x.cells.map (·.a))++(x.live.filter λ a=>decide (g<ą x a)).flatMap (lz x)
def Î(x:Wd)(g:Int)(F:List Int):List Int:=x.fin.filter λ a=>decide (ą x a<=g)&&!decide (a∈F)
structure ri (x:Wd):Prop where
 fin:∀a∈x.fin,Ix x a
 Ì:∀a∈x.Ì,Ix x a
 live:∀a∈x.live,Ix x a
 cells:∀c∈x.cells,Ix x c.a
 rows:∀r∈x.rows,Ix x r.2.2
 zl:x.live.length<=300
 zf:x.fin.length+x.Ì.length<=600
 zc:x.cells.length<=10
 zr:x.rows.length<=600
theorem yH{x:Wd}(O:dK x){a:Int}(h:Ix x a):(lz x a).length<=2/\∀b∈lz x a,Ix x b:=by refine gV (cQ O h) λ q _ hq e=>?_;rw[e];exact O.two q hq
theorem j5(x:Wd)(O:dK x):∀l:List Int,(∀a∈l,Ix x a)->(l.flatMap (lz x)).length<=2*l.length
 |[],_=>by exact XS _
 |a::l,h=>by have z1:=j5 x O l (λ b hb=>h b (by exact XM _ hb));have z2:=(yH O (h a (by exact mg 0 rfl))).1;simp only[Yf,Xr,Yi];exact ln [_,_,_] [] (.c 1 (.v 0) (.m 2 (.v 1)) (.c 1 (.v 2) (.k 2) .e)) 0 (.a (.v 2) (.v 0)) (.m 2 (.a (.v 1) (.k 1))) rfl z1 z2
theorem vl{x:Wd}(O:dK x)(X:ri x){g:Int}:(∀a∈ê x g,Ix x a)/\(ê x g).length<=1300:=by
 refine⟨λ a ha=>?_,?_⟩
 ·unfold ê at ha;rcases XC.mp ha with ha|ha
  ·rcases XC.mp ha with ha|ha
   ·exact X.Ì a ha
   ·refine dQ (Xx.mp ha) λ c hc=>?_;rintro rfl;exact X.cells c hc
  ·refine dQ (XX.mp ha) λ b hb mZ=>?_;exact(yH O (X.live b (XG.mp hb).1)).2 a mZ
 ·have U:=j5 x O (x.live.filter λ a=>decide (g<ą x a)) (λ a ha=>X.live a (XG.mp ha).1);have h2:=XP (λ a=>decide (g<ą x a)) x.live;have z1:=X.zl;have z2:=X.zf;have z3:=X.zc;unfold ê;simp only[Xr,Xm];exact ln [_,_,_,_,_,_] [] (.c 1 (.v 0) (.m 2 (.v 1)) (.c 2 (.v 1) (.v 2) (.c 2 (.v 2) (.k 300) (.c 1 (.a (.v 3) (.v 4)) (.k 600) (.c 1 (.v 5) (.k 10) .e))))) 0 (.a (.a (.v 4) (.v 5)) (.v 0)) (.k 1300) rfl U h2 z1 z2 z3
structure rn (x:Wd) (F:List Int) (cU:List Int):Prop where
 len:cU.length=x.gens.length
 at_:∀a,Ix x a->cU.getD a.toNat 0=if a∈F then min 2 (ą x a+1)else ą x a
section
variable{C:Call}{ρ:Loc}{s s1:St}{x:Wd}{r:Nat}{e:E}
end
theorem Ix.rows{x:Wd}{a:Int}(h:Ix x a):Ix x a:=h
structure tT (x x':Wd) (g:Int) (F1 F2:List Int):Prop where
 f1:∀a,a∈F1↔LR x g (·∈ê x g) a
 f2:∀a,a∈F2↔LR x g (·∈ê x g++Î x g F1) a
 ix:∀a∈F2,Ix x a
 e:∃r1 r2 r3 cU,x'={x with Œ:=r1,fin:=x.fin.filter (λ a=>!decide (a∈Î x g F1)),ŕ:=r2,Ì:=x.Ì++Î x g F1,wZ:=r3,live:=x.live.filter (λ a=>decide (g<ą x a)||decide (a∈F2)),rows:=(x.rows.map (wk x 0 g F1)).map (wk x 1 g F2),gens:=cU}/\rn x F2 cU
theorem LR.cg{x y:Wd}{g:Int}{sd:Int->Prop}(hg:∀a,ą x a=ą y a)(hs:∀a,lz x a=lz y a){a:Int}(h:LR x g sd a):LR y g sd a:=by
 induction h with
 |ź U h2 h3=>exact .ź U h2 (hg _▸h3)
 |step hb U h2 h3 ih=>exact .step ih (hs _▸U) h2 (hg _▸h3)
section
variable{s:St}
end
def TO:Nat->List (Nat×V)->List (Nat×(V ⊕ O))->List (Nat×V)
 |_,fs,[]=>fs
 |n,fs,(x,.inl v)::l=>TO n (av fs x v) l
 |n,fs,(x,.inr _)::l=>TO (n+1) (av fs x (.ref n)) l
def TP:List (Nat×(V ⊕ O))->List O
 |[]=>[]
 |(_,.inl _)::l=>TP l
 |(_,.inr o)::l=>o::TP l
theorem j6(a:Int):∀l:List Int,(l.map val).filter (λ v=>match v with|.tup [_,.int b]=>!decide (b=a)|_=>false)=(l.filter (λ b=>!decide (b=a))).map val
 |[]=>rfl
 |b::l=>by simp only[Yd,YB];rw[j6 a l];split<;>rfl
def yI(rows:List Row)(n:Int):Int:=if n<1\/(rows.length:Int)<n then 0 else (rows.getD (n - 1).toNat (0,0,0)).2.2
theorem yJ{À:List È}{t:È}{g a:Int}(ha:Nm À a):yr (À++[t]) g a=yr À g a:=by
 unfold yr;rcases ha with rfl|⟨y,hy,rfl⟩
 ·rfl
 ·rw[aaL];have:(À.find? λ z=>decide (z.ad=y.ad)).isSome=true:=by rw[aaJ];exact⟨y,hy,by simp⟩
  obtain⟨z,hz⟩:=X_.mp this;rw[hz];rfl
def ė(t:È)(i b:Int):È:=if i=0 then {t with a0:=b}else {t with a1:=b}
def eD(À:List È)(t:È)(i b:Int):List È:=À.map λ y=>if y.ad=t.ad then ė y i b else y
theorem Ę(t:È)(i b:Int):(ė t i b).t=t.t/\(ė t i b).sl=t.sl/\(ė t i b).ad=t.ad/\(ė t i b).kd=t.kd/\(ė t i b).gn=t.gn/\(ė t i b).sr=t.sr:=by unfold ė;split<;>exact⟨rfl,rfl,rfl,rfl,rfl,rfl⟩
theorem dq(f:È->α)(À:List È)(t:È)(i b:Int)(hf:∀y,f (ė y i b)=f y):(eD À t i b).map f=À.map f:=by
 unfold eD;rw[X5];refine Yt λ y _=>?_;simp only[Z3];split
 ·exact hf y
 ·rfl
theorem jh{À:List È}{t:È}{i b:Int}{y:È}(h:y∈eD À t i b):∃z∈À,y.ad=z.ad/\y.gn=z.gn/\(y=z/\z.ad≠t.ad\/y=ė z i b/\z.ad=t.ad):=by
 refine dQ (Xx.mp h) λ z hz=>?_;rintro rfl;have e:=Ę z i b;refine⟨z,hz,?_⟩;split
 ·rename_i h;exact⟨e.2.2.1,e.2.2.2.2.1,.inr ⟨rfl,h⟩⟩
 ·rename_i h;exact⟨rfl,rfl,.inl ⟨rfl,h⟩⟩
theorem yK(À:List È)(t:È)(i b a:Int):((eD À t i b).find? λ y=>decide (y.ad=a)).map (·.gn)=(À.find? λ y=>decide (y.ad=a)).map (·.gn):=by
 induction À with
 |nil=>rfl
 |cons y l ih=>
  have e:=Ę y i b;have e2:(if y.ad=t.ad then ė y i b else y).ad=y.ad/\(if y.ad=t.ad then ė y i b else y).gn=y.gn:=by split;exact⟨e.2.2.1,e.2.2.2.2.1⟩;exact⟨rfl,rfl⟩
  show(((if y.ad=t.ad then ė y i b else y)::eD l t i b).find? _).map _=_;rw[Zt,Zt,e2.1];split
  ·exact Xq some e2.2
  ·exact ih
theorem m5{À:List È}{t:È}{i b g a:Int}:yr (eD À t i b) g a=yr À g a:=by
 have h:=yK À t i b a;unfold yr;cases U:(eD À t i b).find? λ y=>decide (y.ad=a)<;>cases h2:À.find? (λ y=>decide (y.ad=a))<;>rw[U,h2]at h<;>simp at h
 all_goals first|rfl|simp only[h]
theorem h_{À:List È}{t:È}{i b a:Int}:Nm (eD À t i b) a↔Nm À a:=by
 have h:(eD À t i b).map (·.ad)=À.map (·.ad):=dq _ _ _ _ _ (λ y=>(Ę y i b).2.2.1);have e:∀l:List È,(∃x∈l,x.ad=a)↔a∈l.map (·.ad):=λ l=>by simp
 unfold Nm;rw[e,e,h]
def ņ(À:List È):List (Int×Int):=(0,0)::À.map λ t=>(t.sr,t.ad)
def W(À:List È)(a:Int):Int:=mv (ņ À) a
def lB(x:Wd)(a:Int):Int:=x.sorts.getD a.toNat 0
def Kn(x:Wd)(a:Int):Prop:=a=0\/a∈x.live
structure ĳ (m:Mc) (x:Wd):Prop where
 eu:m.p.eu=x.made
 m0:0<=x.made
 lg:(x.gens.length:Int)=x.made+1
 ls:x.slots.length=x.gens.length
 lk:x.sorts.length=x.gens.length
 live:m.p.À.map (·.sr)=x.live
 nd:x.live.Nodup
 rg:∀a∈x.live,0<a/\a<=x.made
 th:∀t∈m.p.À,t.kd=16+lB x t.sr/\t.gn=ą x t.sr/\∃b0 b1,lz x t.sr=[b0,b1]/\Kn x b0/\Kn x b1/\t.a0=W m.p.À b0/\t.a1=W m.p.À b1
 so:∀k∈x.sorts,0<=k/\k<=3
 two:∀q∈x.slots,q.2.length<=2/\∀a∈q.2,0<=a/\a<=x.made
 fin:m.p.fin=x.fin.map (W m.p.À)
 o_:∀a∈x.fin,a∈x.live/\lB x a≠1
 Ì:m.p.Ì=x.Ì.map (W m.p.À)
 og:∀a∈x.Ì,a∈x.live/\lB x a≠1
 rows:m.rows.map (λ r=>(r.2.1,r.2.2))=x.rows.map (λ r=>(r.2.1+1,W m.p.À r.2.2))
 Ck:∀r∈x.rows,(r.2.1=0\/r.2.1=1)/\Kn x r.2.2
 gZ:∀c∈x.cells,0<=c.i/\Kn x c.a/\∃vs,(c.l,vs)∈Æ m.q/\vs[c.i.toNat]?\(W m.p.À c.a)
 o7:∀z∈Æ m.q,∀j,j<z.2.length->∃c∈x.cells,c.l=z.1/\c.i=(j:Int)
 pos:x.cells.Pairwise λ c c'=>¬(c.l=c'.l/\c.i=c'.i)
 bP:x.bP=m.q.bP
 run:x.runs=m.q.ń.length
 Ŗ:m.q.Ŗ.length=m.q.ń.length
theorem ia{À:List È}(nd:(À.map (·.sr)).Nodup)(ps:∀t∈À,t.sr≠0){t:È}(ht:t∈À):W À t.sr=t.ad:=by
 refine h9 (XM _ (Xx.mpr ⟨t,ht,rfl⟩)) ?_;have:(ņ À).map (·.1)=0::À.map (·.sr):=by simp[ņ,Z3]
 rw[this];refine X0.mpr ⟨λ h=>?_,nd⟩;refine dQ (Xx.mp h) λ t ht e=>?_;exact ps t ht e
theorem By(À:List È):W À 0=0:=by rfl
section
variable{m:Mc}{x:Wd}
theorem ĳ.Lp(S:ĳ m x):(m.p.À.map (·.sr)).Nodup:=S.live▸S.nd
theorem ĳ.ps(S:ĳ m x):∀t∈m.p.À,t.sr≠0:=λ t ht=>by have:=S.rg t.sr (S.live▸Xx.mpr ⟨t,ht,rfl⟩);exact Yz this.1
theorem ĳ.ia(S:ĳ m x){t:È}(ht:t∈m.p.À):W m.p.À t.sr=t.ad:=Mine.Z.ia S.Lp S.ps ht
theorem ĳ.lv(S:ĳ m x){t:È}(ht:t∈m.p.À):t.sr∈x.live:=S.live▸Xx.mpr ⟨t,ht,rfl⟩
theorem ĳ.get(S:ĳ m x){a:Int}(h:a∈x.live):∃t∈m.p.À,t.sr=a/\W m.p.À a=t.ad:=by rw[<-S.live]at h;refine dQ (Xx.mp h) λ t ht=>?_;rintro rfl;exact⟨t,ht,rfl,S.ia ht⟩
theorem ĳ.inj(S:ĳ m x)(O:dp m.p){a:Int}(h:Kn x a){t:È}(ht:t∈m.p.À)(e:W m.p.À a=t.ad):a=t.sr:=by
 have r:=O.T.ù t ht;rcases h with rfl|h
 ·rw[By]at e;exact Yw ((lL [] [_] (.i 1 (.k 16) (.v 0) (.i 1 (.v 0) (.k 0) .e)) rfl r.1 (Xu e.symm)).elim) ((lL [] [_] (.i 1 (.k 16) (.v 0) (.i 1 (.v 0) (.k 0) .e)) rfl r.1 (Xu e.symm)).elim)
 ·refine gV (S.get h) λ u hu=>?_;rintro rfl e2;rw[O.T.inj hu ht (e2.symm^e)]
theorem ĳ.nm(S:ĳ m x){a:Int}(h:Kn x a):Nm m.p.À (W m.p.À a):=by
 rcases h with rfl|h
 ·exact .inl (By _)
 ·refine gV (S.get h) λ t ht _ e=>?_;exact .inr ⟨t,ht,e.symm⟩
theorem ĳ.Fh(S:ĳ m x){a:Int}(h:Kn x a):Ix x a:=by
 have z1:=S.lg;have z2:=S.m0;rcases h with rfl|h
 ·exact⟨X9 _,by exact ln [_,_] [_] (.i 1 (.a (.v 0) (.k 1)) (.n (.v 0)) (.i 1 (.k 0) (.v 0) (.i 1 (.n (.v 1)) (.k 0) .e))) 0 (.a (.v 1) (.k 1)) (.v 0) rfl (Xu z1.symm) z2 (Xu (Xy (li [] [] .e 0 (.k 0) (.k 0) rfl)))⟩
 ·have:=S.rg a h;exact⟨by exact Z1 this.1,by exact ln [_,_] [_,_] (.i 1 (.a (.v 0) (.k 1)) (.n (.v 0)) (.i 1 (.v 1) (.v 0) (.i 1 (.n (.v 1)) (.v 1) .e))) 0 (.a (.v 1) (.k 1)) (.v 0) rfl (Xu z1.symm) this.2 (Xu (Xy (li [] [_] (.i 1 (.a (.k 0) (.k 1)) (.v 0) .e) 0 (.k 0) (.v 0) rfl this.1)))⟩
theorem ĳ.Rn(S:ĳ m x)(hz:x.made<=290):dK x:=by have z1:=S.lg;have z2:=S.m0;exact⟨S.ls,by exact ln [_] [_] (.i 1 (.v 0) (.k 290) (.i 1 (.n (.v 0)) (.a (.v 0) (.k 1)) .e)) 0 (.v 0) (.k 300) rfl hz (Xu z1),λ q hq=>⟨(S.two q hq).1,λ a ha=>by have z3:=(S.two q hq).2 a ha;exact⟨z3.1,by exact ln [_,_] [_,_] (.i 1 (.a (.v 0) (.k 1)) (.n (.v 0)) (.i 1 (.v 1) (.v 0) (.i 1 (.n (.v 1)) (.v 1) .e))) 0 (.a (.v 1) (.k 1)) (.v 0) rfl (Xu z1.symm) z3.2 (Xu (Xy (z3.1)))⟩⟩⟩
theorem ĳ.root(S:ĳ m x)(N:((Æ m.q).map (·.1)).Nodup){z:Nat×List Int}(hz:z∈Æ m.q){v:Int}(hv:v∈z.2):∃c∈x.cells,W m.p.À c.a=v:=by
 refine Gj (aao hv) λ j hj=>?_;rintro rfl;refine gV (S.o7 z hz j hj) λ c hc e1 e2=>?_;refine xk (S.gZ c hc) λ _ _ vs U h2=>?_
 have:vs=z.2:=by
  have:∀L:List (Nat×List Int),(L.map (·.1)).Nodup->∀p∈L,∀q∈L,p.1=q.1->p=q:=by
   intro L hL
   induction L with
   |nil=>intro p hp;cases hp
   |cons a L ih=>
    rw[Yd,X0]at hL;intro p hp q hq e;rcases XE.mp hp with yL|yL<;>rcases XE.mp hq with yM|yM
    ·rw[yL,yM]
    ·subst yL;exact absurd (Xx.mpr ⟨q,yM,e.symm⟩) hL.1
    ·subst yM;exact absurd (Xx.mpr ⟨p,yL,e⟩) hL.1
    ·exact ih hL.2 p yL q yM e
  have:=this _ N _ U _ hz e1;rw[<-this]
 subst this;refine⟨c,hc,?_⟩;rw[e2]at h2;simp[hj]at h2;exact h2.symm
theorem ĳ.TQ(S:ĳ m x)(O:dp m.p){g:Int}{P Q:Int->Prop}(U:∀v,P v->v≠0->∃a,Q a/\Kn x a/\W m.p.À a=v)(h2:∀t∈m.p.À,t.gn<=g->Q t.sr->P t.ad)(h3:∀a,Q a->Kn x a):
  (∀t∈m.p.À,cN m.p.À g P t.ad↔LR x g Q t.sr)/\∀a,LR x g Q a->a∈x.live:=by
 have f:∀v,cN m.p.À g P v->∀t∈m.p.À,t.ad=v->LR x g Q t.sr:=by
  intro v h
  induction h with
  |@ź a y h h0 hy e hg=>
   rintro t ht rfl;obtain rfl:=O.T.inj hy ht e;refine gV (U _ h h0) λ b q1 q2 q3=>?_;obtain rfl:=S.inj O q2 ht q3;have:=S.rg _ (S.lv ht);exact .ź q1 this.1 ((S.th y ht).2.1▸hg)
  |@step a b y z hb hz ez mZ h0 hy e hg ih=>
   rintro t ht rfl;obtain rfl:=O.T.inj hy ht e;refine ot (S.th z hz) λ _ _ b0 b1 q1 q2 q3 q4 q5=>?_;have:=S.rg _ (S.lv ht);refine .step (ih z hz ez) ?_ this.1 ((S.th y ht).2.1▸hg);rw[q1];rcases mZ with mZ|mZ
   ·rw[S.inj O q2 ht (q4.symm^mZ.symm)];exact mg 0 rfl
   ·rw[S.inj O q3 ht (q5.symm^mZ.symm)];exact mg 1 rfl
 have b:∀a,LR x g Q a->∃t∈m.p.À,t.sr=a/\cN m.p.À g P t.ad:=by
  intro a h
  induction h with
  |@ź a q1 q2 q3=>
   refine gV (S.get ((h3 a q1).resolve_left (by exact Yz q2))) λ t ht=>?_;rintro rfl _;have hg:t.gn<=g:=(S.th t ht).2.1▸q3;have:=O.T.ù t ht;exact⟨t,ht,rfl,.ź (h2 t ht hg q1) (by exact Yz (Yo (by decide) this.1)) ht rfl hg⟩
  |@step a c hc q1 q2 q3 ih=>
   refine gV ih λ u hu=>?_;rintro rfl hr;refine ot (S.th u hu) λ _ _ b0 b1 e1 e2 e3 e4 e5=>?_;rw[e1]at q1
   have hk:Kn x a:=by
    simp only[XE,Yh,ZP]at q1;rcases q1 with rfl|rfl
    ·exact e2
    ·exact e3
   refine gV (S.get (hk.resolve_left (by exact Yz q2))) λ t ht=>?_;rintro rfl ew;have hg:t.gn<=g:=(S.th t ht).2.1▸q3;have:=O.T.ù t ht;refine⟨t,ht,rfl,.step hr hu rfl ?_ (by exact Yz (Yo (by decide) this.1)) ht rfl hg⟩;simp only[XE,Yh,ZP]at q1;rcases q1 with q1|q1
   ·exact .inl (by rw[e4,<-q1,ew])
   ·exact .inr (by rw[e5,<-q1,ew])
 refine⟨λ t ht=>⟨λ h=>f _ h t ht rfl,λ h=>?_⟩,λ a h=>?_⟩
 ·refine gV (b _ h) λ u hu e hr=>?_
  have:u=t:=by have:=S.ia hu;rw[e,S.ia ht]at this;exact O.T.inj hu ht this.symm
  exact this▸hr
 ·refine gV (b _ h) λ u hu=>?_;rintro rfl _;exact S.lv hu
theorem ĳ.Xk(S:ĳ m x)(O:dp m.p)(N:((Æ m.q).map (·.1)).Nodup){g:Int}:(∀v,gj m.p (Æ m.q) g v->v≠0->∃a,a∈ê x g/\Kn x a/\W m.p.À a=v)/\(∀t∈m.p.À,t.gn<=g->t.sr∈ê x g->gj m.p (Æ m.q) g t.ad)/\∀a∈ê x g,Kn x a:=by
 have old:∀t∈m.p.À,g<t.gn->∀b∈lz x t.sr,b∈ê x g:=λ t ht hg b hb=>
  Xw _ (XX.mpr ⟨t.sr,XG.mpr ⟨S.lv ht,by simpa using(S.th t ht).2.1▸hg⟩,hb⟩)
 refine⟨?_,?_,?_⟩
 ·rintro v (⟨z,hz,hv⟩|hv|⟨hg,t,ht,yE,hv⟩) h0
  ·refine dQ (S.root N hz hv) λ c hc e=>?_;exact⟨c.a,Xo _ (Xw _ (Xx.mpr ⟨c,hc,rfl⟩)),(S.gZ c hc).2.1,e⟩
  ·rw[S.Ì]at hv;refine dQ (Xx.mp hv) λ a ha=>?_;rintro rfl;exact⟨a,Xo _ (Xo _ ha),.inr (S.og a ha).1,rfl⟩
  ·refine ot (S.th t ht) λ _ _ b0 b1 e1 e2 e3 e4 e5=>?_;have Ro:g<t.gn:=by unfold lY at yE;simp at yE;exact yE.1
   have:=old t ht Ro;rw[e1]at this;rcases hv with hv|hv
   ·exact⟨b0,this b0 (by exact mg 0 rfl),e2,e4.symm^hv.symm⟩
   ·exact⟨b1,this b1 (by exact mg 1 rfl),e3,e5.symm^hv.symm⟩
 ·intro t ht hg h;unfold ê at h;rcases XC.mp h with h|h
  ·rcases XC.mp h with h|h
   ·exact .inr (.inl (by rw[S.Ì,<-S.ia ht];exact Xx.mpr ⟨_,h,rfl⟩))
   ·refine dQ (Xx.mp h) λ c hc e=>?_;refine xk (S.gZ c hc) λ _ _ vs U h2=>?_;exact .inl ⟨_,U,by rw[<-S.ia ht,<-e];exact Xt h2⟩
  ·refine dQ (XX.mp h) λ b hb mZ=>?_;obtain⟨J6,Oa⟩:=XG.mp hb;refine gV (S.get J6) λ u hu=>?_;rintro rfl _;refine ot (S.th u hu) λ _ eg b0 b1 e1 e2 e3 e4 e5=>?_;have Ob:g<u.gn:=by rw[eg];exact XA Oa
   have Xl:=O.o6 u hu
   have hv:t.ad=u.a0\/t.ad=u.a1:=by
    rw[e1]at mZ;simp only[XE,Yh,ZP]at mZ;rcases mZ with mZ|mZ
    ·exact .inl (by rw[e4,<-mZ,S.ia ht])
    ·exact .inr (by rw[e5,<-mZ,S.ia ht])
   have qJ:yr m.p.À u.gn t.ad=true:=by
    have:=O.T.ù t ht;have h0:¬t.ad=0:=by exact Yz (Yo (by decide) this.1)
    have gk:t.gn<u.gn:=by exact ZV hg Ob
    simp[yr,h0,Ņ O.T ht,gk]
   have hrt:=O.o6 t ht;have hc:=O.o7 u hu (by exact li [] [_,_,_] (.i 1 (.v 0) (.v 1) (.i 1 (.a (.v 1) (.k 1)) (.v 2) (.i 1 (.k 0) (.v 0) .e))) 0 (.a (.k 0) (.k 1)) (.v 2) rfl hg Ob hrt.1) (by rcases hv with hv|hv<;>rw[<-hv]<;>simp[qJ]);exact .inr (.inr ⟨by exact Yo Ob Xl.2,u,hu,by simp[lY,Ob,hc],hv⟩)
 ·intro a h;unfold ê at h;rcases XC.mp h with h|h
  ·rcases XC.mp h with h|h
   ·exact .inr (S.og a h).1
   ·refine dQ (Xx.mp h) λ c hc=>?_;rintro rfl;exact(S.gZ c hc).2.1
  ·refine dQ (XX.mp h) λ b hb mZ=>?_;refine gV (S.get (XG.mp hb).1) λ u hu=>?_;rintro rfl _;refine ot (S.th u hu) λ _ eg b0 b1 e1 e2 e3 e4 e5=>?_;rw[e1]at mZ;simp only[XE,Yh,ZP]at mZ;rcases mZ with rfl|rfl
   ·exact e2
   ·exact e3
end
theorem tU{À:List È}(T:ď À){g:Int}{t:È}(ht:t∈À):dead À ms g t.ad=(decide (t.gn<=g)&&!decide (t.ad∈ms)):=by unfold dead;rw[Ņ T ht]
theorem ĺ{α β:Type}(f:α->β)(p:β->Bool)(q:α->Bool)(l:List α)(h:∀a∈l,p (f a)=q a):(l.map f).filter p=(l.filter q).map f:=by
 rw[List.filter_map]
 congr 1
 exact YS h
theorem yN{m m':Mc}{x x':Wd}{g:Int}{å ms F1 F2:List Int}(S:ĳ m x)(O:dp m.p)(N:((Æ m.q).map (·.1)).Nodup)(hrw:∀r∈m.rows,r.2.1=1\/r.2.1=2)(hg:0<=g)(C:Fd m m' g å ms)(L:tT x x' g F1 F2):ĳ m' x':=by
 have T:=O.T;refine Ks L.e λ r1 r2 r3 cU eB B=>?_;obtain⟨hd,hq⟩:=C.q;refine O5 (S.Xk O N (g:=g)) λ p1 p2 p3=>?_;obtain⟨R1,R1l⟩:=S.TQ O p1 p2 p3;have m0:∀t∈m.p.À,t.ad∈å↔t.sr∈F1:=λ t ht=>by rw[C.m0,L.f1];exact R1 t ht
 have dd:∀t∈m.p.À,dead m.p.À å g t.ad=(decide (ą x t.sr<=g)&&!decide (t.sr∈F1)):=λ t ht=>by rw[tU T ht,(S.th t ht).2.1,ZI.mpr (m0 t ht)]
 have dl:∀a∈x.live,dead m.p.À å g (W m.p.À a)=(decide (ą x a<=g)&&!decide (a∈F1)):=λ a ha=>by refine gV (S.get ha) λ t ht=>?_;rintro rfl e;rw[e];exact dd t ht
 have lst:m.p.fin.filter (dead m.p.À å g)=(Î x g F1).map (W m.p.À):=by rw[S.fin];exact ĺ _ _ _ _ (λ a ha=>dl a (S.o_ a ha).1)
 have Hb:∀a,a∈Î x g F1->a∈x.fin:=λ a ha=>(XG.mp ha).1
 have q1:∀v,(gj m.p (Æ m.q) g v\/v∈m.p.fin.filter (dead m.p.À å g))->v≠0->∃a,a∈ê x g++Î x g F1/\Kn x a/\W m.p.À a=v:=by
  rintro v (h|h) h0
  ·refine dQ (p1 v h h0) λ a U h2=>?_;exact⟨a,Xo _ U,h2⟩
  ·rw[lst]at h;refine dQ (Xx.mp h) λ a ha=>?_;rintro rfl;exact⟨a,Xw _ ha,.inr (S.o_ a (Hb a ha)).1,rfl⟩
 have q2:∀t∈m.p.À,t.gn<=g->t.sr∈ê x g++Î x g F1->(gj m.p (Æ m.q) g t.ad\/t.ad∈m.p.fin.filter (dead m.p.À å g)):=by
  intro t ht Ro h;rcases XC.mp h with h|h
  ·exact .inl (p2 t ht Ro h)
  ·exact .inr (by rw[lst,<-S.ia ht];exact Xx.mpr ⟨_,h,rfl⟩)
 have q3:∀a,a∈ê x g++Î x g F1->Kn x a:=λ a ha=>by
  rcases XC.mp ha with ha|ha
  ·exact p3 a ha
  ·exact .inr (S.o_ a (Hb a ha)).1
 obtain⟨R2,R2l⟩:=S.TQ O q1 q2 q3;have mm:∀t∈m.p.À,t.ad∈ms↔t.sr∈F2:=λ t ht=>by rw[C.m1,L.f2];exact R2 t ht
 have F2l:∀a∈F2,a∈x.live:=λ a ha=>R2l a ((L.f2 a).mp ha)
 have F2g:∀a∈F2,ą x a<=g:=λ a ha=>by
  cases (L.f2 a).mp ha with
  |ź _ _ h=>exact h
  |step _ _ _ h=>exact h
 have w3:∀t∈m.p.À,kp g ms t=(decide (g<ą x t.sr)||decide (t.sr∈F2)):=λ t ht=>by unfold kp;rw[(S.th t ht).2.1,ZI.mpr (mm t ht)]
 have cl:=fun(t:È) (ht:t∈m.p.À) hk b hb h0=>lZ O (g:=g) (x:=t) C.m1 (λ x hx hg yE=>⟨.inl (.inr (.inr ⟨hg,x,hx,yE,.inl rfl⟩)),.inl (.inr (.inr ⟨hg,x,hx,yE,.inr rfl⟩))⟩) ht hk (b:=b) hb h0;generalize hl:Ķ m.p g ms=l at*;have Hc:m'.p.À=(m.p.À.filter (kp g ms)).map (GY m.p g ms):=C.À;have Oc:∀t,(GY m.p g ms t).sr=t.sr:=λ _=>rfl;have Cm:x'.live=x.live.filter (λ a=>decide (g<ą x a)||decide (a∈F2)):=by rw[eB]
 have yO:m'.p.À.map (·.sr)=x'.live:=by rw[Hc,X5,Cm,<-S.live];exact(ĺ (λ t:È=>t.sr) (λ a=>decide (g<ą x a)||decide (a∈F2)) (kp g ms) m.p.À (λ t ht=>(w3 t ht).symm)).symm
 have Lp:x'.live.Nodup:=by rw[Cm];exact S.nd.sublist aap
 have Rp:∀a∈x'.live,0<a/\a<=x.made:=λ a ha=>by rw[Cm]at ha;exact S.rg a (XG.mp ha).1
 have Rq:∀t∈m.p.À,kp g ms t=true->W m'.p.À t.sr=mv l t.ad:=by
  intro t ht hk;have hm:GY m.p g ms t∈m'.p.À:=by rw[Hc];exact Xx.mpr ⟨t,XG.mpr ⟨ht,hk⟩,rfl⟩
  have:=Mine.Z.ia (À:=m'.p.À) (yO▸Lp) (λ u hu=>by have:=Rp u.sr (yO▸Xx.mpr ⟨u,hu,rfl⟩);exact Yz (Yo (by decide) this.1)) hm;rw[Oc]at this;rw[this,<-hl];exact yD O ht hk
 have W':∀a,Kn x a->(a∈x.live->g<ą x a\/a∈F2)->W m'.p.À a=mv l (W m.p.À a):=by
  rintro a (rfl|ha) h
  ·rw[By,By,<-hl];exact(mY O).symm
  ·refine gV (S.get ha) λ t ht=>?_;rintro rfl e;rw[e];exact Rq t ht (by rw[w3 t ht];simpa using h ha)
 have J7:∀a,Kn x a->(a∈x.live->g<ą x a\/a∈F2)->Kn x' a:=by
  rintro a (rfl|ha) h
  ·exact .inl rfl
  ·exact .inr (by rw[Cm];exact XG.mpr ⟨ha,by simpa using h ha⟩)
 have yP:∀a,a∈ê x g++Î x g F1->a∈x.live->g<ą x a\/a∈F2:=by
  intro a ha Fi;by_cases h:g<ą x a
  ·exact .inl h
  ·have:=S.rg a Fi;exact .inr ((L.f2 a).mpr (.ź ha this.1 (by exact Yc.mp h)))
 have Rr:∀a,a∈F1->a∈F2:=by
  intro a ha;rw[L.f2];have:=(L.f1 a).mp ha;clear ha
  induction this with
  |ź U h2 h3=>exact .ź (Xo _ U) h2 h3
  |step _ U h2 h3 ih=>exact .step ih U h2 h3
 have kO:∀a,lB x' a=lB x a:=λ a=>by rw[eB];rfl
 have sO:∀a,lz x' a=lz x a:=λ a=>by rw[eB];rfl
 have gO:∀a,a∈x.live->ą x' a=if a∈F2 then min 2 (ą x a+1)else ą x a:=λ a ha=>by
  have:ą x' a=cU.getD a.toNat 0:=by rw[eB];rfl
  rw[this];exact B.at_ a (S.Fh (.inr ha))
 have rl:Æ m'.q=(Æ m.q).map λ z=>(z.1,z.2.map (mv l)):=by rw[hq];exact j3 _ _ _
 have Hd:x'.fin=x.fin.filter (λ a=>!decide (a∈Î x g F1)):=by rw[eB]
 have He:x'.Ì=x.Ì++Î x g F1:=by rw[eB]
 have Lq:x'.rows=(x.rows.map (wk x 0 g F1)).map (wk x 1 g F2):=by rw[eB]
 have Ĳ:∀a∈x.fin,(!dead m.p.À å g (W m.p.À a))=!decide (a∈Î x g F1):=λ a ha=>by
  rw[dl a (S.o_ a ha).1]
  have:decide (a∈Î x g F1)=(decide (ą x a<=g)&&!decide (a∈F1)):=by rw[Ze];unfold Î;simp only[XG,ha,true_and,YT]
  rw[this]
 have fk:∀a∈x'.fin,a∈x.fin/\(a∈x.live->g<ą x a\/a∈F2):=by
  intro a ha;rw[Hd]at ha;obtain⟨U,h2⟩:=XG.mp ha;refine⟨U,λ _=>?_⟩
  have:¬(ą x a<=g/\a∉F1):=by intro h;have:a∈Î x g F1:=XG.mpr ⟨U,by simp[h.1,h.2]⟩;simp[this]at h2
  by_cases h:g<ą x a
  ·exact .inl h
  ·exact .inr (Rr a (YF λ h3=>this ⟨by exact Yc.mp h,h3⟩))
 have rk:∀a∈x'.Ì,(a∈x.Ì\/a∈x.fin)/\(a∈x.live->g<ą x a\/a∈F2):=by
  intro a ha;rw[He]at ha;rcases XC.mp ha with h|h
  ·exact⟨.inl h,yP a (Xo _ (Xo _ (Xo _ h)))⟩
  ·exact⟨.inr (Hb a h),yP a (Xw _ h)⟩
 refine⟨?_,?_,?_,?_,?_,yO,Lp,?_,?_,?_,?_,?_,?_,?_,?_,?_,?_,?_,?_,?_,?_,?_,?_⟩
 ·rw[C.eu,S.eu,eB]
 ·rw[eB];exact S.m0
 ·have:x'.gens=cU:=by rw[eB]
  rw[this,B.len];rw[eB];exact S.lg
 ·have:x'.gens=cU:=by rw[eB]
  rw[this,B.len];rw[eB];exact S.ls
 ·have:x'.gens=cU:=by rw[eB]
  rw[this,B.len];rw[eB];exact S.lk
 ·rw[eB];rw[eB]at Rp;exact Rp
 ·
  intro u hu;rw[Hc]at hu;refine dQ (Xx.mp hu) λ t ht=>?_;rintro rfl;obtain⟨ht,hk⟩:=XG.mp ht;refine ot (S.th t ht) λ e1 e2 b0 b1 e3 e4 e5 e6 e7=>?_
  have kb:∀b,Kn x b->(b=b0\/b=b1)->(b∈x.live->g<ą x b\/b∈F2):=by intro b hb hbb hbl;refine gV (S.get hbl) λ y hy=>?_;rintro rfl ey;have hry:=T.ù y hy;refine gV (cl t ht hk y.ad (by rcases hbb with h|h;(left;rw[e6,<-h,ey]);(right;rw[e7,<-h,ey])) (by exact λ e=>absurd (e▸hry.1) (by decide))) λ z hz ez kz=>?_;obtain rfl:=T.inj hz hy ez;rw[w3 z hz]at kz;simpa using kz
  refine⟨?_,?_,b0,b1,?_,J7 _ e4 (kb _ e4 (.inl rfl)),J7 _ e5 (kb _ e5 (.inr rfl)),?_,?_⟩
  ·rw[kO,Oc];exact e1
  ·rw[Oc,GZ,gO _ (S.lv ht)];unfold J2 ng;have hr:=O.o6 t ht;rw[w3 t ht]at hk;rw[e2]at hr ⊢;by_cases U:g<ą x t.sr
   ·have:t.sr∉F2:=λ h=>by have:=F2g _ h;exact Int.lt_irrefl _ (Yo U this)
    rw[XR U,XW this]
   ·have:t.sr∈F2:=by simpa[U]using hk
    rw[XW U,XR this];exact mn hr.2
  ·rw[sO,Oc];exact e3
  ·rw[W' _ e4 (kb _ e4 (.inl rfl)),<-e6,<-hl];rfl
  ·rw[W' _ e5 (kb _ e5 (.inr rfl)),<-e7,<-hl];rfl
 ·rw[eB];exact S.so
 ·rw[eB];exact S.two
 ·rw[C.fin,hl,S.fin,Hd,ĺ (W m.p.À) (λ a=>!dead m.p.À å g a) _ _ Ĳ,X5];refine Yt λ a ha=>?_;obtain⟨U,h2⟩:=fk a (by rw[Hd];exact ha);exact(W' a (.inr (S.o_ a U).1) h2).symm
 ·intro a ha;obtain⟨U,h2⟩:=fk a ha;have:=S.o_ a U;exact⟨(J7 a (.inr this.1) h2).resolve_left (by have:=S.rg a this.1;exact Yz (Yo (by decide) this.1)),by rw[kO];exact this.2⟩
 ·rw[C.Ì,hl,S.Ì,lst,He,<-XF,X5];refine Yt λ a ha=>?_;obtain⟨U,h2⟩:=rk a (by rw[He];exact ha);exact(W' a (.inr (U.elim (λ h=>(S.og a h).1) (λ h=>(S.o_ a h).1))) h2).symm
 ·intro a ha;obtain⟨U,h2⟩:=rk a ha;have:=U.elim (S.og a) (S.o_ a);exact⟨(J7 a (.inr this.1) h2).resolve_left (by have:=S.rg a this.1;exact Yz (Yo (by decide) this.1)),by rw[kO];exact this.2⟩
 ·
  have key:∀(M:List Row) (X:List Row),M.map (λ r=>(r.2.1,r.2.2))=X.map (λ r=>(r.2.1+1,W m.p.À r.2.2))->(∀r∈X,(r.2.1=0\/r.2.1=1)/\Kn x r.2.2)->(M.map λ r=>(r.2.1,mv l (gY m.p.À ms g 2 (r.1,r.2.1,gY m.p.À å g 1 r))))=X.map λ r=>(r.2.1+1,W m'.p.À (wk x 1 g F2 (wk x 0 g F1 r)).2.2):=by
   intro M
   induction M with
   |nil=>intro X h _;cases X with
    |nil=>rfl
    |cons a X=>simp at h
   |cons r M ih=>
    intro X h hX;cases X with
    |nil=>simp at h
    |cons q X=>
     simp only[Yd,Zs,abf]at h ⊢;obtain⟨⟨U,h2⟩,h3⟩:=h;refine⟨⟨U,?_⟩,ih X h3 (λ r hr=>hX r (XM _ hr))⟩;obtain⟨hs,hk⟩:=hX q (by exact mg 0 rfl);have z0:mv l 0=W m'.p.À 0:=by rw[By,<-hl];exact mY O
     have d2:∀a∈x.live,dead m.p.À ms g (W m.p.À a)=(decide (ą x a<=g)&&!decide (a∈F2)):=λ a ha=>by refine gV (S.get ha) λ t ht=>?_;rintro rfl e;rw[e,tU T ht,(S.th t ht).2.1,ZI.mpr (mm t ht)]
     rcases hk with hk|hk
     ·have Ru:r.2.2=0:=by rw[h2,hk,By]
      have c1:gY m.p.À å g 1 r=0:=by unfold gY;simp[Ru]
      have c2:gY m.p.À ms g 2 (r.1,r.2.1,gY m.p.À å g 1 r)=0:=by rw[c1];unfold gY;simp
      have w1:(wk x 0 g F1 q).2.2=0:=by unfold wk;simp[hk]
      have w2:(wk x 1 g F2 (wk x 0 g F1 q)).2.2=0:=by
       have:(wk x 1 g F2 (wk x 0 g F1 q)).2.2=if (wk x 0 g F1 q).2.1=1/\ą x (wk x 0 g F1 q).2.2<=g/\(wk x 0 g F1 q).2.2∉F2 then 0 else (wk x 0 g F1 q).2.2:=rfl
       rw[this,w1];simp
      rw[c2,w2];exact z0
     ·have wX:r.2.2≠0:=by
       refine gV (S.get hk) λ t ht _ e=>?_;have:=T.ù t ht;rw[h2,e];exact λ q0=>lL [] [_] (.i 1 (.k 16) (.v 0) (.i 1 (.v 0) (.k 0) .e)) rfl this.1 (Xu q0)
      have D1:=dl _ hk;have D2:=d2 _ hk;rw[<-h2]at D1 D2;have Lr:∀F k,(wk x k g F q)=(q.1,q.2.1,if q.2.1=k/\ą x q.2.2<=g/\q.2.2∉F then 0 else q.2.2):=λ _ _=>rfl;have Ls:(g<ą x q.2.2\/q.2.2∈F2)->mv l r.2.2=W m'.p.À q.2.2:=λ h=>by rw[h2];exact(W' _ (.inr hk) (λ _=>h)).symm
      rcases hs with hs|hs
      ·
       have Lu:r.2.1=1:=by exact Yw (li [] [_,_] (.i 1 (.v 0) (.a (.v 1) (.k 1)) (.i 1 (.v 1) (.k 0) .e)) 0 (.v 0) (.k 1) rfl (Xu U) (Xu hs)) (li [] [_,_] (.i 1 (.a (.v 0) (.k 1)) (.v 1) (.i 1 (.k 0) (.v 0) .e)) 0 (.k 1) (.v 1) rfl (Xu U.symm) (Xu hs.symm))
       have c2:∀v,gY m.p.À ms g 2 (r.1,r.2.1,v)=v:=λ v=>by unfold gY;exact Lu▸rfl
       have w2:∀v,(wk x 1 g F2 (q.1,q.2.1,v)).2.2=v:=λ v=>by unfold wk;exact hs.symm▸rfl
       rw[c2,Lr,w2];unfold gY;by_cases vm:ą x q.2.2<=g/\q.2.2∉F1
       ·rw[XR ⟨Lu,wX,by rw[D1];simp[vm.1,vm.2]⟩,XR ⟨hs,vm⟩];exact z0
       ·rw[XW (λ h=>vm (by have:=h.2.2;rw[D1]at this;simpa using this)),XW (λ h=>vm h.2)];refine Ls ?_;by_cases h:g<ą x q.2.2
        ·exact .inl h
        ·exact .inr (Rr _ (YF λ h3=>vm ⟨by exact Yc.mp h,h3⟩))
      ·have Lu:r.2.1=2:=by exact Yw (li [] [_,_] (.i 1 (.v 0) (.a (.v 1) (.k 1)) (.i 1 (.v 1) (.k 1) .e)) 0 (.v 0) (.k 2) rfl (Xu U) (Xu hs)) (li [] [_,_] (.i 1 (.a (.v 0) (.k 1)) (.v 1) (.i 1 (.k 1) (.v 0) .e)) 0 (.k 2) (.v 1) rfl (Xu U.symm) (Xu hs.symm))
       have c1:gY m.p.À å g 1 r=r.2.2:=by unfold gY;rw[XW (by rw[Lu];intro h;exact absurd h.1 (by decide))]
       have w1:wk x 0 g F1 q=q:=by rw[Lr,XW (by rw[hs];intro h;exact absurd h.1 (by decide))]
       rw[c1,w1,Lr];unfold gY;by_cases vm:ą x q.2.2<=g/\q.2.2∉F2
       ·rw[XR ⟨Lu,wX,by simp only;rw[D2];simp[vm.1,vm.2]⟩,XR ⟨hs,vm⟩];exact z0
       ·rw[XW (λ h=>vm (by have:=h.2.2;simp only at this;rw[D2]at this;simpa using this)),XW (λ h=>vm h.2)];refine Ls ?_;by_cases h:g<ą x q.2.2
        ·exact .inl h
        ·exact .inr (YF λ h3=>vm ⟨by exact Yc.mp h,h3⟩)
  have:=key m.rows x.rows S.rows S.Ck;rw[C.rows,hl,Lq];simpa[ra,Z3,wk]using this
 ·intro r hr;rw[Lq]at hr;refine dQ (Xx.mp hr) λ r' hr'=>?_;rintro rfl;refine dQ (Xx.mp hr') λ q hq'=>?_;rintro rfl;obtain⟨U,h2⟩:=S.Ck q hq';refine⟨U,?_⟩;have wq:(wk x 1 g F2 (wk x 0 g F1 q)).2.2=if q.2.1=1/\ą x (wk x 0 g F1 q).2.2<=g/\(wk x 0 g F1 q).2.2∉F2 then 0 else (wk x 0 g F1 q).2.2:=rfl
  have Lr:(wk x 0 g F1 q).2.2=if q.2.1=0/\ą x q.2.2<=g/\q.2.2∉F1 then 0 else q.2.2:=rfl
  rw[wq];split
  ·exact .inl rfl
  ·rename_i hn;rw[Lr]at hn ⊢;split
   ·exact .inl rfl
   ·rename_i TR;rw[XW TR]at hn;refine J7 _ h2 (λ _=>?_);by_cases h:g<ą x q.2.2
    ·exact .inl h
    ·right;rcases U with U|U
     ·exact Rr _ (YF λ h3=>TR ⟨U,by exact Yc.mp h,h3⟩)
     ·exact YF λ h3=>hn ⟨U,by exact Yc.mp h,h3⟩
 ·intro c hc;have hc:c∈x.cells:=by rw[eB]at hc;exact hc
  refine xk (S.gZ c hc) λ U h2 vs h3 h4=>?_;have hk:=yP c.a (Xo _ (Xo _ (Xw _ (Xx.mpr ⟨c,hc,rfl⟩))));refine⟨U,J7 _ h2 hk,vs.map (mv l),?_,?_⟩
  ·rw[rl];exact Xx.mpr ⟨_,h3,rfl⟩
  ·rw[X3,h4,W' _ h2 hk];rfl
 ·intro z hz j hj;rw[rl]at hz;refine dQ (Xx.mp hz) λ z0 Rv=>?_;rintro rfl;rw[eB];exact S.o7 z0 Rv j (by simpa using hj)
 ·rw[eB];exact S.pos
 ·rw[eB,hq];exact S.bP
 ·rw[eB,hq];exact S.run
 ·rw[hq];exact S.Ŗ
section
variable{s:St}{m:Mc}{x x':Wd}{r:Nat}{o o':O}
end
def Wh(m:Mc)(x:Wd):Prop:=x.wh=ņ m.p.À
theorem gm{m:Mc}{x:Wd}(S:ĳ m x):(ņ m.p.À).map (·.1)=0::x.live:=by rw[<-S.live];simp[ņ,Z3]
theorem Hf{m:Mc}{x:Wd}(S:ĳ m x):((ņ m.p.À).map (·.1)).Nodup:=by rw[gm S];exact X0.mpr ⟨λ h=>by have:=S.rg 0 h;exact absurd this.1 (by decide),S.nd⟩
def i7(q:Sh)(l:Nat)(vs:List Int):Sh:={q with à:=q.à.map (λ f=>{f with as:=if f.ar=l then vs else f.as,ls:=if f.lo=l then vs else f.ls}),ss:=if q.sc=l then vs else q.ss}
theorem vo{q:Sh}{l:Nat}{vs:List Int}(h:∀z∈Æ q,z.1=l->z.2≠[]):Æ (i7 q l vs)=(Æ q).map λ z=>if z.1=l then (z.1,vs)else z:=by
 unfold Æ at h ⊢;rw[XF];have U:∀z∈q.à.flatMap dJ,z.1=l->z.2≠[]:=λ z hz=>h z (Xo _ hz);have h2:=h (q.c 154,[]) (by simp);have h3:=h (q.c 158,[]) (by simp)
 congr 1
 ·show(List.map _ q.à).flatMap dJ=_;clear h h2 h3;generalize q.à=L at U
  induction L with
  |nil=>rfl
  |cons f L ih=>
   rw[Yd,Yf,Yf,XF,ih (λ z hz=>U z (by rw[Yf];exact Xw _ hz))]
   congr 1
   have g:=λ z hz=>U z (by rw[Yf];exact Xo _ hz);have g1:¬f.st=l:=λ e=>g (f.st,[]) (by exact mg 2 rfl) e rfl;have g2:¬f.ke=l:=λ e=>g (f.ke,[]) (by exact mg 3 rfl) e rfl;have g3:¬f.cv=l:=λ e=>g (f.cv,[]) (by exact mg 4 rfl) e rfl;simp only[dJ,Yd,aa1,g1,g2,g3,aax]
   congr 1
   ·split<;>simp_all
   ·congr 1;split<;>simp_all
 ·have g2:¬q.c 154=l:=λ e=>h2 e rfl;have g3:¬q.c 158=l:=λ e=>h3 e rfl;simp only[i7,Yd,aa1,g2,g3,aax]
  congr 1;split<;>simp_all
theorem aQ:∀{L:List (Nat×List Int)},(L.map (·.1)).Nodup->∀p∈L,∀q∈L,p.1=q.1->p=q:=by
 intro L hL
 induction L with
 |nil=>intro p hp;exact nm hp
 |cons a L ih=>
  rw[Yd,X0]at hL;intro p hp q hq e;rcases XE.mp hp with yL|yL<;>rcases XE.mp hq with yM|yM
  ·rw[yL,yM]
  ·subst yL;exact absurd (Xx.mpr ⟨q,yM,e.symm⟩) hL.1
  ·subst yM;exact absurd (Xx.mpr ⟨p,yL,e⟩) hL.1
  ·exact ih hL.2 p yL q yM e
def ji(x:Wd):Nat:=x.bW.length - x.at_.toNat
def ġ(x:Wd):Nat:=x.made.toNat+x.rows.length+x.fin.length+x.Ì.length+x.bP.length+x.runs.toNat+7*ji x
theorem eU{x:Wd}(h:ġ x<=252):x.made.toNat<=252/\x.rows.length<=252/\x.fin.length<=252/\x.Ì.length<=252/\x.bP.length<=252/\x.runs.toNat<=252/\ji x<=36:=by unfold ġ at h;exact⟨ln [_,_,_,_,_,_,_] [] (.c 1 (.a (.a (.a (.a (.a (.a (.v 0) (.v 1)) (.v 2)) (.v 3)) (.v 4)) (.v 5)) (.m 7 (.v 6))) (.k 252) .e) 0 (.v 0) (.k 252) rfl h,⟨ln [_,_,_,_,_,_,_] [] (.c 1 (.a (.a (.a (.a (.a (.a (.v 0) (.v 1)) (.v 2)) (.v 3)) (.v 4)) (.v 5)) (.m 7 (.v 6))) (.k 252) .e) 0 (.v 1) (.k 252) rfl h,⟨ln [_,_,_,_,_,_,_] [] (.c 1 (.a (.a (.a (.a (.a (.a (.v 0) (.v 1)) (.v 2)) (.v 3)) (.v 4)) (.v 5)) (.m 7 (.v 6))) (.k 252) .e) 0 (.v 2) (.k 252) rfl h,⟨ln [_,_,_,_,_,_,_] [] (.c 1 (.a (.a (.a (.a (.a (.a (.v 0) (.v 1)) (.v 2)) (.v 3)) (.v 4)) (.v 5)) (.m 7 (.v 6))) (.k 252) .e) 0 (.v 3) (.k 252) rfl h,⟨ln [_,_,_,_,_,_,_] [] (.c 1 (.a (.a (.a (.a (.a (.a (.v 0) (.v 1)) (.v 2)) (.v 3)) (.v 4)) (.v 5)) (.m 7 (.v 6))) (.k 252) .e) 0 (.v 4) (.k 252) rfl h,⟨ln [_,_,_,_,_,_,_] [] (.c 1 (.a (.a (.a (.a (.a (.a (.v 0) (.v 1)) (.v 2)) (.v 3)) (.v 4)) (.v 5)) (.m 7 (.v 6))) (.k 252) .e) 0 (.v 5) (.k 252) rfl h,ln [_,_,_,_,_,_,_] [] (.c 1 (.a (.a (.a (.a (.a (.a (.v 0) (.v 1)) (.v 2)) (.v 3)) (.v 4)) (.v 5)) (.m 7 (.v 6))) (.k 252) .e) 6 (.v 6) (.k 36) rfl h⟩⟩⟩⟩⟩⟩
theorem ĳ.len{m:Mc}{x:Wd}(S:ĳ m x):x.live.length<=x.made.toNat/\m.p.À.length=x.live.length:=by
 refine⟨?_,by rw[<-S.live,Xm]⟩
 have:=jX x.live ((List.range x.made.toNat).map λ i:Nat=>(i:Int)+1) S.nd (λ a ha=>by have:=S.rg a ha;exact Xx.mpr ⟨(a - 1).toNat,ZC.mpr (by exact ln [_,_] [_,_] (.i 1 (.v 0) (.v 1) (.i 1 (.n (.v 0)) (.s (.v 0) (.k 1)) (.i 1 (.v 1) (.n (.v 1)) .e))) 0 (.a (.v 0) (.k 1)) (.v 1) rfl this.2 (Xu (Xy (li [] [_] (.i 1 (.a (.k 0) (.k 1)) (.v 0) .e) 0 (.k 0) (.s (.v 0) (.k 1)) rfl this.1))) (XU _)),by exact Yw (li [_] [_] (.i 1 (.n (.v 0)) (.s (.v 0) (.k 1)) .e) 0 (.a (.n (.v 0)) (.k 1)) (.v 0) rfl (Xu (Xy (li [] [_] (.i 1 (.a (.k 0) (.k 1)) (.v 0) .e) 0 (.k 0) (.s (.v 0) (.k 1)) rfl this.1)))) (li [_] [_] (.i 1 (.s (.v 0) (.k 1)) (.n (.v 0)) .e) 0 (.v 0) (.a (.n (.v 0)) (.k 1)) rfl (XU _))⟩)
 simpa using this
theorem m6{l:List α}{a d:α}{i:Nat}(h:i<l.length):(l++[a]).getD i d=l.getD i d:=by simp[XO,Yp h]
theorem getD_eq{l:List α}{a d:α}{i:Nat}(h:i=l.length):(l++[a]).getD i d=a:=by subst h;simp[XO]
theorem Lv{m:Mc}{x:Wd}(S:ĳ m x)(T:È){a:Int}(h:Kn x a):W (m.p.À++[T]) a=W m.p.À a:=by
 have e:ņ (m.p.À++[T])=ņ m.p.À++[(T.sr,T.ad)]:=by simp[ņ]
 unfold W mv;rw[e,aaL]
 have:((ņ m.p.À).find? λ q=>decide (q.1=a)).isSome=true:=by
  rw[aP,gm S];rcases h with rfl|h
  ·rfl
  ·simp[h]
 obtain⟨z,hz⟩:=X_.mp this;rw[hz];rfl
theorem Lw{m:Mc}{x:Wd}(S:ĳ m x){T:È}(h0:T.sr≠0)(h:T.sr∉x.live):W (m.p.À++[T]) T.sr=T.ad:=by
 have e:ņ (m.p.À++[T])=ņ m.p.À++[(T.sr,T.ad)]:=by simp[ņ]
 unfold W mv;rw[e,aaL]
 have:((ņ m.p.À).find? λ q=>decide (q.1=T.sr))=none:=by
  have:=aP (ņ m.p.À) T.sr;rw[gm S]at this;have h2:T.sr∉0::x.live:=by simp[h0,h]
  rw[XY h2]at this;cases e:(ņ m.p.À).find? λ q=>decide (q.1=T.sr)with
  |none=>rfl
  |some z=>rw[e]at this;exact tf this
 rw[this];simp
theorem yQ{m:Mc}{x:Wd}(S:ĳ m x)(O:dp m.p){T:È}{k b0 b1:Int}{r:Nat}(hk:0<=k/\k<=3)(h0:Kn x b0)(U:Kn x b1)(t1:T.kd=16+k)(t2:T.gn=0)(t3:T.sr=x.made+1)(t4:T.a0=W m.p.À b0)(t5:T.a1=W m.p.À b1)(tp fr:Int)(wh:List (Int×Int)):
  ĳ {m with p:={m.p with À:=m.p.À++[T],top:=tp,à:=fr,eu:=m.p.eu+1,fin:=if k=1 then m.p.fin else m.p.fin++[T.ad]}} {x with made:=x.made+1,sorts:=x.sorts++[k],gens:=x.gens++[0],slots:=x.slots++[(r,[b0,b1])],live:=x.live++[x.made+1],wh:=wh,fin:=if k=1 then x.fin else x.fin++[x.made+1]}:=by
 have hm:=S.m0;have lg:=S.lg;have ls:=S.ls;have lk:=S.lk;have nl:x.made+1∉x.live:=λ h=>by have:=S.rg _ h;exact lL [] [_] (.i 1 (.a (.v 0) (.k 1)) (.v 0) .e) rfl this.2
 have Wn:W (m.p.À++[T]) (x.made+1)=T.ad:=by rw[<-t3];exact Lw S (by exact λ q0=>lL [] [_,_] (.i 1 (.a (.v 0) (.k 1)) (.v 1) (.i 1 (.k 0) (.v 0) (.i 1 (.v 1) (.k 0) .e))) rfl (Xu t3.symm) hm (Xu q0)) (t3▸nl)
 have Wo:=λ a h=>Lv S T (a:=a) h;have il:∀a∈x.live,a.toNat<x.gens.length:=λ a ha=>by have:=S.rg a ha;exact ln [_,_] [_,_] (.i 1 (.a (.v 0) (.k 1)) (.n (.v 0)) (.i 1 (.v 1) (.v 0) (.i 1 (.n (.v 1)) (.v 1) .e))) 0 (.a (.v 1) (.k 1)) (.v 0) rfl (Xu lg.symm) this.2 (Xu (Xy (li [] [_] (.i 1 (.a (.k 0) (.k 1)) (.v 0) .e) 0 (.k 0) (.v 0) rfl this.1)))
 have kn:∀a,Kn x a->a=0\/a∈x.live++[x.made+1]:=λ a h=>h.imp id (λ h=>Xo _ h);have Lx:∀l:List Int,(∀a∈l,a∈x.live)->l.map (W m.p.À)=l.map (W (m.p.À++[T])):=λ l hl=>Yt λ a ha=>(Wo a (.inr (hl a ha))).symm;have Hg:∀a∈x.live,(x.sorts++[k]).getD a.toNat 0=lB x a:=λ a ha=>m6 (by rw[lk];exact il a ha);have sk:x.sorts.length=(x.made+1).toNat:=by exact lg▸lk
 refine⟨?_,?_,?_,?_,?_,?_,?_,?_,?_,?_,?_,?_,?_,?_,?_,?_,?_,?_,?_,S.pos,S.bP,S.run,S.Ŗ⟩
 ·show m.p.eu+1=x.made+1;rw[S.eu]
 ·show 0<=x.made+1;exact li [] [_] (.i 1 (.k 0) (.v 0) .e) 0 (.k 0) (.a (.v 0) (.k 1)) rfl hm
 ·show((x.gens++[0]).length:Int)=x.made+1+1;simp;exact lg
 ·show(x.slots++[(r,[b0,b1])]).length=(x.gens++[0]).length;simp;exact ls
 ·show(x.sorts++[k]).length=(x.gens++[0]).length;simp;exact lk
 ·show(m.p.À++[T]).map (·.sr)=x.live++[x.made+1];rw[XF,S.live];exact t3▸rfl
 ·show(x.live++[x.made+1]).Nodup;refine Yn.mpr ⟨S.nd,by simp,?_⟩;rintro a ha b hb rfl;exact nl ((by simpa using hb:a=x.made+1)▸ha)
 ·intro a ha;show 0<a/\a<=x.made+1;rcases XC.mp ha with ha|ha
  ·have:=S.rg a ha;exact⟨li [] [_] (.i 1 (.a (.k 0) (.k 1)) (.v 0) .e) 0 (.a (.k 0) (.k 1)) (.v 0) rfl this.1,li [] [_,_] (.i 1 (.v 0) (.v 1) .e) 0 (.v 0) (.a (.v 1) (.k 1)) rfl this.2⟩
  ·have:a=x.made+1:=by simpa using ha
   exact⟨li [] [_,_] (.i 1 (.k 0) (.v 0) (.i 1 (.a (.v 0) (.k 1)) (.v 1) .e)) 0 (.a (.k 0) (.k 1)) (.v 1) rfl hm (Xu this.symm),li [] [_,_] (.i 1 (.v 0) (.a (.v 1) (.k 1)) .e) 0 (.v 0) (.a (.v 1) (.k 1)) rfl (Xu this)⟩
 ·intro t ht;rcases XC.mp ht with ht|ht
  ·refine ot (S.th t ht) λ e1 e2 c0 c1 e3 e4 e5 e6 e7=>?_;have hl:=S.lv ht;refine⟨?_,?_,c0,c1,?_,kn _ e4,kn _ e5,by rw[e6];exact(Wo _ e4).symm,by rw[e7];exact(Wo _ e5).symm⟩
   ·show t.kd=16+(x.sorts++[k]).getD t.sr.toNat 0;rw[Hg _ hl];exact e1
   ·show t.gn=(x.gens++[0]).getD t.sr.toNat 0;rw[m6 (il _ hl)];exact e2
   ·show((x.slots++[(r,[b0,b1])]).getD t.sr.toNat (0,[])).2=[c0,c1];rw[m6 (by rw[ls];exact il _ hl)];exact e3
  ·obtain rfl:t=T:=by simpa using ht
   refine⟨?_,?_,b0,b1,?_,kn _ h0,kn _ U,by rw[t4];exact(Wo _ h0).symm,by rw[t5];exact(Wo _ U).symm⟩
   ·show t.kd=16+(x.sorts++[k]).getD t.sr.toNat 0;rw[t3,getD_eq (by exact sk.symm)];exact t1
   ·show t.gn=(x.gens++[0]).getD t.sr.toNat 0;rw[t3,getD_eq (by exact sk▸lk)];exact t2
   ·show((x.slots++[(r,[b0,b1])]).getD t.sr.toNat (0,[])).2=[b0,b1];rw[t3,getD_eq (by exact Yq (ln [_,_,_,_] [] (.c 1 (.v 0) (.v 1) (.c 1 (.v 2) (.v 0) (.c 1 (.v 3) (.v 2) .e))) 0 (.v 3) (.v 1) rfl (XB ls.symm) (XB lk) (XB sk.symm)) (ln [_,_,_,_] [] (.c 1 (.v 0) (.v 1) (.c 1 (.v 1) (.v 2) (.c 1 (.v 2) (.v 3) .e))) 0 (.v 0) (.v 3) rfl (XB ls) (XB lk.symm) (XB sk)))]
 ·intro j hj;rcases XC.mp hj with hj|hj
  ·exact S.so j hj
  ·obtain rfl:j=k:=by simpa using hj
   exact hk
 ·intro q hq;rcases XC.mp hq with hq|hq
  ·obtain⟨a1,a2⟩:=S.two q hq;exact⟨a1,λ a ha=>by have:=a2 a ha;show 0<=a/\a<=x.made+1;exact⟨li [] [_] (.i 1 (.k 0) (.v 0) .e) 0 (.k 0) (.v 0) rfl this.1,li [] [_,_] (.i 1 (.v 0) (.v 1) .e) 0 (.v 0) (.a (.v 1) (.k 1)) rfl this.2⟩⟩
  ·obtain rfl:q=(r,[b0,b1]):=by simpa using hq
   have hb:∀b,Kn x b->0<=b/\b<=x.made+1:=λ b hb=>by
    rcases hb with rfl|hb
    ·exact⟨li [] [] .e 0 (.k 0) (.k 0) rfl,li [] [_] (.i 1 (.k 0) (.v 0) .e) 0 (.k 0) (.a (.v 0) (.k 1)) rfl hm⟩
    ·have:=S.rg b hb;exact⟨li [] [_] (.i 1 (.a (.k 0) (.k 1)) (.v 0) .e) 0 (.k 0) (.v 0) rfl this.1,li [] [_,_] (.i 1 (.v 0) (.v 1) .e) 0 (.v 0) (.a (.v 1) (.k 1)) rfl this.2⟩
   refine⟨by exact XS _,λ a ha=>?_⟩;simp only[XE,Yh,ZP]at ha;rcases ha with rfl|rfl
   ·exact hb _ h0
   ·exact hb _ U
 ·show(if k=1 then m.p.fin else m.p.fin++[T.ad])=(if k=1 then x.fin else x.fin++[x.made+1]).map (W (m.p.À++[T]));have:=Lx x.fin (λ a ha=>(S.o_ a ha).1);split
  ·rw[<-this,S.fin]
  ·rw[XF,<-this,S.fin];exact Wn▸rfl
 ·intro a ha;show a∈x.live++[x.made+1]/\(x.sorts++[k]).getD a.toNat 0≠1
  have old:a∈x.fin->a∈x.live++[x.made+1]/\(x.sorts++[k]).getD a.toNat 0≠1:=λ h=>by obtain⟨U,h2⟩:=S.o_ a h;exact⟨Xo _ U,by rw[Hg a U];exact h2⟩
  have ha:a∈(if k=1 then x.fin else x.fin++[x.made+1]):=ha;split at ha
  ·exact old ha
  ·rename_i hk1;rcases XC.mp ha with ha|ha
   ·exact old ha
   ·obtain rfl:a=x.made+1:=by simpa using ha
    exact⟨by simp,by rw[getD_eq (by exact sk.symm)];exact hk1⟩
 ·show m.p.Ì=x.Ì.map (W (m.p.À++[T]));rw[<-Lx x.Ì (λ a ha=>(S.og a ha).1)];exact S.Ì
 ·intro a ha;obtain⟨U,h2⟩:=S.og a ha;exact⟨Xo _ U,by show(x.sorts++[k]).getD a.toNat 0≠1;rw[Hg a U];exact h2⟩
 ·refine S.rows.trans (Yt λ q hq=>?_);rw[<-Wo _ (S.Ck q hq).2]
 ·intro q hq;exact⟨(S.Ck q hq).1,kn _ (S.Ck q hq).2⟩
 ·intro c hc;refine xk (S.gZ c hc) λ a1 a2 vs a3 a4=>?_;exact⟨a1,kn _ a2,vs,a3,by rw[a4];exact Xq some (Wo _ a2).symm⟩
 ·exact S.o7
section
variable{C:Call}{ρ:Loc}{s s1 s2:St}{e1 e2:E}
end
def eE(m:Mc)(T:È):Mc:={m with p:={m.p with À:=m.p.À++[T],top:=m.p.top+4,à:=m.p.à+4,eu:=m.p.eu+1}}
section
variable{m:Mc}{x:Wd}
theorem ĳ.Rw(S:ĳ m x)(O:dp m.p){a:Int}(h:a∈x.live):W m.p.À a≠0:=by refine gV (S.get h) λ t ht _ e=>?_;have:=O.T.ù t ht;rw[e];exact Yz (Yo (by decide) this.1)
theorem ĳ.Rx(S:ĳ m x)(O:dp m.p){a b:Int}(h:a∈x.live)(hb:b∈x.live):W m.p.À a=W m.p.À b↔a=b:=by refine⟨λ e=>?_,λ e=>by rw[e]⟩;refine gV (S.get hb) λ t ht e1 e2=>?_;rw[e2]at e;exact(S.inj O (.inr h) ht e)^e1
theorem yR(S:ĳ m x)(O:dp m.p){a:Int}(ha:a∈x.live)(r1 r2 r3 r4:Nat):
  ĳ {m with p:={m.p with Œ:=r1,fin:=m.p.fin.filter (λ b=>!decide (b=W m.p.À a)),ŕ:=r2,Ì:=m.p.Ì.filter (λ b=>!decide (b=W m.p.À a))}} {x with Œ:=r3,fin:=x.fin.filter (λ b=>!decide (b=a)),ŕ:=r4,Ì:=x.Ì.filter (λ b=>!decide (b=a))}:=by
 have key:∀l:List Int,(∀b∈l,b∈x.live)->(l.map (W m.p.À)).filter (λ b=>!decide (b=W m.p.À a))=(l.filter λ b=>!decide (b=a)).map (W m.p.À):=λ l hl=>
  ĺ _ _ _ _ λ b hb=>by rw[ZI.mpr (S.Rx O (hl b hb) ha)]
 refine {S with fin:=?_,o_:=?_,Ì:=?_,og:=?_}
 ·show m.p.fin.filter _=_;rw[S.fin];exact key _ λ b hb=>(S.o_ b hb).1
 ·intro b hb;exact S.o_ b (XG.mp hb).1
 ·show m.p.Ì.filter _=_;rw[S.Ì];exact key _ λ b hb=>(S.og b hb).1
 ·intro b hb;exact S.og b (XG.mp hb).1
theorem Cn(S:ĳ m x){a:Int}(ha:a∈x.live)(hk:lB x a≠1):ĳ {m with p:={m.p with fin:=m.p.fin++[W m.p.À a]}} {x with fin:=x.fin++[a]}:=by
 refine {S with fin:=?_,o_:=?_}
 ·show m.p.fin++[W m.p.À a]=(x.fin++[a]).map _;rw[S.fin,XF];rfl
 ·intro b hb;rcases XC.mp hb with hb|hb
  ·exact S.o_ b hb
  ·obtain rfl:b=a:=by simpa using hb
   exact⟨ha,hk⟩
theorem Co(S:ĳ m x)(t:Int):ĳ {m with q:={m.q with bP:=m.q.bP++[t]}} {x with bP:=x.bP++[t]}:=by refine {S with bP:=?_};show x.bP++[t]=m.q.bP++[t];rw[S.bP]
theorem Cp(S:ĳ m x){a z:Int}(ha:Kn x a)(hz:z=0\/z=1)(r r':Nat)(hv:V)(fd:List Nat):ĳ {m with q:={m.q with hv:=hv},rows:=m.rows++[(r,if z=0 then 1 else 2,W m.p.À a)],fd:=fd} {x with rows:=x.rows++[(r',z,a)]}:=by
 refine {S with rows:=?_,Ck:=?_}
 ·show(m.rows++[(r,if z=0 then 1 else 2,W m.p.À a)]).map _=(x.rows++[(r',z,a)]).map _;rw[XF,XF,S.rows];rcases hz with rfl|rfl<;>rfl
 ·intro q hq;rcases XC.mp hq with hq|hq
  ·exact S.Ck q hq
  ·obtain rfl:q=(r',z,a):=by simpa using hq
   exact⟨hz,ha⟩
end
theorem Ly{À:List È}{t:È}{i b:Int}:ņ (eD À t i b)=ņ À:=by unfold ņ;rw[dq (λ t:È=>(t.sr,t.ad)) _ _ _ _ (λ y=>by rw[(Ę y i b).2.2.1,(Ę y i b).2.2.2.2.2])]
theorem vp{m:Mc}{x:Wd}(S:ĳ m x)(O:dp m.p){t:È}(ht:t∈m.p.À){i b:Int}(hi:i=0\/i=1)(hb:Kn x b){q:Nat×List Int}(hq:x.slots[t.sr.toNat]?\q)(ä:List Int):
  ĳ {m with p:={m.p with À:=eD m.p.À t i (W m.p.À b),ä:=ä}} {x with slots:=x.slots.set t.sr.toNat (q.1,q.2.set i.toNat b)}:=by
 have We:∀a,W (eD m.p.À t i (W m.p.À b)) a=W m.p.À a:=λ a=>by unfold W;rw[Ly]
 have hm:∀l:List Int,l.map (W (eD m.p.À t i (W m.p.À b)))=l.map (W m.p.À):=λ l=>Yt λ a _=>We a;have hql:t.sr.toNat<x.slots.length:=by rw[Xv]at hq;exact hq.1
 have sne:∀a,0<=a->a≠t.sr->((x.slots.set t.sr.toNat (q.1,q.2.set i.toNat b)).getD a.toNat (0,[])).2=lz x a:=λ a h0 ha=>by rw[XO,aaj λ e=>ha ((Xy h0).symm.trans ((Xq Nat.cast e.symm)^(Xy (Z1 (S.rg _ (S.lv ht)).1)))),<-XO];rfl
 have seq:((x.slots.set t.sr.toNat (q.1,q.2.set i.toNat b)).getD t.sr.toNat (0,[])).2=q.2.set i.toNat b:=by rw[XO,Zq hql];rfl
 have sq:lz x t.sr=q.2:=by unfold lz;rw[XO,hq];rfl
 refine {S with ls:=?_,live:=?_,th:=?_,two:=?_,fin:=?_,Ì:=?_,rows:=?_,gZ:=?_}
 ·show(x.slots.set _ _).length=_;rw[Zu];exact S.ls
 ·show(eD _ _ _ _).map _=_;rw[dq (λ y:È=>y.sr) _ _ _ _ (λ y=>(Ę y i _).2.2.2.2.2)];exact S.live
 ·intro y hy;refine W6 (jh hy) λ z hz _ _ h=>?_;refine ot (S.th z hz) λ e1 e2 b0 b1 e3 e4 e5 e6 e7=>?_;have Rv:=S.rg _ (S.lv hz);rcases h with⟨rfl,h⟩|⟨rfl,h⟩
  ·refine⟨e1,e2,b0,b1,?_,e4,e5,e6.trans (We _).symm,e7.trans (We _).symm⟩;exact(sne _ (by exact YZ (by decide) Rv.1) (λ e=>h (by rw[<-S.ia hz,<-S.ia ht,e])))^e3
  ·obtain rfl:=O.T.inj hz ht h;have q':=Ę z i (W m.p.À b);rw[sq]at e3
   have Bz:((x.slots.set z.sr.toNat (q.1,q.2.set i.toNat b)).getD z.sr.toNat (0,[])).2=[if i=0 then b else b0,if i=0 then b1 else b]:=by rw[seq,e3];rcases hi with rfl|rfl<;>rfl
   refine⟨by rw[q'.2.2.2.1,q'.2.2.2.2.2];exact e1,by rw[q'.2.2.2.2.1,q'.2.2.2.2.2];exact e2,_,_,by rw[q'.2.2.2.2.2];exact Bz,?_,?_,?_,?_⟩
   ·split;exact hb;exact e4
   ·split;exact e5;exact hb
   ·rw[We];rcases hi with rfl|rfl
    ·rfl
    ·exact e6
   ·rw[We];rcases hi with rfl|rfl
    ·exact e7
    ·rfl
 ·intro p hp;rcases ZM hp with hp|rfl
  ·exact S.two p hp
  ·obtain⟨U,h2⟩:=S.two q (Xt hq);refine⟨by simpa using U,λ a ha=>?_⟩;rcases ZM ha with ha|rfl
   ·exact h2 a ha
   ·rcases hb with rfl|hb
    ·exact⟨X9 _,S.m0⟩
    ·have:=S.rg _ hb;exact⟨by exact Z1 this.1,this.2⟩
 ·show m.p.fin=_;rw[hm];exact S.fin
 ·show m.p.Ì=_;rw[hm];exact S.Ì
 ·refine S.rows.trans (Yt λ q _=>?_);rw[We]
 ·intro c hc;refine xk (S.gZ c hc) λ a1 a2 vs a3 a4=>?_;exact⟨a1,a2,vs,a3,by rw[a4];exact Xq some (We _).symm⟩
def f0(m:Mc):Nat:=(m.q.à.map (·.f)).headD 0
section
variable{s:St}{m:Mc}{x:Wd}
end
section
variable{s:St}{m:Mc}{x:Wd}
theorem ĳ.J9(S:ĳ m x){a:Int}(h:a∈x.live):x.sorts[a.toNat]?\(lB x a)/\0<=lB x a/\lB x a<=3:=by
 have z1:=S.rg a h;have z2:=S.lk;have z3:=S.lg;have hl:a.toNat<x.sorts.length:=by exact ln [_,_,_] [_,_] (.i 1 (.v 0) (.v 1) (.c 1 (.v 0) (.v 1) (.i 1 (.a (.v 1) (.k 1)) (.n (.v 0)) (.i 1 (.n (.v 2)) (.v 0) .e)))) 0 (.a (.v 2) (.k 1)) (.v 1) rfl z1.2 (XB z2.symm) (Xu z3.symm) (Xu (Xy (li [] [_] (.i 1 (.a (.k 0) (.k 1)) (.v 0) .e) 0 (.k 0) (.v 0) rfl z1.1)))
 have e:x.sorts[a.toNat]?=some x.sorts[a.toNat]:=Xz hl;have e2:lB x a=x.sorts[a.toNat]:=by unfold lB;rw[XO,e];rfl
 exact⟨by rw[e,e2],e2▸S.so _ (Zn hl)⟩
theorem ĳ.kd(S:ĳ m x){t:È}(ht:t∈m.p.À):t.kd=16\/t.kd=17\/t.kd=18\/t.kd=19:=by have z1:=(S.th t ht).1;have z2:=(S.J9 (S.lv ht)).2;exact(Kp z2.1 (Int.lt_add_one_of_le z2.2)).imp (λ e=>z1^(Xq (16+·) e)) (Or.imp (λ e=>z1^(Xq (16+·) e)) (Or.imp (λ e=>z1^(Xq (16+·) e)) (λ e=>z1^(Xq (16+·) e))))
end
theorem aS{f:V->V->Option Bool}(l:List V)(h:∀v∈l,f v v\true):ŋ f l l\true:=by
 induction l with
 |nil=>rfl
 |cons a l ih=>exact(show bo (f a a) (λ x=>bo (ŋ f l l) λ y=>some (x&&y))=_ from ò (h a (.head _)) (ò (ih λ v hv=>h v (.tail _ hv)) rfl))
section
variable{s:St}{m:Mc}{x:Wd}
end
def yS(x:Wd):List Int:=([0,0]++x.rows.map (·.2.2))++[0]
section
variable{s:St}{m:Mc}{x:Wd}
theorem m7:(yS x).length=x.rows.length+3:=by simp[yS]
theorem yT(S:ĳ m x){i:Nat}{a:Int}(h:(yS x)[i]?\a):yI m.rows ((i:Int) - 1)=W m.p.À a/\Kn x a:=by
 have hlen:m.rows.length=x.rows.length:=by have:=Xq List.length S.rows;simpa using this
 have hi:i<x.rows.length+3:=by rw[<-m7 (x:=x)];rw[Xv]at h;exact h.1
 unfold yS at h;by_cases h2:i<2
 ·have:a=0:=by
   rw[X4,Yp (by exact h2)]at h;have:i=0\/i=1:=by exact W3 (h2)
   rcases this with rfl|rfl<;>simpa using h.symm
  subst this;refine⟨?_,.inl rfl⟩;rw[By];unfold yI;rw[XR (.inl (by exact li [_] [] (.c 1 (.a (.v 0) (.k 1)) (.k 2) .e) 0 (.a (.s (.n (.v 0)) (.k 1)) (.k 1)) (.k 1) rfl h2))]
 ·by_cases h3:i<x.rows.length+2
  ·rw[Yp (by simp;exact h3),YC (by exact Yg h2),X3]at h;have hj:i - 2<x.rows.length:=by exact ln [_,_,_] [] (.c 1 (.a (.v 0) (.k 1)) (.a (.v 1) (.k 2)) (.c 1 (.a (.v 2) (.k 2)) (.v 0) .e)) 0 (.a (.v 2) (.k 1)) (.v 1) rfl h3 (XB (Yb (ln [_] [] (.c 1 (.k 2) (.v 0) .e) 0 (.k 2) (.v 0) rfl (Yg h2))))
   simp only[Yi,List.length_nil]at h;rw[Xz hj]at h;have h:(x.rows[i - 2]).2.2=a:=by simpa using h
   have hk:=(S.Ck _ (Zn hj)).2;rw[h]at hk;refine⟨?_,hk⟩;have hr:=Xq (λ l=>l[i - 2]?) S.rows;simp only[X3]at hr;rw[Xz hj,Xz (by exact hlen▸hj:i - 2<m.rows.length)]at hr;simp only[Zf,Option.some.injEq,abf]at hr;unfold yI;rw[XW (not_or.mpr ⟨by exact λ q0=>lL [_] [] (.c 1 (.k 2) (.v 0) (.i 1 (.a (.s (.n (.v 0)) (.k 1)) (.k 1)) (.k 1) .e)) rfl (Yg h2) q0,by exact λ q0=>lL [_,_,_] [] (.c 1 (.v 0) (.v 1) (.c 1 (.a (.v 2) (.k 1)) (.a (.v 0) (.k 2)) (.i 1 (.a (.n (.v 1)) (.k 1)) (.s (.n (.v 2)) (.k 1)) .e))) rfl (XB hlen.symm) h3 q0⟩),XO];have e:((i:Int) - 1 - 1).toNat=i - 2:=by exact Yq (ln [_,_,_] [] (.c 1 (.v 0) (.a (.v 1) (.k 2)) (.i 1 (.n (.v 2)) (.s (.s (.n (.v 0)) (.k 1)) (.k 1)) .e)) 0 (.v 2) (.v 1) rfl (su _ _) (Xu (Xy (li [_] [] (.c 1 (.k 2) (.v 0) .e) 0 (.k 0) (.s (.s (.n (.v 0)) (.k 1)) (.k 1)) rfl (Yg h2))))) (ln [_,_,_] [] (.c 1 (.a (.v 0) (.k 2)) (.v 1) (.i 1 (.s (.s (.n (.v 1)) (.k 1)) (.k 1)) (.n (.v 2)) .e)) 0 (.v 0) (.v 2) rfl (XB (Yb (ln [_] [] (.c 1 (.k 2) (.v 0) .e) 0 (.k 2) (.v 0) rfl (Yg h2)))) (XU _))
   rw[e,Xz (by exact hlen▸hj:i - 2<m.rows.length)];rw[<-h];exact hr.2
  ·have e:i=x.rows.length+2:=by exact Yq (ln [_,_] [] (.c 1 (.a (.v 0) (.k 1)) (.a (.v 1) (.k 3)) .e) 0 (.v 0) (.a (.v 1) (.k 2)) rfl hi) (ln [_,_] [] (.c 1 (.a (.v 0) (.k 2)) (.v 1) .e) 0 (.a (.v 0) (.k 2)) (.v 1) rfl (Yg h3))
   rw[YC (by simp;exact Yg h3)]at h;have:a=0:=by subst e;simpa using h.symm
   subst this;refine⟨?_,.inl rfl⟩;rw[By];unfold yI;rw[XR (.inr (by exact li [_,_,_] [] (.c 1 (.v 0) (.v 1) (.c 1 (.a (.v 1) (.k 2)) (.v 2) .e)) 0 (.a (.n (.v 0)) (.k 1)) (.s (.n (.v 2)) (.k 1)) rfl (XB hlen) (Yg h3)))]
end
section
variable{s:St}{m:Mc}{x:Wd}
def eF(x:Wd)(j:Int):Cell:=x.cells.getD j.toNat ⟨0,0,0,0⟩
theorem m8{j:Int}(h0:0<=j)(U:j<x.cells.length):eF x j∈x.cells/\x.cells[j.toNat]?\(eF x j):=by
 have hl:j.toNat<x.cells.length:=by exact ln [_,_] [_] (.i 1 (.a (.v 0) (.k 1)) (.n (.v 0)) (.i 1 (.n (.v 1)) (.v 0) .e)) 0 (.a (.v 1) (.k 1)) (.v 0) rfl U (Xu (Xy (li [] [_] (.i 1 (.k 0) (.v 0) .e) 0 (.k 0) (.v 0) rfl h0)))
 have e:x.cells[j.toNat]?=some x.cells[j.toNat]:=Xz hl;have e2:eF x j=x.cells[j.toNat]:=by unfold eF;rw[XO,e];rfl
 exact⟨e2▸Zn hl,by rw[e,e2]⟩
structure Bg (ρ:Loc) (x:Wd) (o v:Int):Prop where
 w:ρ 260\(.ref x.rw)
 op:ρ 296\(.int o)
 y:ρ 279\(.int v)
 n:ρ 69\(.int x.cells.length)
 a:ρ 261\(.int (eF x (v%x.cells.length)).a)
 z:ρ 280\(.int (v/x.cells.length))
theorem ù{n:Nat}(h:4<=n/\n<=5)(z:Int):0<=z%(n:Int)/\z%(n:Int)<n:=⟨Int.emod_nonneg _ (by exact λ q0=>lL [_] [] (.c 1 (.k 4) (.v 0) (.i 1 (.n (.v 0)) (.k 0) .e)) rfl h.1 (Xu q0)),Int.emod_lt_of_pos _ (by exact li [_] [] (.c 1 (.k 4) (.v 0) .e) 0 (.a (.k 0) (.k 1)) (.n (.v 0)) rfl h.1)⟩
end
section
variable{s:St}{m:Mc}{x:Wd}
end
section
variable{s:St}{m:Mc}{x:Wd}
end
end Mine.Z
namespace Mine.Z
def cH(h:Nat)(p:HP):Ç:=[(h,Ca p),(p.jV,.list (eA p.À)),(p.rat,.dict (gX p.À)),(p.wW,.dict (bU p.ä)),(p.Œ,.list (p.fin.map .int)),(p.ŕ,.list (p.Ì.map val))]
def oh(x:È):Ç:=[(x.t,lX x),(x.sl,yw x)]
def cT(l:List È):Ç:=l.flatMap oh
theorem ĥ{l:List È}{F:List Ç}{x:È}(h:x∈l):(x.t,lX x)∈(cT l::F).flatten:=Xo _ (XX.mpr ⟨x,h,.head _⟩)
theorem iS{l:List È}{F:List Ç}{x:È}(h:x∈l):(x.sl,yw x)∈(cT l::F).flatten:=Xo _ (XX.mpr ⟨x,h,.tail _ (.head _)⟩)
theorem ib(l:List Int)(a:Int):(è (bU l) (.int a)).map Option.isSome\(decide (a∈l)):=by rw[Cb,Zf,Z4,lu]
theorem ax{À:List È}{a:Int}{x:È}(hx:(À.find? λ x=>decide (x.ad=a))\x):(è (gX À) (.int a)).map (λ q=>q.getD .none)\(.ref x.t):=by rw[bw,hx];rfl
theorem gp(w:List È)(x:È):eA (w++[x])=eA w++[.ref x.t]:=XF
def cM(J rw:Nat)(q:List Int×List È):Ç:=[(J,.dict (bU q.1)),(rw,.list (eA q.2))]
section
variable{d h J rw n:Nat}{p:HP}{F:List Ç}{g a:Int}{q:List Int×List È}
theorem m9{Z:V->Hp->Prop}(ha:a=0\/∃x∈p.À,x.ad=a)(hl:q.1.length<1000/\q.2.length<1000)(z:Z .none ⟨cH h p++cM J rw (gi p.À g q a),cT p.À::F,n⟩):
  Spec (d+3) 48 [.ref h,.int a,.int g,.ref J,.ref rw] ⟨cH h p++cM J rw q,cT p.À::F,n⟩ Z:=by
 unfold gi at z;by_cases h0:a=0
 ·rw[XR h0]at z;exact Spec.g0 2 rfl rfl [Õ h0] 1 (Done.fr z [] [] (by kernel_rfl))
 ·rw[XW h0]at z
  obtain⟨x,hx⟩:∃x,(p.À.find? λ x=>decide (x.ad=a))\x:=by obtain⟨x,U,h2⟩:=ha.resolve_left h0;exact X_.mp (aaJ.mpr ⟨x,U,XR h2⟩)
  rw[hx]at z;obtain⟨xm,xa⟩:=ai hx;subst xa;by_cases U:x.gn>g
  ·simp only[U,true_or,abk]at z;exact Spec.go 2 rfl rfl _ (in1 (ĥ xm)) [į h0,ë (ax hx),Õ U] 4533471824117817982058497 (Done.fr z [] [] (by kernel_rfl))
  ·by_cases h2:x.ad∈q.1
   ·simp only[h2,or_true,abk]at z;exact Spec.go 2 rfl rfl _ (in1 (ĥ xm)) [į h0,ë (ax hx),į U,gf (ib q.1 x.ad),Õ h2] 6666909701153349118141553861122326529 (Done.fr z [] [] (by kernel_rfl))
   ·simp only[U,h2,or_self,aax]at z
    have q1:putK (bU q.1) (.int x.ad) (.int 1)\(bU (q.1++[x.ad])):=by have:=cL (λ x=>x) (λ _=>V.int 1) x.ad (.int 1) q.1 (λ y hy e=>h2 (e▸hy));simpa[bU]using this
    have q2:ó (.int x.ad)=true/\(bU q.1).length<lim:=⟨rfl,by rw[bU,Xm];exact XN hl.1 (by decide)⟩;have q3:(eA q.2).length<lim:=by rw[eA,Xm];exact XN hl.2 (by decide)
    simp only[cM,gp]at z;exact Spec.go 2 rfl rfl _ (in1 (ĥ xm)) [į h0,ë (ax hx),į U,gf (ib q.1 x.ad),į h2,Õ q2,Bt q1,Õ q3] 196832515080994025104984626794137498633887979380917927937 (Done.fn z [] [] (by kernel_rfl))
end
end Mine.Z
namespace Mine.Z
section
variable{d h J rw n:Nat}{p:HP}{F:List Ç}{g a:Int}{q:List Int×List È}{Å:Int->Prop}{ex:È->Int->Prop}
theorem l4(T:ď p.À)(Q:Ż p.À g Å ex q)(hB:left p.À q.1+q.2.length<1000)(ha:a=0\/∃x∈p.À,x.ad=a)(hs:∀x∈p.À,x.ad=a->a≠0->x.gn<=g->cN p.À g Å a)
  {Z:V->Hp->Prop} (z:∀q',Ż p.À g Å ex q'->left p.À q'.1+q'.2.length=left p.À q.1+q.2.length->(∀b∈q.1,b∈q'.1)->(∀x∈p.À,x.ad=a->a≠0->x.gn<=g->a∈q'.1)->Z .none ⟨cH h p++cM J rw q',cT p.À::F,n⟩):
  Spec (d+3) 48 [.ref h,.int a,.int g,.ref J,.ref rw] ⟨cH h p++cM J rw q,cT p.À::F,n⟩ Z:=
 have P:=yx T Q (a:=a) hs
 m9 ha ⟨Ye (Q.small T) (by decide),Xs (YH _ _) hB⟩ (z _ P.1 P.2.2.2.2 P.2.2.1 P.2.1)
theorem ic(T:ď p.À)(Q:Ż p.À g Å ex q)(hB:left p.À q.1+q.2.length<1000)(ha:a=0\/∃x∈p.À,x.ad=a)(hs:∀x∈p.À,x.ad=a->a≠0->x.gn<=g->cN p.À g Å a)
  {Z:V->Hp->Prop} (z:∀n' q',Ż p.À g Å ex q'->left p.À q'.1+q'.2.length=left p.À q.1+q.2.length->(∀b∈q.1,b∈q'.1)->(∀x∈p.À,x.ad=a->a≠0->x.gn<=g->a∈q'.1)->Z .none ⟨cH h p++cM J rw q',cT p.À::F,n'⟩):
  Spec (d+4) 49 [.ref h,val a,.int g,.ref J,.ref rw] ⟨cH h p++cM J rw q,cT p.À::F,n⟩ Z:=by
 refine Spec.g0 (d:=d) 3 rfl rfl [] 1208925819614629174706176 (Done.ā (j:=3) (l4 (h:=h) (J:=J) (rw:=rw) (n:=n+1) T Q hB ha hs λ q' Q' b m y=>?_) [1,1,1,1,1,1,1,1] [1] rfl (by kernel_rfl));exact á.g0 [1] [] 8 (Done.fn (z (n+1) q' Q' b m y) [0,0,0,0,0,0,0,0] [] (by kernel_rfl))
end
def LD(h J rw:Nat)(g:Int):LV:=[(75,.ref h),(173,.ref rw),(77,.int g),(76,.ref J)]
def hD(h J rw:Nat)(p:HP)(F:List Ç)(a:(List Int×List È)×Nat):Hp:=⟨cH h p++cM J rw a.1,cT p.À::F,a.2⟩
structure tV (p:HP) (g:Int) (Å:Int->Prop) (m:List Int) (q:List Int×List È):Prop where
 ok:Ż p.À g Å q_ q
 mono:∀b∈m,b∈q.1
 bd:left p.À q.1+q.2.length<1000
theorem Ż.Ry{À:List È}{g:Int}{Å:Int->Prop}{m:List Int}{w:List È}{x:È}(Q:Ż À g Å q_ (m,w++[x])):Ż À g Å (λ y b=>y=x) (m,w):=
 ⟨Q.sound,λ y hy=>Q.work y (Xo _ hy),Q.nd,λ a ha y hy ey hn b hb vh z hz ez hg=>by
  by_cases TU:y=x
  ·exact .inr TU
  ·refine .inl ((Q.closed a ha y hy ey (λ q=>?_) b hb vh z hz ez hg).resolve_right id);exact(XC.mp q).elim hn λ q=>TU (XH.mp q)⟩
theorem Ż.Lz{À:List È}{g:Int}{Å:Int->Prop}{q3 q4:List Int×List È}{x:È}(Q:Ż À g Å (λ y b=>y=x) q4)(m4:∀b∈q3.1,b∈q4.1)(p3:∀y∈À,y.ad=x.a0->x.a0≠0->y.gn<=g->x.a0∈q3.1)(p4:∀y∈À,y.ad=x.a1->x.a1≠0->y.gn<=g->x.a1∈q4.1):Ż À g Å q_ q4:=
 Q.N3 λ y b hy hb h0 hv=>.inl (by
  subst hy;obtain⟨z,hz,ez,hg⟩:=hv;rcases hb with rfl|rfl
  ·exact m4 _ (p3 z hz ez h0 hg)
  ·exact p4 z hz ez h0 hg)
theorem ro{d h J rw n:Nat}{p:HP}{F:List Ç}{g:Int}{Å:Int->Prop}{m m0:List Int}{w:List È}{x:È}(T:ď p.À)(D:tV p g Å m0 (m,w++[x])){Z:LV->Hp->Prop}(z:∀n' q',tV p g Å m0 q'->left p.À q'.1+q'.2.length<left p.À m+(w++[x]).length->Z (LD h J rw g) (hD h J rw p F (q',n'))):
  Ã (d+4) [.asg 78 (.ì (.loc 173) 1 []),.Č 55 (.attr (.loc 78) 92) none [.expr (.Ñ 177 49 [(.loc 75),(.loc 55),(.loc 77),(.loc 76),(.loc 173)])]] (LD h J rw g) (hD h J rw p F ((m,w++[x]),n)) Z:=by
 obtain⟨xm,xa⟩:=D.ok.work x (Xw _ (.head _));have bd:left p.À m+(w++[x]).length<1000:=D.bd;rw[Xr]at bd z;have e2:(eA (w++[x])).length<=lim:=by rw[eA,Xm,Xr];exact XJ (Xs (YH _ _) (XN bd (by decide)))
 have e3:(eA (w++[x])).getLast?\(.ref x.t):=by rw[gp,List.getLast?_append];rfl
 have e4:(eA (w++[x])).dropLast=eA w:=by rw[gp,List.dropLast_concat]
 have rx:=D.ok.sound x.ad xa;have TV:=T.refs x xm;refine Ã.go (d:=d) 4 _ (inc (ĥ xm) (in1 (iS xm))) [Õ e2,ë e3] 2120356511967315583108871 (Done.call (j:=4) (f:=49) (vs:=[V.ref h,V.tup [V.int 4,V.int x.a0],V.int g,V.ref J,V.ref rw]) (h:=⟨cH h p++[(J,.dict (bU m)),(rw,.list (eA (w++[x])).dropLast)],cT p.À::F,n⟩) ?_ [] [] (by kernel_rfl));rw[e4];refine ic (q:=(m,w)) T D.ok.Ry (XN (ZO (YA _) _) bd) TV.1 (λ y hy ey h0 hg=>.step rx xm rfl (.inl rfl) h0 hy ey hg) λ n3 q3 Q3 b3 m3 p3=>?_;refine á.go [] _ (inc (ĥ xm) (in1 (iS xm))) [] 449 (Done.call (ic (h:=h) (J:=J) (rw:=rw) (F:=F) (n:=n3) T Q3 (b3▸XN (ZO (YA _) _) bd) TV.2 (λ y hy ey h0 hg=>.step rx xm rfl (.inr rfl) h0 hy ey hg) λ n4 q4 Q4 b4 m4 p4=>?_) [] [] (by kernel_rfl));have b5:=b4^b3;exact á.go [] _ (inc (ĥ xm) (in1 (iS xm))) [] 193 (Done.fb (L:=LD h J rw g) (h:=hD h J rw p F (q4,n4)) (z n4 q4 ⟨Q4.Lz m4 p3 p4,λ b hb=>m4 b (m3 b (D.mono b hb)),b5▸XN (ZO (YA _) _) bd⟩ (b5▸ZO (YA _) _)) [] [] (by kernel_rfl))
theorem j7{d h J rw n:Nat}{p:HP}{F:List Ç}{g:Int}{q:List Int×List È}{Å:Int->Prop}(T:ď p.À)(Q:Ż p.À g Å q_ q)(hB:left p.À q.1+q.2.length<1000)
  {Z:V->Hp->Prop} (z:∀n' q',Ż p.À g Å q_ q'->q'.2=[]->(∀b∈q.1,b∈q'.1)->Z .none ⟨cH h p++cM J rw q',cT p.À::F,n'⟩):
  Spec (d+5) 50 [.ref h,.ref rw,.int g,.ref J] ⟨cH h p++cM J rw q,cT p.À::F,n⟩ Z:=by
 refine Spec.g0 (d:=d) 4 rfl rfl [] 1 (Done.st (j:=4) (L:=LD h J rw g) (h:=hD h J rw p F (q,n)) (bu (c:=E.cmp qF.gt (E.bi 15 Bi.len [E.loc 173]) (E.const (V.int 0))) (b:=[S.asg 78 ((E.loc 173).ì 1 []),S.Č 55 ((E.loc 78).attr 92) none [S.expr (E.Ñ 177 49 [E.loc 75,E.loc 55,E.loc 77,E.loc 76,E.loc 173])]]) (a0:=(q,n)) (Lf:=λ _=>LD h J rw g) (hf:=hD h J rw p F) (λ a=>tV p g Å q.1 a.1) (λ a=>left p.À a.1.1+a.1.2.length) ⟨Q,λ _ h=>h,hB⟩ (XN hB (by decide)) ?_) [] [] (by kernel_rfl));rintro⟨⟨m,w⟩,n1⟩ D;rcases List.eq_nil_or_concat w with rfl|⟨w,x,rfl⟩
 ·exact .inl ⟨É.g0 (d:=d) 4 [] 7 (by kernel_rfl),Į.g0 [] [] 0 (Done.fn (z n1 (m,[]) D.ok rfl D.mono) [] [] (by kernel_rfl))⟩
 ·rw[List.concat_eq_append]at*;have e1:decide ((0:Int)<((eA (w++[x])).length:Int))=true:=XI (by rw[gp,Xr];exact Int.natCast_pos.mpr (Y0 _));exact .inr ⟨e1▸É.g0 (d:=d) 4 [] 7 (by kernel_rfl),ro T D λ n' q' D' lt=>⟨(q',n'),⟨D',lt⟩,rfl,rfl⟩⟩
end Mine.Z
namespace Mine.Z
section
variable{d h n:Nat}{p:HP}{F:List Ç}{g:Int}
def LO(h n:Nat)(g:Int):LV:=[(75,.ref h),(77,.int g),(72,.ref n)]
def hO(h n:Nat)(p:HP)(F:List Ç)(o:List V):Hp:=⟨(n,.list o)::cH h p,cT p.À::F,n+1⟩
theorem m_{x:È}{ä:List Int}(hx:16<=x.ad/\x.ad<10000/\x.ad%4=0){i:Int}(hi:0<=i/\i<=1):((2:Int)=2/\16<=x.ad+2+i/\x.ad+2+i<2^62)/\(è (bU ä) (.int ((x.ad+2+i).fdiv 4))).map Option.isSome\(decide (x.ad/4∈ä)):=by
 have e:(x.ad+2+i).fdiv 4=x.ad/4:=by rw[ZD _ (by decide)];exact Yw (li [] [_,_,_,_,_] (.i 1 (.v 0) (.k 0) (.i 1 (.v 1) (.k 1) (.i 1 (.v 2) (.a (.v 0) (.m 4 (.v 3))) (.i 1 (.m 4 (.v 4)) (.a (.a (.v 2) (.k 2)) (.v 1)) .e)))) 3 (.v 4) (.v 3) rfl (Xu hx.2.2) hi.2 (Xu (aa_ _ _).symm) (Y6 (by decide))) (li [] [_,_,_,_] (.i 1 (.k 0) (.v 0) (.i 1 (.m 4 (.v 1)) (.v 2) (.i 1 (.a (.a (.a (.v 2) (.k 2)) (.v 0)) (.k 1)) (.a (.m 4 (.v 3)) (.k 4)) .e))) 3 (.v 1) (.v 3) rfl hi.1 (Y6 (by decide)) (Zl (by decide)))
 refine⟨⟨rfl,by exact li [] [_,_] (.i 1 (.k 16) (.v 0) (.i 1 (.k 0) (.v 1) .e)) 0 (.k 16) (.a (.a (.v 0) (.k 2)) (.v 1)) rfl hx.1 hi.1,by exact li [] [_,_] (.i 1 (.a (.v 0) (.k 1)) (.k 10000) (.i 1 (.v 1) (.k 1) .e)) 0 (.a (.a (.a (.v 0) (.k 2)) (.v 1)) (.k 1)) (.k 4611686018427387904) rfl hx.2.1 hi.2⟩,?_⟩;rw[e];exact ib _ _
theorem Cq(T:ď p.À){i:Nat}{x:È}(hx:p.À[i]?\x){Z:LV->Hp->Prop}(z:Z (LO h n g) (hO h n p F (mW g p.ä (p.À.take (i+1))))):
  Ã (d+3) [.ite (.cmp .gt (.attr (.loc 78) 77) (.loc 77)) [.Č 113 (.bi 15 .len [(.attr (.loc 78) 92)]) (some 10) [.ite (.cmp .isin (.Ñ 116 35 [(.loc 75),(.Ñ 117 33 [(.loc 78),(.loc 113)])]) (.attr (.loc 75) 100)) [.expr (.ì (.loc 72) 0 [(.tup [(.loc 78),(.loc 113)])])] []]] []]
   ((78,.ref x.t)::LO h n g) (hO h n p F (mW g p.ä (p.À.take i))) Z:=by
 have hm:=Xt hx
 have hl:(mW g p.ä (p.À.take i)).length<600:=by have z1:=tO g p.ä (p.À.take i);have z2:=X1 i p.À;have z3:=T.small;exact ln [_,_,_] [] (.c 1 (.v 0) (.m 2 (.v 1)) (.c 2 (.v 1) (.v 2) (.c 2 (.a (.v 2) (.k 1)) (.k 300) .e))) 0 (.a (.v 0) (.k 1)) (.k 600) rfl z1 z2 z3
 rw[take_snoc hx,yy]at z;have c0:=m_ (ä:=p.ä) (T.ù x hm) (i:=0) (by decide);have c1:=m_ (ä:=p.ä) (T.ù x hm) (i:=1) (by decide);generalize mW g p.ä (p.À.take i)=o at*;by_cases U:g<x.gn
 ·by_cases h2:x.ad/4∈p.ä
  ·rw[XR (by simp[lY,U,h2])]at z;have l1:o.length<lim:=XN hl (by decide);have l2:(o++[V.tup [.ref x.t,.int 0]]).length<lim:=by rw[Xr];exact XN (Z_ hl) (by decide)
   have z:Z (LO h n g) (hO h n p F ((o++[V.tup [.ref x.t,.int 0]])++[V.tup [.ref x.t,.int 1]])):=by rw[X4];exact z
   exact Ã.go 3 _ (inc (ĥ hm) (in1 (iS hm))) [Õ U,Õ c0.1,Õ c1.1,gf c0.2,gf c1.2,Õ h2,Õ l1,Õ l2] 926336755443809024598055066086948473141561118313047313516970006063703876698560 (Done.fb z [] [] (by kernel_rfl))
  ·rw[XW (by simp[lY,h2]),XQ]at z;exact Ã.go 3 _ (inc (ĥ hm) (in1 (iS hm))) [Õ U,Õ c0.1,Õ c1.1,gf c0.2,gf c1.2,į h2] 9673014157733294923328207665439496063952412105592366245609920 (Done.fb z [] [] (by kernel_rfl))
 ·rw[XW (by simp[lY,U]),XQ]at z;exact Ã.go 3 _ (in1 (ĥ hm)) [į U] 448 (Done.fb z [] [] (by kernel_rfl))
theorem nh(T:ď p.À){Z:V->Hp->Prop}(z:Z (.ref n) (hO h n p F (mW g p.ä p.À))):Spec (d+4) 51 [.ref h,.int g] ⟨cH h p,cT p.À::F,n⟩ Z:=by
 refine Spec.g0 (d:=d) 3 rfl rfl [] 1 (Done.st (j:=3) (S0:=sB 51 [1]) (L:=LO h n g) (h:=hO h n p F []) ?_ [] [] (by kernel_rfl));refine Þ (Ó.p0 (î (a0:=[]) (Lf:=λ _=>LO h n g) (hf:=hO h n p F) (λ i o=>o=mW g p.ä (p.À.take i)) p.À (λ x=>.ref x.t) (XJ (XN T.small (by decide))) (λ _=>mg 2 rfl) rfl ?_ ?_) 3 [] 1 (by kernel_rfl))
 ·rintro i _ x rfl hx;exact Cq T hx ⟨_,rfl,rfl,rfl⟩
 ·rintro _ rfl;rw[X6];exact Į.g0 [] [] 0 (Done.fr z [] [] (by kernel_rfl))
end
end Mine.Z
namespace Mine.Z
def œ(rl:List (Nat×List Int)):O:=.list (rl.map λ q=>.ref q.1)
def oj(q:Nat×List Int):Ç:=[(q.1,.list (q.2.map val))]
def cR(rl:List (Nat×List Int)):Ç:=rl.flatMap oj
theorem Hh{rl:List (Nat×List Int)}{A:Ç}{F:List Ç}{q:Nat×List Int}(h:q∈rl):(q.1,.list (q.2.map val))∈(A::cR rl::F).flatten:=Xw _ (Xo _ (XX.mpr ⟨q,h,.head _⟩))
section
variable{d h n L:Nat}{p:HP}{F:List Ç}{g:Int}{Å:Int->Prop}{rl:List (Nat×List Int)}{m0:List Int}
theorem l5{J rw n:Nat}{a:Int}{q:List Int×List È}(T:ď p.À)(D:tV p g Å m0 q)(ha:a=0\/∃x∈p.À,x.ad=a)(hs:Å a)
  {Z:V->Hp->Prop} (z:∀n' q',tV p g Å m0 q'->(∀b∈q.1,b∈q'.1)->(Bw p.À g a->a∈q'.1)->Z .none ⟨cH h p++cM J rw q',cT p.À::F,n'⟩):
  Spec (d+4) 49 [.ref h,val a,.int g,.ref J,.ref rw] ⟨cH h p++cM J rw q,cT p.À::F,n⟩ Z:=
 ic T D.ok D.bd ha (λ x hx e h0 hg=>.ź hs h0 hx e hg) λ n' q' Q b m y=>z n' q' ⟨Q,λ c hc=>m c (D.mono c hc),b▸D.bd⟩ m fun⟨h0,x,hx,e,hg⟩=>y x hx e h0 hg
def w4(h L n:Nat)(g:Int):LV:=[(75,.ref h),(178,.ref L),(77,.int g),(76,.ref n),(173,.ref (n+1))]
def Cr(h L n:Nat)(p:HP)(rl:List (Nat×List Int))(F:List Ç)(a:(List Int×List È)×Nat):Hp:=⟨cH h p++(cM n (n+1) a.1++[(L,œ rl)]),cT p.À::F,a.2⟩
abbrev LA(h:Nat)(p:HP)(F:List Ç)(q:Nat×List Int):Prop:=(q.1,.list (q.2.map val))∈cH h p++F.flatten
theorem LA.mk{q:Nat×List Int}(H:LA h p F q){A B:Ç}:(q.1,.list (q.2.map val))∈(cH h p++A)++(B::F).flatten:=(XC.mp H).elim (λ k=>Xo _ (Xo _ k)) λ k=>Xw _ (Xw _ k)
abbrev Rz:List S:=[.expr (.Ñ 177 49 [(.loc 75),(.loc 55),(.loc 77),(.loc 76),(.loc 173)])]
structure Oe (p:HP) (g:Int) (Å:Int->Prop) (m0 m1:List Int) (P:List Int->Prop) (q:List Int×List È):Prop where
 D:tV p g Å m0 q
 m:∀b∈m1,b∈q.1
 c:P q.1
theorem vq(T:ď p.À){q:Nat×List Int}(hq:LA h p F q)(hz:q.2.length<1000)(ha:∀a∈q.2,(a=0\/∃x∈p.À,x.ad=a)/\Å a){a:(List Int×List È)×Nat}(D:tV p g Å m0 a.1)
  {Z:LV->Hp->Prop} (z:∀a',tV p g Å m0 a'.1->(∀b∈a.1.1,b∈a'.1.1)->(∀c∈q.2,Bw p.À g c->c∈a'.1.1)->Z ((179,.ref q.1)::w4 h L n g) (Cr h L n p rl F a')):
  Lb (d+4) 55 Rz (.ref q.1) ((179,.ref q.1)::w4 h L n g) (Cr h L n p rl F a) Z:=
 î (a0:=a) (Lf:=λ _=>(179,.ref q.1)::w4 h L n g) (hf:=Cr h L n p rl F) (λ i a'=>Oe p g Å m0 a.1.1 (λ m=>∀c∈q.2.take i,Bw p.À g c->c∈m) a'.1) q.2 val (XJ (XN hz (by decide))) (λ _=>hq.mk) ⟨D,λ _ h=>h,λ _ h=>nm h⟩
  (λ i a' c A hc=>by refine Ã.g0 (d:=d) 4 [] 1 (Done.ā (j:=4) (l5 (h:=h) (J:=n) (rw:=n+1) (n:=a'.snd) T A.D (ha c (Xt hc)).1 (ha c (Xt hc)).2 λ n' q' D' m y=>?_) [0,0,0,0,0,0,0,0] [1] rfl (by kernel_rfl));exact á.g0 [1] [] 0 (Done.dm (q',n') ⟨D',λ b hb=>m b (A.m b hb),take_all hc (λ b hb yb=>m b (A.c b hb yb)) y⟩ [] [] (by kernel_rfl)))
  λ a' A=>z a' A.D A.m (aO A.c)
def Of(h L n o:Nat)(ol:List V)(p:HP)(rl:List (Nat×List Int))(F:List Ç)(a:(List Int×List È)×Nat):Hp:=⟨(o,.list ol)::(cH h p++(cM n (n+1) a.1++[(L,œ rl)])),cT p.À::F,a.2⟩
def Hi(g:Int)(ä:List Int)(À:List È):List (È×Int):=(À.filter (lY g ä)).flatMap λ x=>[(x,0),(x,1)]
theorem Hj(g:Int)(ä:List Int)(À:List È):mW g ä À=(Hi g ä À).map λ q=>.tup [.ref q.1.t,.int q.2]:=by unfold mW Hi;rw[List.map_flatMap];rfl
theorem Cs{g:Int}{ä:List Int}{À:List È}{q:È×Int}(h:q∈Hi g ä À){P:Prop}(k:q.1∈À->lY g ä q.1=true->Ū [val q.1.a0,val q.1.a1] q.2\(val (ĭ q.1 q.2))->ĭ q.1 q.2=q.1.a0\/ĭ q.1 q.2=q.1.a1->P):P:=by
 obtain⟨x,hx,hv⟩:=XX.mp h;obtain⟨U,h2⟩:=XG.mp hx;rcases XE.mp hv with rfl|hv
 ·exact k U h2 rfl (.inl rfl)
 ·cases XH.mp hv;exact k U h2 rfl (.inr rfl)
theorem tW{g:Int}{ä:List Int}{À:List È}{x:È}(h:x∈À)(hp:lY g ä x=true):(x,0)∈Hi g ä À/\(x,1)∈Hi g ä À:=⟨XX.mpr ⟨x,XG.mpr ⟨h,hp⟩,.head _⟩,XX.mpr ⟨x,XG.mpr ⟨h,hp⟩,.tail _ (.head _)⟩⟩
theorem yU(T:ď p.À)(hs:∀x∈p.À,lY g p.ä x=true->Å x.a0/\Å x.a1){o:Nat}{a:(List Int×List È)×Nat}(D:tV p g Å m0 a.1)
  {Z:LV->Hp->Prop} (z:∀a',tV p g Å m0 a'.1->(∀b∈a.1.1,b∈a'.1.1)->(∀x∈p.À,lY g p.ä x=true->(Bw p.À g x.a0->x.a0∈a'.1.1)/\(Bw p.À g x.a1->x.a1∈a'.1.1))->Z (w4 h L n g) (Of h L n o (mW g p.ä p.À) p rl F a')):
  N1 (d+4) 78 113 [.expr (.Ñ 177 49 [(.loc 75),(.sub (.attr (.loc 78) 92) (.loc 113)),(.loc 77),(.loc 76),(.loc 173)])] (.ref o) (w4 h L n g) (Of h L n o (mW g p.ä p.À) p rl F a) Z:=by
 have hl:=tO g p.ä p.À;rw[Hj]at hl z ⊢;rw[Xm]at hl;refine yv (a0:=a) (Lf:=λ _=>w4 h L n g) (hf:=Of h L n o _ p rl F) (λ i a'=>Oe p g Å m0 a.1.1 (λ m=>∀q∈(Hi g p.ä p.À).take i,Bw p.À g (ĭ q.1 q.2)->ĭ q.1 q.2∈m) a'.1) (Hi g p.ä p.À) (λ q=>.ref q.1.t) (λ q=>.int q.2) ?_ (λ _=>mg 0 rfl) ⟨D,λ _ h=>h,λ _ h=>nm h⟩ (λ i a' q A hc=>Cs (Xt hc) λ hx hp hn hj=>?_) λ a' A=>?_
 ·exact XJ (Xs hl (XN (Nat.mul_lt_mul_of_pos_left T.small (by decide)) (by decide)))
 ·refine Ã.go (d:=d) 4 _ (inc (ĥ hx) (in1 (iS hx))) [ë hn] 16892352 (Done.ā (j:=4) (l5 (h:=h) (J:=n) (rw:=n+1) (n:=a'.snd) T A.D (hj.elim (λ e=>e▸(T.refs _ hx).1) λ e=>e▸(T.refs _ hx).2) (hj.elim (λ e=>e▸(hs _ hx hp).1) λ e=>e▸(hs _ hx hp).2) λ n' q' D' m y=>?_) [1,1,1,1,1,1,1,1] [1] rfl (by kernel_rfl));exact á.g0 [1] [] 0 (Done.dm (q',n') ⟨D',λ b hb=>m b (A.m b hb),take_all hc (λ b hb yb=>m _ (A.c b hb yb)) y⟩ [8,0,0,0,0,0,0,0,0,0] [] (by kernel_rfl))
 ·exact z a' A.D A.m λ x hx hp=>⟨aO A.c _ (tW hx hp).1,aO A.c _ (tW hx hp).2⟩
theorem rp(T:ď p.À)(hm:∀q∈rl,LA h p F q)(hz:rl.length<100/\∀q∈rl,q.2.length<1000)(ha:∀q∈rl,∀a∈q.2,(a=0\/∃x∈p.À,x.ad=a)/\Å a){a:(List Int×List È)×Nat}(D:tV p g Å m0 a.1)
  {Z:LV->Hp->Prop} (z:∀a',tV p g Å m0 a'.1->(∀q∈rl,∀c∈q.2,Bw p.À g c->c∈a'.1.1)->Z (w4 h L n g) (Cr h L n p rl F a')):
  Lb (d+4) 179 [.Č 55 (.loc 179) none Rz] (.ref L) (w4 h L n g) (Cr h L n p rl F a) Z:=
 î (a0:=a) (Lf:=λ _=>w4 h L n g) (hf:=Cr h L n p rl F) (λ i a'=>Oe p g Å m0 [] (λ m=>∀q∈rl.take i,∀c∈q.2,Bw p.À g c->c∈m) a'.1) rl (λ q=>.ref q.1) (XJ (XN hz.1 (by decide))) (λ _=>mg 8 rfl) ⟨D,λ _ h=>nm h,λ _ h=>nm h⟩
  (λ i a' q A hc=>by have Lg:=Xt hc;refine Ã.g0 (d:=d) 4 [] 1 (Done.st (j:=4) (S0:=S.Č 55 (E.loc 179) none Rz) (L:=(179,.ref q.1)::w4 h L n g) (h:=Cr h L n p rl F a') ?_ [] [] (by kernel_rfl));refine Þ (Ó.loc rfl (vq T (hm q Lg) (hz.2 q Lg) (ha q Lg) A.D λ b D' m y=>?_));exact Į.g0 [] [] 0 (Done.dm b ⟨D',λ _ h=>nm h,take_all hc (λ c hb e he ye=>m e (A.c c hb e he ye)) y⟩ [] [] (by kernel_rfl)))
  λ a' A=>z a' A.D (aO A.c)
theorem Ct(T:ď p.À)(hm:∀q∈rl,LA h p F q)(hz:rl.length<100/\∀q∈rl,q.2.length<1000)(ha:∀q∈rl,∀a∈q.2,a=0\/∃x∈p.À,x.ad=a)
  {Z:V->Hp->Prop} (z:∀ms n',(∀a,a∈ms↔cN p.À g (jf p rl g) a)->ms.Nodup->Z (.ref n) ⟨(n,.dict (bU ms))::(cH h p++[(L,œ rl)]),cT p.À::F,n'⟩):
  Spec (d+6) 52 [.ref h,.ref L,.int g] ⟨cH h p++[(L,œ rl)],cT p.À::F,n⟩ Z:=by
 have D0:tV p g (jf p rl g) [] ([],[]):=⟨⟨λ _ h=>nm h,λ _ h=>nm h,.nil,λ _ h=>nm h⟩,λ _ h=>nm h,Xs (tN _ _) (XN T.small (by decide))⟩;refine Spec.g0 (d:=d) 5 rfl rfl [] 1 (Done.st (j:=5) (S0:=sB 52 [2]) (L:=w4 h L n g) (h:=Cr h L n p rl F (([],[]),n+2)) ?_ [2,2,2,2,2,2,1,0,0] [] (by kernel_rfl));refine Þ (Ó.loc rfl (rp T hm hz (λ q hq a h=>⟨ha q hq a h,.inl ⟨q,hq,h⟩⟩) D0 λ a1 D1 y1=>?_));by_cases hg:g<2
 ·refine Į.g0 [] [Õ hg] 1 (Done.st (j:=5) (S0:=sB 52 [3,0]) (L:=w4 h L n g) (h:=Cr h L n p rl F a1) ?_ [] [] (by kernel_rfl));refine tM (Ó.g0 (d:=d) 5 [] 1 (Done.ā (j:=5) (nh (h:=h) (g:=g) (n:=a1.snd) T ?_) [0,0,0,0,0,0] [1] rfl (by kernel_rfl)));refine á.g0 [1] [] 0 (Done.fe (v:=V.ref a1.snd) (h:=Of h L n a1.2 (mW g p.ä p.À) p rl F (a1.1,a1.2+1)) ?_ [] [] (by kernel_rfl));refine yU (a:=(a1.1,a1.2+1)) T (λ x hx hp=>⟨.inr ⟨hg,x,hx,hp,.inl rfl⟩,.inr ⟨hg,x,hx,hp,.inr rfl⟩⟩) D1 λ a2 D2 m2 y2=>?_;refine Į.g0 [] [] 1 (Done.ā (j:=5) (j7 (h:=h) (rw:=n+1) (J:=n) (n:=a2.snd) T D2.ok D2.bd λ n3 q3 Q3 e3 m3=>?_) [1,1,1,1,1,1,1,1] [1] rfl (by kernel_rfl));refine á.g0 [1] [] 0 (Done.fr (z q3.1 n3 (hV Q3 e3 λ a hs hy=>?_) Q3.nd) [6,0,0,0,0,0,0,2] [] (by kernel_rfl));rcases hs with⟨q,hq,h⟩|⟨-,x,hx,hp,rfl|rfl⟩
  ·exact m3 a (m2 a (y1 q hq a h hy))
  ·exact m3 _ ((y2 x hx hp).1 hy)
  ·exact m3 _ ((y2 x hx hp).2 hy)
 ·refine Į.g0 [] [į hg] 257 (Done.ā (j:=5) (j7 (h:=h) (rw:=n+1) (J:=n) (n:=a1.snd) T D1.ok D1.bd λ n3 q3 Q3 e3 m3=>?_) [0,0,0,0,0,0,0,0] [1] rfl (by kernel_rfl));refine á.g0 [1] [] 0 (Done.fr (z q3.1 n3 (hV Q3 e3 λ a hs hy=>?_) Q3.nd) [6,0,0,0,0,0,0,1] [] (by kernel_rfl));rcases hs with⟨q,hq,h⟩|⟨h,-⟩
  ·exact m3 a (y1 q hq a h hy)
  ·exact absurd h hg
end
end Mine.Z
namespace Mine.Z
section
variable{d h n J:Nat}{p:HP}{F:List Ç}{g a:Int}{ms:List Int}
variable{α:Type}{ks:List Nat}
theorem ay{Z:V->Hp->Prop}(z:Z (.bool (dead p.À ms g a)) ⟨cH h p++[(J,.dict (bU ms))],cT p.À::F,n⟩):
  Spec (d+1) 18 [.ref h,.int a,.ref J,.int g] ⟨cH h p++[(J,.dict (bU ms))],cT p.À::F,n⟩ Z:=by
 unfold dead at z;cases hx:p.À.find? (λ x=>decide (x.ad=a))with
 |none=>
  rw[hx]at z;have e:(è (gX p.À) (.int a)).map (λ q=>q.getD .none)=some .none:=by rw[bw,hx];rfl
  exact Spec.g0 0 rfl rfl [ë e] 4295098880 (Done.fr z [] [] (by kernel_rfl))
 |some x=>
  rw[hx]at z;have xm:=(ai hx).1;by_cases U:x.gn<=g
  ·have z:Z (.bool (!decide (a∈ms))) ⟨cH h p++[(J,.dict (bU ms))],cT p.À::F,n⟩:=by rw[<-Bool.true_and (!_),<-XI U];exact z
   exact Spec.go 0 rfl rfl _ (in1 (ĥ xm)) [ë (ax hx),Õ U,gf (ib ms a)] 3626888337466717680828928 (Done.fr z [] [] (by kernel_rfl))
  ·have z:Z (.bool false) ⟨cH h p++[(J,.dict (bU ms))],cT p.À::F,n⟩:=by rw[<-Bool.false_and (!decide (a∈ms)),<-XY U];exact z
   exact Spec.go 0 rfl rfl _ (in1 (ĥ xm)) [ë (ax hx),į U] 198158387899400704 (Done.fr z [] [] (by kernel_rfl))
end
def Ŏ{α:Type}(f:α->α)(l:List α)(i:Nat):List α:=(l.take i).map f++l.drop i
theorem Ů{f:α->α}{l:List α}{i:Nat}{x:α}(h:l[i]?\x):(Ŏ f l i)[i]?\x:=by
 have hi:=(Xv.mp h).1;have e:((l.take i).map f).length=i:=by rw[Xm,Y4,Zv (XJ hi)]
 rw[Ŏ,YC (XB e),e,Z5,List.getElem?_drop];exact h
theorem aT{f:α->α}{l:List α}{i:Nat}{x:α}(h:l[i]?\x):(Ŏ f l i).set i (f x)=Ŏ f l (i+1):=by
 obtain⟨hi,e1⟩:=Xv.mp h;have e:((l.take i).map f).length=i:=by rw[Xm,Y4,Zv (XJ hi)]
 rw[Ŏ,Z8 _ _ (XB e),e,Z5,Yv hi,aay,Ŏ,take_snoc h,XF,X4];rfl
theorem eV{f:α->α}{l:List α}{i:Nat}{x:α}(h:l[i]?\x)(e:f x=x):Ŏ f l i=Ŏ f l (i+1):=by
 rw[<-aT h,e];refine Zh λ j=>?_;rw[Y1];split
 ·rename_i q;subst q;rw[Ů h];split
  ·rfl
  ·rename_i q;exact absurd (Xv.mp (Ů (f:=f) h)).1 q
 ·rfl
theorem dr(f:α->α)(l:List α):Ŏ f l l.length=l.map f:=by rw[Ŏ,X6,aad,XQ]
def aU(hd rr:Nat)(ks:List Nat):Ç:=[(hd,.inst 2 [(4,.ref rr)]),(rr,.list (ks.map .ref))]
def LB(r:Row):Ç:=[(r.1,i6 r)]
def cW(rows:List Row):Ç:=rows.flatMap LB
def i8(À:List È)(ms:List Int)(g sort:Int)(r:Row):Row:=(r.1,r.2.1,gY À ms g sort r)
theorem rq{rows:List Row}{i:Nat}{r:Row}{A:Ç}{F:List Ç}(h:rows[i]?\r):(r.1,i6 r)∈(A::cW rows::F).flatten:=Xw _ (Xo _ (XX.mpr ⟨r,Xt h,.head _⟩))
section
variable{d h n J hd rr:Nat}{p:HP}{F:List Ç}{g sort:Int}{ms:List Int}{rows:List Row}
def LC(h J hd:Nat)(g sort c:Int):LV:=[(67,.ref hd),(29,.int sort),(76,.ref J),(75,.ref h),(77,.int g),(80,.int c)]
def hC(h J hd rr:Nat)(p:HP)(ms:List Int)(ks:List Nat)(F:List Ç)(n:Nat)(rows:List Row):Hp:=⟨aU hd rr ks++(cH h p++[(J,.dict (bU ms))]),cT p.À::cW rows::F,n⟩
abbrev bC:List S:=[.ite (.and [(.cmp .eq (.sub (.loc 12) (.glob 73 (.int 0))) (.loc 29)),(.cmp .ne (.sub (.loc 12) (.glob 71 (.int 1))) (.const (.int 0))),(.Ñ 81 18 [(.loc 75),(.sub (.loc 12) (.glob 71 (.int 1))),(.loc 76),(.loc 77)])]) [.é (.loc 12) (.glob 71 (.int 1)) (.const (.int 0)),.mB 80 .add (.const (.int 1))] []]
theorem LF{A B:Ç}{F:List Ç}{E:Ç}{n:Nat}:Ô ⟨E,A::B::F,n⟩ ⟨E,B::A::F,n⟩:=by refine⟨?_,rfl⟩;show(E++(A++(B++F.flatten))).Perm (E++(B++(A++F.flatten)));exact(YY A B F.flatten).append_left E
theorem Ô.trans{a b c:Hp}(P:Ô a b)(Q:Ô b c):Ô a c:=⟨P.p.trans Q.p,P.n.trans Q.n⟩
theorem yV{rs:List Row}{i:Nat}{r:Row}(hr:rs[i]?\r){c:Int}{Z:LV->Hp->Prop}(z0:i8 p.À ms g sort r=r->Z (LC h J hd g sort c) (hC h J hd rr p ms ks F n rs))(z1:Z (LC h J hd g sort (c+1)) (hC h J hd rr p ms ks F n (rs.set i (i8 p.À ms g sort r)))):
  Ã (d+2) bC ((12,.ref r.1)::LC h J hd g sort c) (hC h J hd rr p ms ks F n rs) Z:=by
 by_cases U:r.2.1=sort
 ·by_cases h2:r.2.2=0
  ·have e:(!decide (r.2.2=0))=false:=by rw[h2];rfl
   exact Ã.go 2 _ (in1 (rq hr)) [Õ U,eQ e] 2202244546752 (Done.fb (z0 (by unfold i8 gY;rw[XW λ q=>q.2.1 h2])) [] [] (by kernel_rfl))
  ·have e:(!decide (r.2.2=0))=true:=by rw[XY h2];rfl
   cases h3:dead p.À ms g r.2.2 with
   |false=>
    refine Ã.go (d:=d) 2 _ (in1 (rq hr)) [Õ U,eQ e] 18500789471482544320 (Done.ā (j:=2) (ay (h:=h) (a:=r.snd.snd) (J:=J) (g:=g) (n:=n) (p:=p) (ms:=ms) ?_) [2,2,2,2,2,2,2] [1] rfl (by kernel_rfl));rw[h3];exact á.g0 [1] [] 0 (Done.fb (z0 (by unfold i8 gY;rw[XW λ q=>by rw[h3]at q;exact Bool.noConfusion q.2.2])) [7,7,0,0,0,0,0,0,0] [] (by kernel_rfl))
   |true=>
    have e2:gY p.À ms g sort r=0:=XR ⟨U,h2,h3⟩;refine Ã.perm (LF.trans (Bu hr)) (Ã.g0 (d:=d) 2 [Õ U,eQ e] 18446746272732872704 (Done.ā (j:=2) (ay (h:=h) (a:=r.snd.snd) (J:=J) (g:=g) (n:=n) (p:=p) (ms:=ms) ?_) [3,3,3,3,3,3,3] [2] rfl (by kernel_rfl)));rw[h3];unfold i8 at z1;rw[e2]at z1;refine á.g0 [1] [] 1792 (Done.Ĳ (Z:=ZB Z) (L:=LC h J hd g sort (c+1)) (h:=⟨LB (r.1,r.2.1,0)++(aU hd rr ks++(cH h p++[(J,.dict (bU ms))])),cut LB rs i::cT p.À::F,n⟩) (fl:=.next) (h':=hC h J hd rr p ms ks F n (rs.set i (r.1,r.2.1,0))) ((gh hr)^LF) z1 [7,7,7,0,0,0,0,0,0,0] [1,0] (by kernel_rfl))
 ·exact Ã.go 2 _ (in1 (rq hr)) [į U] 65728 (Done.fb (z0 (by unfold i8 gY;rw[XW λ q=>U q.1])) [] [] (by kernel_rfl))
theorem aV(hk:rows.map (·.1)=ks)(hz:rows.length<1000){Z:V->Hp->Prop}(z:∀k,Z (.int k) (hC h J hd rr p ms ks F n (rows.map (i8 p.À ms g sort)))):
  Spec (d+3) 19 [.ref hd,.int sort,.ref J,.ref h,.int g] (hC h J hd rr p ms ks F n rows) Z:=by
 subst hk;refine Spec.g0 (d:=d) 2 rfl rfl [] 1 (Done.st (j:=2) (S0:=sB 19 [1]) (L:=LC h J hd g sort 0) (h:=hC h J hd rr p ms (rows.map (·.1)) F n rows) ?_ [] [] (by kernel_rfl));refine Þ (Ó.p0 (î (a0:=(rows,0)) (Lf:=λ a=>LC h J hd g sort a.2) (hf:=λ a=>hC h J hd rr p ms (rows.map (·.1)) F n a.1) (λ i a=>a.1=Ŏ (i8 p.À ms g sort) rows i) (rows.map (·.1)) .ref ?_ (λ _=>mg 1 rfl) rfl ?_ ?_) 2 [] 0 (by kernel_rfl))
 ·rw[Xm];exact XJ (XN hz (by decide))
 ·rintro i ⟨_,c⟩ k rfl hk;refine jT (P:=λ k=>Ã (d+2) _ ((12,.ref k)::_) _ _) hk λ r hr=>?_;exact yV (Ů hr) (λ e=>⟨(_,c),eV hr e,rfl,rfl⟩) ⟨(_,c+1),aT hr,rfl,rfl⟩
 ·rintro⟨_,c⟩ rfl;rw[Xm,dr];exact Į.g0 [] [] 0 (Done.fr (z c) [] [] (by kernel_rfl))
end
end Mine.Z
namespace Mine.Z
section
variable{d h n L J hd rr:Nat}{p:HP}{F:List Ç}{g:Int}{ms å:List Int}{rows:List Row}{rl:List (Nat×List Int)}{Å:Int->Prop}
theorem vr(h3:∀r∈rows,r.2.1≠3)(hz:rows.length<1000){Z:V->Hp->Prop}(z:Z (.ref n) ⟨(n,.list [])::aU hd rr (rows.map (·.1)),cW rows::F,n+1⟩):Spec (d+1) 17 [.ref hd] ⟨aU hd rr (rows.map (·.1)),cW rows::F,n⟩ Z:=by
 refine Spec.g0 (d:=d) 0 rfl rfl [] 1 (Done.st (j:=0) (S0:=sB 17 [1]) (L:=[(67,.ref hd),(72,.ref n)]) (h:=⟨(n,.list [])::aU hd rr (rows.map (·.1)),cW rows::F,n+1⟩) ?_ [] [] (by kernel_rfl));refine Þ (Ó.p0 (î (a0:=()) (Lf:=λ _=>[(67,.ref hd),(72,.ref n)]) (hf:=λ _=>⟨(n,.list [])::aU hd rr (rows.map (·.1)),cW rows::F,n+1⟩) (λ _ _=>True) (rows.map (·.1)) .ref ?_ (λ _=>mg 2 rfl) trivial ?_ ?_) 0 [] 1 (by kernel_rfl))
 ·rw[Xm];exact XJ (XN hz (by decide))
 ·intro i _ k _ hk;refine jT (P:=λ k=>Ã (d+0) _ ((12,.ref k)::_) _ _) hk λ r hr=>?_;exact Ã.go (d:=d) 0 _ (in1 (Xo _ (XX.mpr ⟨r,Xt hr,.head _⟩))) [į (h3 r (Xt hr))] 65728 (Done.dm () trivial [] [] (by kernel_rfl))
 ·intro _ _;exact Į.g0 [] [] 0 (Done.fr z [] [] (by kernel_rfl))
def RA(h L o:Nat)(hd:Nat):LV:=[(75,.ref h),(178,.ref L),(159,.ref hd),(72,.ref o)]
def Og(h L hd rr o:Nat)(p:HP)(rl:List (Nat×List Int))(ks:List Nat)(F:List Ç)(ol:List Nat):Hp:=⟨(o,.list (ol.map .ref))::(cH h p++((L,œ rl)::aU hd rr ks)),F,o+1⟩
theorem lC(h3:∀r∈rows,r.2.1≠3)(hz:rows.length<1000)(hl:rl.length<1000){Z:V->Hp->Prop}(z:Z (.ref n) ⟨(n,œ (rl++[(p.ŕ,p.Ì),(n+1,[])]))::(n+1,.list [])::(cH h p++((L,œ rl)::aU hd rr (rows.map (·.1)))),cW rows::F,n+2⟩):
  Spec (d+2) 69 [.ref h,.ref L,.ref hd] ⟨cH h p++((L,œ rl)::aU hd rr (rows.map (·.1))),cW rows::F,n⟩ Z:=by
 refine Spec.g0 (d:=d) 1 rfl rfl [] 1 (Done.st (j:=1) (S0:=sB 69 [1]) (L:=RA h L n hd) (h:=Og h L hd rr n p rl (rows.map (·.1)) (cW rows::F) []) ?_ [] [] (by kernel_rfl));refine Þ (Ó.loc rfl (î (a0:=[]) (Lf:=λ _=>RA h L n hd) (hf:=Og h L hd rr n p rl (rows.map (·.1)) (cW rows::F)) (λ i o=>o=(rl.take i).map (·.1)) rl (λ q=>.ref q.1) (XJ (XN hl (by decide))) (λ _=>mg 7 rfl) rfl ?_ ?_))
 ·rintro i _ q rfl hq;have e:((rl.take i).map λ q=>q.1).length<lim:=by rw[Xm];exact Xs (X1 _ _) (XN hl (by decide))
  have e':(((rl.take i).map (·.1)).map V.ref).length<lim:=by rw[Xm];exact e
  refine Ã.g0 (d:=d) 1 [Õ e'] 65536 (Done.Ĳ (Z:=ZB _) (L:=RA h L n hd) (fl:=.next) (h:=⟨(n,.list (((rl.take i).map (·.1)).map V.ref++[.ref q.1]))::(cH h p++((L,œ rl)::aU hd rr (rows.map (·.1)))),cW rows::F,n+1⟩) (h':=Og h L hd rr n p rl (rows.map (·.1)) (cW rows::F) ((rl.take (i+1)).map (·.1))) ⟨?_,rfl⟩ ⟨_,rfl,rfl,rfl⟩ [] [] (by kernel_rfl));rw[take_snoc hq,Og,XF,XF];exact .refl _
 ·rintro _ rfl;have e1:((rl.map λ q=>q.1).map V.ref).length<lim:=by rw[Xm,Xm];exact XN hl (by decide)
  have e2:((rl.map λ q=>q.1).map V.ref++[V.ref p.ŕ]).length<lim:=by rw[Xr,Xm,Xm];exact Ye (Z_ hl) (by decide)
  rw[X6];have ez:œ (rl++[(p.ŕ,p.Ì),(n+1,[])])=.list (((rl.map (·.1)).map V.ref++[.ref p.ŕ])++[.ref (n+1)]):=by simp[œ]
  rw[ez]at z;refine Į.g0 [] [Õ e1] 72057594054705408 (Done.ā (j:=1) (vr (hd:=hd) (n:=n+1) (rr:=rr) (rows:=rows) h3 hz ?_) [8,8] [1] rfl (by kernel_rfl));exact á.g0 [1] [Õ e2] 259 (Done.fr z [3,0,2,2,2,2,2,2,2,0,0] [] (by kernel_rfl))
def w3(p:HP)(ms:List Int)(g:Int)(i:Nat):List Int:=(p.fin.take i).filter λ a=>!dead p.À ms g a
def Hk(p:HP)(ms:List Int)(g:Int)(i:Nat):List Int:=(p.fin.take i).filter (dead p.À ms g)
def LP(h J n:Nat)(g:Int):LV:=[(75,.ref h),(76,.ref J),(77,.int g),(83,.ref n),(84,.ref (n+1))]
def hP(h J n:Nat)(p:HP)(ms:List Int)(F:List Ç)(k q:List Int):Hp:=⟨(n+1,.list (q.map .int))::(n,.list (k.map .int))::(cH h {p with Ì:=p.Ì++q}++[(J,.dict (bU ms))]),cT p.À::F,n+2⟩
theorem vt{a:Int}{k q:List Int}(hk:k.length<1000)(hq:q.length<1000)(hr:p.Ì.length+q.length<1000){Z:LV->Hp->Prop}(z0:dead p.À ms g a=false->Z (LP h J n g) (hP h J n p ms F (k++[a]) q))(z1:dead p.À ms g a=true->Z (LP h J n g) (hP h J n p ms F k (q++[a]))):
  Ã (d+2) [.ite (.Ñ 81 18 [(.loc 75),(.loc 68),(.loc 76),(.loc 77)]) [.expr (.ì (.loc 84) 0 [(.loc 68)]),.expr (.ì (.attr (.loc 75) 86) 0 [(.tup [(.glob 56 (.int 4)),(.loc 68)])])] [.expr (.ì (.loc 83) 0 [(.loc 68)])]]
   ((68,.int a)::LP h J n g) (hP h J n p ms F k q) Z:=by
 refine Ã.g0 (d:=d) 2 [] 1 (Done.ā (j:=2) (ay (h:=h) (a:=a) (J:=J) (g:=g) (n:=n+2) (p:={p with Ì:=p.Ì++q}) (ms:=ms) ?_) [2,2,2,2,2,2,2] [1] rfl (by kernel_rfl));have e1:(k.map V.int).length<lim:=by rw[Xm];exact XN hk (by decide)
 have e2:(q.map V.int).length<lim:=by rw[Xm];exact XN hq (by decide)
 have e3:((p.Ì++q).map val).length<lim:=by rw[Xm,Xr];exact XN hr (by decide)
 cases hd:dead p.À ms g a with
 |false=>exact á.g0 [1] [Õ e1,fs .int k a] 8607238144 (Done.fb (z0 hd) [7,7,0,0,0,0,0,0,0] [] (by kernel_rfl))
 |true=>
  have z1:=z1 hd;rw[hP,<-X4 p.Ì]at z1;exact á.g0 [1] [Õ e2,Õ e3,fs .int q a,fs val (p.Ì++q) a] 18926721114983975290624 (Done.fb z1 [7,7,0,0,0,0,0,0,0] [] (by kernel_rfl))
theorem j8(hf:p.fin.length+p.Ì.length<1000){Z:V->Hp->Prop}(z:Z (.ref (n+1)) ⟨(n+1,.list ((p.fin.filter (dead p.À ms g)).map .int))::(cH h {p with Œ:=n,fin:=p.fin.filter (λ a=>!dead p.À ms g a),Ì:=p.Ì++p.fin.filter (dead p.À ms g)}++[(J,.dict (bU ms))]),cT p.À::F,n+2⟩):
  Spec (d+3) 21 [.ref h,.ref J,.int g] ⟨cH h p++[(J,.dict (bU ms))],cT p.À::F,n⟩ Z:=by
 have l1:∀i,(w3 p ms g i).length<1000:=λ i=>Xs (Xp (XP _ _) (X1 _ _)) (Xs (Ya _ _) hf);have l2:∀i,(Hk p ms g i).length<=p.fin.length:=λ i=>Xp (XP _ _) (X1 _ _);refine Spec.g0 (d:=d) 2 rfl rfl [] 1 (Done.st (j:=2) (S0:=sB 21 [2]) (L:=LP h J n g) (h:=⟨(n+1,.list [])::(n,.list [])::(cH h p++[(J,.dict (bU ms))]),cT p.À::F,n+2⟩) ?_ [] [] (by kernel_rfl));refine Ď.perm (h':=hP h J n p ms F [] []) ⟨by rw[hP,XQ];exact .refl _,rfl⟩ ?_;refine Þ (Ó.p0 (î (a0:=0) (Lf:=λ _=>LP h J n g) (hf:=λ i=>hP h J n p ms F (w3 p ms g i) (Hk p ms g i)) (λ i a=>a=i) p.fin .int (XJ (XN (Xs (Ya _ _) hf) (by decide))) (λ _=>mg 6 rfl) rfl ?_ ?_) 2 [] 2 (by kernel_rfl))
 ·rintro _ i a rfl ha;refine vt (l1 i) (Xs (l2 i) (Xs (Ya _ _) hf)) (Xs (aaq (l2 i) _) (aau _ _▸hf)) (λ hd=>⟨i+1,rfl,rfl,?_⟩) λ hd=>⟨i+1,rfl,rfl,?_⟩
  ·show hP h J n p ms F (w3 p ms g (i+1)) (Hk p ms g (i+1))=_;unfold w3 Hk;rw[Ă ha,Ă ha,hd];simp
  ·show hP h J n p ms F (w3 p ms g (i+1)) (Hk p ms g (i+1))=_;unfold w3 Hk;rw[Ă ha,Ă ha,hd];simp
 ·rintro _ rfl;unfold w3 Hk;rw[X6];exact Į.g0 [] [] 2 (Done.fr z [0,1,1,1,1,0,1,1] [] (by kernel_rfl))
theorem lD{pk:List Int}{r:Nat}(T:ď p.À)(Bx:∀a,a∈å↔cN p.À g Å a)(nd:å.Nodup)(hz:pk.length<1000)(ha:∀a∈pk,a=0\/∃x∈p.À,x.ad=a)
  {Z:V->Hp->Prop} (z:∀ms n',(∀a,a∈ms↔cN p.À g (λ a=>Å a\/a∈pk) a)->ms.Nodup->Z .none ⟨cH h p++[(J,.dict (bU ms))],cT p.À::F,n'⟩):
  Spec (d+6) 53 [.ref h,.ref J,.ref r,.int g] ⟨cH h p++[(J,.dict (bU å)),(r,.list (pk.map .int))],cT p.À::F,n⟩ Z:=by
 have Q0:Ż p.À g (λ a=>Å a\/a∈pk) q_ (å,[]):=⟨λ a ha=>cN.mono (λ _=>.inl) ((Bx a).mp ha),λ _ h=>nm h,nd,λ a ha x hx e _ b hb vh y hy ey hg=>.inl ((Bx b).mpr (.step ((Bx a).mp ha) hx e hb vh hy ey hg))⟩;have D0:tV p g (λ a=>Å a\/a∈pk) å (å,[]):=⟨Q0,λ _ h=>h,Xs (tN _ _) (XN T.small (by decide))⟩;refine Spec.g0 (d:=d) 5 rfl rfl [] 1 (Done.st (j:=5) (S0:=sB 53 [1]) (L:=[(75,.ref h),(76,.ref J),(77,.int g),(173,.ref n),(182,.ref r)]) (h:=⟨cH h p++(cM J n (å,[])++[(r,.list (pk.map .int))]),cT p.À::F,n+1⟩) ?_ [1,1,1,1,1,1,1,0,0] [] (by kernel_rfl));refine Þ (Ó.loc rfl (î (a0:=(å,[])) (Lf:=λ _=>[(75,.ref h),(76,.ref J),(77,.int g),(173,.ref n),(182,.ref r)]) (hf:=λ q=>⟨cH h p++(cM J n q++[(r,.list (pk.map .int))]),cT p.À::F,n+1⟩) (λ i q=>Oe p g (λ a=>Å a\/a∈pk) å [] (λ m=>∀c∈pk.take i,Bw p.À g c->c∈m) q) pk .int (XJ (XN hz (by decide))) (λ _=>mg 8 rfl) ⟨D0,λ _ h=>nm h,λ _ h=>nm h⟩ ?_ ?_))
 ·intro i q c A hc;have hm:=Xt hc;refine Ã.g0 (d:=d) 5 [] 1 (Done.ā (j:=5) (l4 (h:=h) (J:=J) (rw:=n) (n:=n+1) T A.D.ok A.D.bd (ha c hm) (λ x hx e h0 hg=>.ź (.inr hm) h0 hx e hg) λ q' Q' b m y=>?_) [0,0,0,0,0,0,0,0] [1] rfl (by kernel_rfl));exact á.g0 [1] [] 0 (Done.dm q' ⟨⟨Q',λ c hc=>m c (A.D.mono c hc),b▸A.D.bd⟩,λ _ h=>nm h,take_all hc (λ b hb yb=>m b (A.c b hb yb)) fun⟨h0,x,hx,e,hg⟩=>y x hx e h0 hg⟩ [] [] (by kernel_rfl))
 ·intro q A;have Ac:=aO A.c;refine Į.g0 [] [] 1 (Done.ā (j:=5) (j7 (h:=h) (rw:=n) (J:=J) (n:=n+1) T A.D.ok A.D.bd λ n3 q3 Q3 e3 m3=>?_) [0,0,0,0,0,0,0,0] [1] rfl (by kernel_rfl));exact á.g0 [1] [] 0 (Done.fn (z q3.1 n3 (hV Q3 e3 λ a hs hy=>m3 a (hs.elim (λ hs=>A.D.mono a ((Bx a).mpr (hy.2.elim λ x hx=>.ź hs hy.1 hx.1 hx.2.1 hx.2.2))) λ hs=>Ac a hs hy)) Q3.nd) [0,0,0,0,0,0,0] [] (by kernel_rfl))
end
end Mine.Z
namespace Mine.Z
section
variable{d h n L hd rr:Nat}{p:HP}{F:List Ç}{g:Int}{rows:List Row}{rl:List (Nat×List Int)}
theorem vu(À:List È)(ms:List Int)(g sort:Int)(rows:List Row):(rows.map (i8 À ms g sort)).map (·.1)=rows.map (·.1):=by rw[X5];rfl
theorem j9(T:ď p.À)(hm:∀q∈rl,(q.1,.list (q.2.map val))∈F.flatten)(h3:∀r∈rows,r.2.1≠3)(hz:rows.length<1000)(hl:rl.length<90/\∀q∈rl,q.2.length<1000)(Hl:p.fin.length+p.Ì.length<1000)
  (ha:∀q∈rl,∀a∈q.2,a=0\/∃x∈p.À,x.ad=a) (RC:∀a∈p.Ì,a=0\/∃x∈p.À,x.ad=a) (RD:∀a∈p.fin,a=0\/∃x∈p.À,x.ad=a)
  {Z:V->Hp->Prop} (z:∀J k å ms n',ms.Nodup->(∀a,a∈å↔cN p.À g (gj p rl g) a)->(∀a,a∈ms↔cN p.À g (λ a=>gj p rl g a\/a∈p.fin.filter (dead p.À å g)) a)->
   Z (.ref J) ⟨(J,.dict (bU ms))::(cH h {p with Œ:=k,fin:=p.fin.filter (λ a=>!dead p.À å g a),Ì:=p.Ì++p.fin.filter (dead p.À å g)}++((L,œ rl)::aU hd rr (rows.map (·.1)))),cT p.À::cW (rows.map (ra p.À å ms g))::F,n'⟩):
  Spec (d+7) 70 [.ref h,.ref L,.ref hd,.int g] ⟨cH h p++((L,œ rl)::aU hd rr (rows.map (·.1))),cT p.À::cW rows::F,n⟩ Z:=by
 have RE:(rl++[(p.ŕ,p.Ì),(n+1,[])]).length<100:=by rw[Xr];exact Nat.add_lt_add_right (XN hl.1 (Nat.lt_succ_of_le (by decide:90<=97))) 2
 refine Spec.g0 (d:=d) 6 rfl rfl [] 1 (Done.ā (j:=6) (lC (h:=h) (L:=L) (hd:=hd) (n:=n) (rr:=rr) (p:=p) (rl:=rl) (rows:=rows) h3 hz (XN hl.1 (by decide)) ?_) [] [1] rfl (by kernel_rfl))
 have mem:∀{P:Nat×List Int->Prop},(∀q∈rl,P q)->P (p.ŕ,p.Ì)->P (n+1,[])->∀q∈rl++[(p.ŕ,p.Ì),(n+1,[])],P q:=λ U h2 h3 q hq=>by
  rcases XC.mp hq with hq|hq
  ·exact U q hq
  ·rcases XE.mp hq with rfl|hq
   ·exact h2
   ·cases XH.mp hq;exact h3
 refine á.g0 [] [] 1 (Done.call (j:=6) (Ct (h:=h) (L:=n) (g:=g) (n:=n+2) (p:=p) (rl:=rl++[(p.ŕ,p.Ì),(n+1,[])]) (F:=[(n+1,.list []),(L,œ rl),(hd,.inst 2 [(4,.ref rr)]),(rr,.list ((rows.map (·.1)).map .ref))]::cW rows::F) T
  (mem (λ q hq=>Xw _ (Xw _ (Xw _ (hm q hq)))) (mg 5 rfl) (Xw _ (.head _))) ⟨RE,mem hl.2 (Xs (YH _ _) Hl) (Y0 _)⟩ (mem ha RC λ _ h=>nm h) λ å n2 q2 nd=>?_) [2,2,2,2,2,2,0] [2,0,0] (by kernel_rfl))
 refine á.g0 [1] [] 256 (Done.call2 (j:=6) (aV (hd:=hd) (sort:=1) (J:=n+2) (h:=h) (g:=g) (n:=n2) (rr:=rr) (p:=p) (rows:=rows) (ms:=å) rfl hz λ k1=>?_) [10,10,1,1,1,1,1,1,0] [1,1] rfl (by kernel_rfl));refine á.g0 [2] [] 1 (Done.ā (j:=6) (j8 (h:=h) (J:=n+2) (g:=g) (n:=n2) (p:=p) (ms:=å) Hl ?_) [2,2,2,2,2,2,2] [1] rfl (by kernel_rfl));refine á.g0 [1] [] 1 (Done.ā (j:=6) (lD (h:=h) (J:=n+2) (r:=n2+1) (n:=n2+2) (å:=å) (pk:=p.fin.filter (dead p.À å g)) (p:={p with Œ:=n2,fin:=p.fin.filter (λ a=>!dead p.À å g a),Ì:=p.Ì++p.fin.filter (dead p.À å g)}) T q2 nd (Xs (XP _ _) (Xs (Ya _ _) Hl)) (λ a h=>RD a (XG.mp h).1) λ ms n4 q4 nd4=>?_) [1,1,1,1,1,1,1,0] [1] rfl (by kernel_rfl));refine á.g0 [1] [] 256 (Done.call2 (j:=6) (aV (hd:=hd) (sort:=2) (J:=n+2) (h:=h) (g:=g) (n:=n4) (rr:=rr) (ms:=ms) (p:={p with Œ:=n2,fin:=p.fin.filter (λ a=>!dead p.À å g a),Ì:=p.Ì++p.fin.filter (dead p.À å g)}) (rows:=rows.map (i8 p.À å g 1)) (vu _ _ _ _ _) (by rw[Xm];exact hz) λ k5=>?_) [7,7,0,0,0,0,0,0,0] [1,1] rfl (by kernel_rfl));have zz:=z (n+2) n2 å ms n4 nd4 (λ a=>(q2 a)^(cN.iff o5 a)) λ a=>(q4 a)^(cN.iff (λ a=>or_congr_left (o5 a)) a);rw[show rows.map (ra p.À å ms g)=(rows.map (i8 p.À å g 1)).map (i8 p.À ms g 2) by rw[X5];rfl]at zz;exact á.g0 [2] [] 0 (Done.fr zz [8,2,2,2,2,2,2,4,0,0] [] (by kernel_rfl))
end
end Mine.Z
namespace Mine.Z
theorem jj(l:List V)(i:Nat):Ū l (i:Int)=l[i]?:=č (YG i) rfl
section
variable{d h n J:Nat}{p:HP}{F:List Ç}{g:Int}{ms:List Int}
theorem Hm{A B:List È}(hp:p.À=A++B)(hA:∀(i:Nat) (x:È),A[i]?\x->g<x.gn/\x.ad=16+4*i)(hB:∀x∈B,x.gn<=g)(hz:p.À.length<300){Z:V->Hp->Prop}(z:Z (.int (16+4*A.length)) ⟨cH h p,cT p.À::F,n⟩):
  Spec (d+1) 58 [.ref h,.int g] ⟨cH h p,cT p.À::F,n⟩ Z:=by
 refine Spec.g0 (d:=d) 0 rfl rfl [] 1 (Done.st (j:=0) (S0:=sB 58 [1]) (L:=[(75,.ref h),(77,.int g),(186,.int 16)]) (h:=⟨cH h p,cT p.À::F,n⟩) ?_ [] [] (by kernel_rfl));refine Þ (Ó.p0 (î (a0:=(16:Int)) (Lf:=λ c=>[(75,.ref h),(77,.int g),(186,.int c)]) (hf:=λ _=>⟨cH h p,cT p.À::F,n⟩) (λ i c=>c=16+4*((min i A.length:Nat):Int)) p.À (λ x=>.ref x.t) (XJ (XN hz (by decide))) (λ _=>mg 1 rfl) (by rw[Nat.zero_min];rfl) ?_ ?_) 0 [] 0 (by kernel_rfl))
 ·intro i c x e hx;have hm:=Xt hx;by_cases hi:i<A.length
  ·rw[hp,Yp hi]at hx;obtain⟨U,h2⟩:=hA i x hx;have e1:c<x.ad+4:=by rw[e,h2,Zv (XJ hi)];exact li [_] [] .e 0 (.a (.a (.k 16) (.m 4 (.n (.v 0)))) (.k 1)) (.a (.a (.k 16) (.m 4 (.n (.v 0)))) (.k 4)) rfl
   have e2:x.ad+4=16+4*((min (i+1) A.length:Nat):Int):=by rw[h2,Zv hi];exact iq [_] [] (.a (.a (.k 16) (.m 4 (.n (.v 0)))) (.k 4)) (.a (.k 16) (.m 4 (.n (.a (.v 0) (.k 1))))) rfl
   exact Ã.go (d:=d) 0 _ (in1 (ĥ hm)) [Õ U,Õ e1] 54254313584722368 (Done.dm (x.ad+4) e2 [] [] (by kernel_rfl))
  ·have e2:c=16+4*((min (i+1) A.length:Nat):Int):=by rw[e,aaU (aaz.mp hi),aaU (aaM (aaz.mp hi))]
   have U:¬g<x.gn:=Yc.mpr (hB x (by rw[hp,YC (aaz.mp hi)]at hx;exact Xt hx));exact Ã.go (d:=d) 0 _ (in1 (ĥ hm)) [į U] 448 (Done.dm c e2 [] [] (by kernel_rfl))
 ·rintro _ rfl;rw[aaU (by rw[hp,Xr];exact Ya _ _)];exact Į.g0 [] [] 0 (Done.fr z [] [] (by kernel_rfl))
def Oh(h J r:Nat)(p:HP)(ms:List Int)(F:List Ç)(l:List (Int×Int)):Hp:=⟨(r,.dict (š l))::(cH h p++[(J,.dict (bU ms))]),cT p.À::F,r+1⟩
def Oi(h J r:Nat)(g c:Int):LV:=[(75,.ref h),(76,.ref J),(77,.int g),(82,.ref r),(187,.int c)]
theorem Cu(T:ď p.À){A B:List È}(hp:p.À=A++B)(hA:∀(i:Nat) (x:È),A[i]?\x->g<x.gn/\x.ad=16+4*i)(hB:∀x∈B,x.gn<=g){Z:V->Hp->Prop}(z:Z (.ref n) (Oh h J n p ms F (Ş (16+4*A.length) (p.À.filter (wY g ms))))):
  Spec (d+2) 59 [.ref h,.ref J,.int g] ⟨cH h p++[(J,.dict (bU ms))],cT p.À::F,n⟩ Z:=by
 refine Spec.g0 (d:=d) 1 rfl rfl [] 1 (Done.ā (j:=1) (Hm (h:=h) (n:=n+1) (p:=p) hp hA hB T.small ?_) [1,1,1,1,1,1] [1] rfl (by kernel_rfl));refine á.g0 [1] [] 1 (Done.st (j:=1) (S0:=sB 59 [2]) (L:=Oi h J n g (16+4*A.length)) (h:=Oh h J n p ms F []) ?_ [6,0,0,0,0,0,0,0] [] (by kernel_rfl));refine Þ (Ó.p0 (î (a0:=[]) (Lf:=λ l=>Oi h J n g (16+4*A.length+4*(l.length:Int))) (hf:=λ l=>Oh h J n p ms F (Ş (16+4*A.length) l)) (λ i l=>l=(p.À.take i).filter (wY g ms)) p.À (λ x=>.ref x.t) (XJ (XN T.small (by decide))) (λ _=>mg 2 rfl) rfl ?_ ?_) 1 [] 1 (by kernel_rfl))
 ·intro i l x e hx;have hm:=Xt hx;have e2:=Ă (f:=wY g ms) hx;rw[<-e]at e2;by_cases U:x.gn<=g
  ·by_cases h2:x.ad∈ms
   ·rw[XR (by simp[wY,U,h2])]at e2
    have hn:x.ad∉(Ş (16+4*A.length) l).map (·.1):=by rw[hW,e];intro q;obtain⟨y,hy,ey⟩:=Xx.mp q;have hy:=(XG.mp hy).1;obtain⟨hi,ei⟩:=Xv.mp hx;have nd:=T.nd;unfold Bv at nd;rw[<-YN i p.À,XF,Yn,Yv hi,ei]at nd;exact nd.2.2 _ (Xx.mpr ⟨y,hy,ey⟩) _ (.head _) rfl
    have hl:l.length<300:=e▸Xs (Xp (XP _ _) (X1 _ _)) T.small;have c1:ó (.int x.ad)=true/\(š (Ş (16+4*A.length) l)).length<lim:=⟨rfl,by rw[š,Xm,vi];exact XN hl (by decide)⟩;have c2:=eS (b:=16+4*A.length+4*(l.length:Int)) hn;rw[<-rb]at c2;refine Ã.go (d:=d) 1 _ (in1 (ĥ hm)) [Õ U,gf (ib ms x.ad),Õ h2,Õ c1,Bt c2] 15211813266271152727264258425280 (Done.Ĳ (Z:=ZB _) (fl:=.next) (L:=Oi h J n g (16+4*A.length+4*(l.length:Int)+4)) (h:=Oh h J n p ms F (Ş (16+4*A.length) (l++[x]))) ⟨.refl _,rfl⟩ ⟨l++[x],e2.symm,?_,rfl⟩ [] [] (by kernel_rfl));show Oi h J n g (16+4*A.length+4*((l++[x]).length:Int))=_;rw[Xr,Int.natCast_add,aaI,<-Zx];rfl
   ·rw[XW (by simp[wY,h2]),XQ]at e2;exact Ã.go (d:=d) 1 _ (in1 (ĥ hm)) [Õ U,gf (ib ms x.ad),į h2] 846624083411392 (Done.dm l e2.symm [] [] (by kernel_rfl))
  ·rw[XW (by simp[wY,U]),XQ]at e2;exact Ã.go (d:=d) 1 _ (in1 (ĥ hm)) [į U] 448 (Done.dm l e2.symm [] [] (by kernel_rfl))
 ·rintro _ rfl;rw[X6];exact Į.g0 [] [] 0 (Done.fr z [] [] (by kernel_rfl))
end
end Mine.Z
namespace Mine.Z
section
variable{d n J w r:Nat}{F:List Ç}{l:List (Int×Int)}{as:List Int}
variable{rl:List (Nat×List Int)}
theorem tY(l:List (Int×Int))(a:Int):(è (š l) (.int a)).map (λ q=>q.getD (.int a))\(.int (mv l a)):=by rw[jg];unfold mv;cases l.find? λ q=>decide (q.1=a)<;>rfl
theorem đ{k:Nat}(h:k<1000):k<lim:=XN h (by decide)
theorem i9(hr:(r,.list (as.map val))∈F.flatten)(hz:as.length<1000){Z:V->Hp->Prop}(z:Z (.ref n) ⟨(n,.list ((as.map (mv l)).map val))::[(J,.dict (š l))],F,n+1⟩):
  Spec (d+3) 62 [.ref r,.ref J,.ref w] ⟨[(J,.dict (š l))],F,n⟩ Z:=by
 refine Spec.g0 (d:=d) 2 rfl rfl [] 1 (Done.st (j:=2) (S0:=sB 62 [1]) (L:=[(179,.ref r),(82,.ref J),(62,.ref w),(72,.ref n)]) (h:=⟨(n,.list [])::[(J,.dict (š l))],F,n+1⟩) ?_ [] [] (by kernel_rfl));refine Þ (Ó.loc rfl (î (a0:=[]) (Lf:=λ _=>[(179,.ref r),(82,.ref J),(62,.ref w),(72,.ref n)]) (hf:=λ o=>⟨(n,.list (o.map val))::[(J,.dict (š l))],F,n+1⟩) (λ i o=>o=(as.take i).map (mv l)) as val (XJ (đ hz)) (λ _=>Xw _ hr) rfl ?_ ?_))
 ·rintro i o a e ha;have e1:(o.map val).length<lim:=by rw[Xm,e,Xm];exact đ (Xs (X1 _ _) hz)
  exact Ã.g0 (d:=d) 2 [ë (tY l a),Õ e1,fs val o (mv l a)] 17171574143156139036779506083308859157347565568 (Done.dm (o++[mv l a]) (by rw[e,take_snoc ha,XF];rfl) [] [] (by kernel_rfl))
 ·rintro _ rfl;rw[X6];exact Į.g0 [] [] 0 (Done.fr z [] [] (by kernel_rfl))
theorem j_(hr:(r,.list (as.map .int))∈F.flatten)(hz:as.length<1000){Z:V->Hp->Prop}(z:Z (.ref n) ⟨(n,.list ((as.map (mv l)).map .int))::[(J,.dict (š l))],F,n+1⟩):
  Spec (d+1) 65 [.ref r,.ref J] ⟨[(J,.dict (š l))],F,n⟩ Z:=by
 refine Spec.g0 (d:=d) 0 rfl rfl [] 1 (Done.st (j:=0) (S0:=sB 65 [1]) (L:=[(182,.ref r),(82,.ref J),(72,.ref n)]) (h:=⟨(n,.list [])::[(J,.dict (š l))],F,n+1⟩) ?_ [] [] (by kernel_rfl));refine Þ (Ó.loc rfl (î (a0:=[]) (Lf:=λ _=>[(182,.ref r),(82,.ref J),(72,.ref n)]) (hf:=λ o=>⟨(n,.list (o.map .int))::[(J,.dict (š l))],F,n+1⟩) (λ i o=>o=(as.take i).map (mv l)) as .int (XJ (đ hz)) (λ _=>Xw _ hr) rfl ?_ ?_))
 ·rintro i o a e ha;have e1:(o.map V.int).length<lim:=by rw[Xm,e,Xm];exact đ (Xs (X1 _ _) hz)
  exact Ã.g0 (d:=d) 0 [ë (tY l a),Õ e1,fs .int o (mv l a)] 216735736362238208 (Done.dm (o++[mv l a]) (by rw[e,take_snoc ha,XF];rfl) [] [] (by kernel_rfl))
 ·rintro _ rfl;rw[X6];exact Į.g0 [] [] 0 (Done.fr z [] [] (by kernel_rfl))
def lE(l:List (Int×Int))(q:Nat×List Int):List Int:=q.2.map (mv l)
theorem grow{E:Ç}{q:Nat×List Int}{F:List Ç}{n:Nat}:Ô ⟨oj q++E,cR rl::F,n⟩ ⟨E,cR (rl++[q])::F,n⟩:=by refine⟨?_,rfl⟩;show((oj q++E)++(cR rl++F.flatten)).Perm (E++(cR (rl++[q])++F.flatten));unfold cR;rw[XZ,Yf,aae,XQ];simp only[X4];exact(YY _ _ _)^((YY _ _ _).append_left _)
def RF(n J:Nat)(l:List (Int×Int))(F:List Ç)(a:List (Nat×List Int)×Nat):Hp:=⟨(n,œ a.1)::[(J,.dict (š l))],cR a.1::F,a.2⟩
theorem ţ(rl:List (Nat×List Int))(q:Nat×List Int):O.list ((rl.map λ q=>V.ref q.1)++[.ref q.1])=œ (rl++[q]):=tL (f:=λ q:Nat×List Int=>V.ref q.1) rl q
theorem ni{ev:List (Nat×List Int)}{L:Nat}(hL:(L,œ ev)∈F.flatten)(hm:∀q∈ev,(q.1,.list (q.2.map val))∈F.flatten)(hz:ev.length<1000/\∀q∈ev,q.2.length<1000)
  {Z:V->Hp->Prop} (z:∀fr n',fr.map (·.2)=ev.map (lE l)->Z (.ref n) (RF n J l F (fr,n'))):
  Spec (d+4) 63 [.ref L,.ref J,.ref w] ⟨[(J,.dict (š l))],F,n⟩ Z:=by
 refine Spec.g0 (d:=d) 3 rfl rfl [] 1 (Done.st (j:=3) (S0:=sB 63 [1]) (L:=[(178,.ref L),(82,.ref J),(62,.ref w),(72,.ref n)]) (h:=⟨(n,.list [])::[(J,.dict (š l))],F,n+1⟩) ?_ [] [] (by kernel_rfl));refine Ď.perm (h':=RF n J l F ([],n+1)) ⟨.refl _,rfl⟩ ?_;refine Þ (Ó.loc rfl (î (a0:=([],n+1)) (Lf:=λ _=>[(178,.ref L),(82,.ref J),(62,.ref w),(72,.ref n)]) (hf:=RF n J l F) (λ i a=>a.1.map (·.2)=(ev.take i).map (lE l)) ev (λ q=>.ref q.1) (XJ (đ hz.1)) (λ _=>Xw _ (Xw _ hL)) rfl ?_ ?_))
 ·intro i a q e hq;have yW:=Xt hq
  have e1:(a.1.map λ q=>V.ref q.1).length<lim:=by have:=Xq List.length e;rw[Xm,Xm]at this;rw[Xm,this];exact đ (Xs (X1 _ _) hz.1)
  refine Ã.g0 (d:=d) 3 [] 256 (Done.call (j:=3) (i9 (J:=J) (w:=w) (n:=a.snd) (l:=l) (r:=q.1) (as:=q.2) (F:=[(n,œ a.1)]::cR a.1::F) (Xw _ (Xw _ (hm q yW))) (hz.2 q yW) ?_) [1] [] (by kernel_rfl));refine á.g0 [0] [Õ e1,fO (ţ a.1 (a.2,lE l q))] 131330 (Done.Ĳ (Z:=ZB _) (L:=[(178,.ref L),(82,.ref J),(62,.ref w),(72,.ref n)]) (fl:=.next) (h:=⟨oj (a.2,lE l q)++((n,œ (a.1++[(a.2,lE l q)]))::[(J,.dict (š l))]),cR a.1::F,a.2+1⟩) grow ⟨(a.1++[(a.2,lE l q)],a.2+1),?_,rfl,rfl⟩ [0,1,0] [] (by kernel_rfl));show(a.1++[(a.2,lE l q)]).map (·.2)=_;rw[XF,e,take_snoc hq,XF];rfl
 ·intro a e;rw[X6]at e;exact Į.g0 [] [] 0 (Done.fr (z a.1 a.2 e) [] [] (by kernel_rfl))
end
end Mine.Z
namespace Mine.Z
section
variable{d n L Fr:Nat}{F:List Ç}{ev fr:List (Nat×List Int)}
def mix(a b:List Int)(i:Nat):List Int:=a.take i++b.drop i
theorem Cv{a b:List Int}(h:a.length=b.length)(i:Nat):(mix a b i).length=b.length:=by unfold mix;rw[Xr,Y4,List.length_drop,h];exact(aau _ _)^(Nat.min_comm i _▸Nat.sub_add_min_cancel _ _)
theorem Cw{a b:List Int}(h:a.length=b.length){i:Nat}{x:Int}(hx:a[i]?\x):(mix a b i).set i x=mix a b (i+1):=by
 have hi:i<b.length:=h▸(Xv.mp hx).1;have e:(a.take i).length=i:=by rw[Y4,h,Zv (XJ hi)]
 unfold mix;rw[Z8 _ _ (XB e),e,Z5,Yv hi,aay,take_snoc hx,X4];rfl
theorem Cy{a b:List Int}(h:a.length=b.length):mix a b b.length=a:=by unfold mix;rw[<-h,X6,h,aad,XQ]
def Oj(L Fr i:Nat)(q:Nat):LV:=[(178,.ref L),(101,.ref Fr),(60,.int i),(179,.ref q)]
def Ol(L Fr:Nat)(ev fr:List (Nat×List Int))(C:Ç)(F:List Ç)(n a:Nat)(v:List Int):Hp:=⟨(a,.list (v.map val))::[(L,œ ev),(Fr,œ fr)],C::cR fr::F,n⟩
theorem Cz{C:Ç}{i:Nat}{q f:Nat×List Int}(hf:fr[i]?\f)(hl:f.2.length=q.2.length)(hz:q.2.length<1000){Z:LV->Hp->Prop}(z:Z (Oj L Fr i q.1) (Ol L Fr ev fr C F n q.1 f.2)):
  Ď (d+1) (.Č 191 (.bi 15 .len [(.loc 179)]) (some 10) [.é (.loc 179) (.loc 191) (.sub (.sub (.loc 101) (.loc 60)) (.loc 191))]) (Oj L Fr i q.1) (Ol L Fr ev fr C F n q.1 q.2) Z:=by
 have e0:((q.2.map val).length:Int)=((q.2.length:Nat):Int):=by rw[Xm]
 refine jU (a0:=q.2) (Lf:=λ _=>Oj L Fr i q.1) (hf:=Ol L Fr ev fr C F n q.1) (λ k v=>v=mix f.2 q.2 k) (n:=q.2.length) (e0▸É.g0 (d:=d) 1 [] 0 (by kernel_rfl)) (XJ (đ hz)) (by simp[mix]) ?_ ?_
 ·rintro k v e hk;have hx:f.2[k]?\(f.2[k]'(hl▸hk)):=Xz (hl▸hk);have hfm:=Xt hf;have hv:v.length=q.2.length:=e▸Cv hl k;have c1:Ū (fr.map λ q=>V.ref q.1) i\(.ref f.1):=by rw[jj,X3,hf];rfl
  have c2:Ū (f.2.map val) k\(val f.2[k]):=by rw[jj,X3,hx];rfl
  have c3:0<=(k:Int)/\(k:Int).toNat<(v.map val).length:=⟨YG k,by rw[Xm,hv];exact hk⟩;have c4:O.list ((v.map val).set (k:Int).toNat (val f.2[k]))=.list ((v.set k f.2[k]).map val):=Xq O.list ZH.symm;exact Ã.go (d:=d) 1 _ (in1 (Hh hfm)) [ë c1,ë c2,Õ c3,fO c4] 1129198487863554 (Done.dm (v.set k f.2[k]) (e▸Cw hl hx) [] [] (by kernel_rfl))
 ·rintro _ rfl;rw[Cy hl];exact z
def w5(ev fr:List (Nat×List Int))(i:Nat):List (Nat×List Int):=(List.zipWith (λ q f=>(q.1,f.2)) ev fr).take i++ev.drop i
theorem nj(hm:fr.map (λ q=>q.2.length)=ev.map (λ q=>q.2.length))(hz:ev.length<1000/\∀q∈ev,q.2.length<1000)
  {Z:V->Hp->Prop} (z:Z .none ⟨[(L,œ ev),(Fr,œ fr)],cR (List.zipWith (λ q f=>(q.1,f.2)) ev fr)::cR fr::F,n⟩):
  Spec (d+2) 64 [.ref L,.ref Fr] ⟨[(L,œ ev),(Fr,œ fr)],cR ev::cR fr::F,n⟩ Z:=by
 have hlen:fr.length=ev.length:=by have:=Xq List.length hm;rw[Xm,Xm]at this;exact this
 refine Spec.g0 (d:=d) 1 rfl rfl [] 1 (Done.st (j:=1) (S0:=sB 64 [0]) (L:=[(178,.ref L),(101,.ref Fr)]) (h:=⟨[(L,œ ev),(Fr,œ fr)],cR ev::cR fr::F,n⟩) ?_ [] [] (by kernel_rfl));have e0:((ev.map λ q=>V.ref q.1).length:Int)=((ev.length:Nat):Int):=by rw[Xm]
 have zl:(List.zipWith (fun(q f:Nat×List Int)=>(q.1,f.2)) ev fr).length=ev.length:=by rw[List.length_zipWith,hlen,Nat.min_self]
 refine jU (a0:=ev) (Lf:=λ _=>[(178,.ref L),(101,.ref Fr)]) (hf:=λ ev'=>⟨[(L,œ ev),(Fr,œ fr)],cR ev'::cR fr::F,n⟩) (λ i a=>a=w5 ev fr i) (n:=ev.length) (e0▸É.g0 (d:=d) 1 [] 0 (by kernel_rfl)) (XJ (đ hz.1)) (by simp[w5]) ?_ ?_
 ·rintro i _ rfl hi;have hq:ev[i]?=some ev[i]:=Xz hi;have hf:fr[i]?\(fr[i]'(hlen▸hi)):=Xz (hlen▸hi);generalize ev[i]=q at hq;generalize fr[i]=f at hf;have yW:=Xt hq
  have hl:f.2.length=q.2.length:=by have:=Xq (·[i]?) hm;simp only[X3,hq,hf,Zf,Option.some.injEq]at this;exact this
  have c1:Ū (ev.map λ q=>V.ref q.1) i\(.ref q.1):=by rw[jj,X3,hq];rfl
  have e1:((List.zipWith (fun(q f:Nat×List Int)=>(q.1,f.2)) ev fr).take i).length=i:=by rw[Y4,zl,Zv (XJ hi)]
  have a1:(w5 ev fr i)[i]?\q:=by rw[w5,YC (XB e1),e1,Z5,List.getElem?_drop];exact hq
  have a2:(w5 ev fr i).set i (q.1,f.2)=w5 ev fr (i+1):=by
   have hz:(List.zipWith (fun(q f:Nat×List Int)=>(q.1,f.2)) ev fr)[i]?\(q.1,f.2):=by rw[List.getElem?_zipWith,hq,hf]
   obtain⟨Hn,ei⟩:=Xv.mp hq;rw[w5,Z8 _ _ (XB e1),e1,Z5,Yv hi,aay,w5,take_snoc hz,X4];rfl
  refine Ã.perm (Bu a1) (Ã.g0 (d:=d) 1 [ë c1] 65793 (Done.st (L:=Oj L Fr i q.1) (h:=Ol L Fr ev fr (cut oj (w5 ev fr i) i) F n q.1 q.2) (Cz hf hl (hz.2 q yW) ?_) [] [] (by kernel_rfl)));exact Į.g0 [] [] 0 (Done.Ĳ (Z:=ZB _) (L:=[(178,.ref L),(101,.ref Fr)]) (fl:=.next) (h:=⟨oj (q.1,f.2)++[(L,œ ev),(Fr,œ fr)],cut oj (w5 ev fr i) i::cR fr::F,n⟩) (gh a1) ⟨w5 ev fr (i+1),rfl,rfl,by rw[a2];rfl⟩ [] [] (by kernel_rfl))
 ·rintro _ rfl;rw[w5,<-zl,X6,zl,aad,XQ];exact Į.g0 [] [] 0 (Done.fn z [] [] (by kernel_rfl))
end
end Mine.Z
namespace Mine.Z
theorem ig(l:List (Int×Int))(a:Int):(è (š l) (.int a)).map Option.isSome\(decide (a∈l.map (·.1))):=by rw[jg,Zf,Z4,aP]
theorem gq{l:List (Int×Int)}{a:Int}(h:a∈l.map (·.1)):(è (š l) (.int a)).join\(.int (mv l a)):=by have:=aP l a;rw[XI h]at this;obtain⟨q,hq⟩:=X_.mp this;rw[jg,mv,hq];rfl
section
variable{d h n J:Nat}{p:HP}{F:List Ç}{g:Int}{l:List (Int×Int)}{x:È}
def TX(h J:Nat)(p:HP)(l:List (Int×Int))(F:List Ç)(n:Nat)(x:È):Hp:=⟨[(h,Ca p),(x.t,lX x),(J,.dict (š l))],F,n⟩
theorem vv(hk:Í l g x=true){Z:V->Hp->Prop}(z:∀m,Z .none (TX h J {p with qH:=m} l F n (nw l g x))):Spec (d+1) 66 [.ref h,.ref x.t,.ref J,.int g] (TX h J p l F n x) Z:=by
 by_cases U:g<x.gn
 ·have e:nw l g x=x:=by unfold nw tS J2 ng;rw[XR U,XR U]
  have z:=z p.qH;rw[e]at z;exact Spec.g0 0 rfl rfl [Õ U] 257 (Done.fr z [] [] (by kernel_rfl))
 ·have Om:x.ad∈l.map (·.1):=by
   unfold Í at hk;rw[XY U]at hk;exact XA hk
  have e1:tS l g x=mv l x.ad:=XW U;by_cases h3:x.gn<2
  ·have e:nw l g x={x with ad:=mv l x.ad,gn:=x.gn+1}:=by unfold nw J2 ng;rw[e1,XW U,XR h3]
   rw[e]at z;by_cases h2:mv l x.ad=x.ad
   ·have c:(!decide (mv l x.ad=x.ad))=false:=by rw[XI h2];rfl
    exact Spec.g0 0 rfl rfl [į U,ë (gq Om),eQ c,Õ h3] 5212896490273564840850416338010369 (Done.fn (z p.qH) [] [] (by kernel_rfl))
   ·have c:(!decide (mv l x.ad=x.ad))=true:=by rw[XY h2];rfl
    exact Spec.g0 0 rfl rfl [į U,ë (gq Om),eQ c,Õ h3] 22389219943158142155114583055181731212624129 (Done.fn (z (p.qH+1)) [] [] (by kernel_rfl))
  ·have e:nw l g x={x with ad:=mv l x.ad}:=by unfold nw J2 ng;rw[e1,XW U,XW h3]
   rw[e]at z;by_cases h2:mv l x.ad=x.ad
   ·have c:(!decide (mv l x.ad=x.ad))=false:=by rw[XI h2];rfl
    exact Spec.g0 0 rfl rfl [į U,ë (gq Om),eQ c,į h3] 317222135085541895972757504257 (Done.fn (z p.qH) [] [] (by kernel_rfl))
   ·have c:(!decide (mv l x.ad=x.ad))=true:=by rw[XY h2];rfl
    exact Spec.g0 0 rfl rfl [į U,ë (gq Om),eQ c,į h3] 1362458695758766932240883030837044510977 (Done.fn (z (p.qH+1)) [] [] (by kernel_rfl))
def TY(h:Nat)(p:HP)(A B:List È):Ç:=[(h,Ca p),(p.jV,.list (eA A)),(p.rat,.dict (gX B)),(p.wW,.dict (bU p.ä)),(p.Œ,.list (p.fin.map .int)),(p.ŕ,.list (p.Ì.map val))]
theorem l6{P:Prop}(k1:g<x.gn->P)(k2:¬g<x.gn->x.ad∈l.map (·.1)->P)(k3:¬g<x.gn->x.ad∉l.map (·.1)->P):P:=if U:g<x.gn then k1 U else if h2:x.ad∈l.map (·.1)then k2 U h2 else k3 U h2
def Oo(h J n:Nat)(p:HP)(l:List (Int×Int))(F:List Ç)(o:List È):Hp:=⟨(n,.list (eA o))::(cH h p++[(J,.dict (š l))]),cT p.À::F,n+1⟩
def CA(h J n:Nat)(g:Int):LV:=[(75,.ref h),(82,.ref J),(77,.int g),(192,.ref n)]
theorem CB(hz:p.À.length<300){Z:LV->Hp->Prop}(z:Z (CA h J n g) (Oo h J n p l F (p.À.filter (Í l g)))):
  Ď (d+2) (.Č 78 (.attr (.loc 75) 98) none [.ite (.Ñ 193 61 [(.loc 78),(.loc 82),(.loc 77)]) [.expr (.ì (.loc 192) 0 [(.loc 78)])] []]) (CA h J n g) (Oo h J n p l F []) Z:=by
 refine Þ (Ó.p0 (î (a0:=[]) (Lf:=λ _=>CA h J n g) (hf:=Oo h J n p l F) (λ i o=>o=(p.À.take i).filter (Í l g)) p.À (λ x=>.ref x.t) (XJ (XN hz (by decide))) (λ _=>mg 2 rfl) rfl ?_ ?_) 2 [] 1 (by kernel_rfl))
 ·intro i o x e hx;have e2:=Ă (f:=Í l g) hx;rw[<-e]at e2;have R:=in1 (ĥ (F:=F) (Xt hx));have c:(eA o).length<lim:=by rw[eA,Xm,e];exact XN (Xs (Xp (XP _ _) (X1 _ _)) hz) (by decide)
  refine l6 (g:=g) (x:=x) (l:=l) (λ U=>?_) (λ U h2=>?_) λ U h2=>?_
  ·rw[XR (by unfold Í;rw[XI U];rfl)]at e2;exact Ã.go (d:=d) 2 _ R [Õ U,Õ c,fs (λ x:È=>.ref x.t) o x] 216735732067319808 (Done.dm (o++[x]) e2.symm [] [] (by kernel_rfl))
  ·rw[XR (by unfold Í;rw[XI h2,aav])]at e2;exact Ã.go (d:=d) 2 _ R [į U,gf (ig l x.ad),Õ h2,Õ c,fs (λ x:È=>.ref x.t) o x] 1552260752601919625676046336 (Done.dm (o++[x]) e2.symm [] [] (by kernel_rfl))
  ·rw[XW (by unfold Í;rw[XY U,XY h2];exact Yy),XQ]at e2;exact Ã.go (d:=d) 2 _ R [į U,gf (ig l x.ad),į h2] 216735765353316352 (Done.dm o e2.symm [] [] (by kernel_rfl))
 ·rintro _ rfl;rw[X6];exact z
def pS(p:HP)(o k:Nat)(i m:Int):HP:={p with jV:=o,rat:=k,top:=16+4*i,qH:=m}
def Ho(h J o k:Nat)(p:HP)(l:List (Int×Int))(g:Int)(K:List È)(F:List Ç)(n i:Nat)(m:Int):Hp:=⟨TY h (pS p o k i m) K ((K.take i).map (nw l g))++[(J,.dict (š l))],cT (Ŏ (nw l g) K i)::F,n⟩
theorem nk{o k i:Nat}{m:Int}{K:List È}(hK:∀x∈K,Í l g x=true)(hz:K.length<300)(kc:∀(i:Nat) (x:È),K[i]?\x->tS l g x=16+4*i)(hx:K[i]?\x){Z:LV->Hp->Prop}(z:∀m',Z (CA h J o g) (Ho h J o k p l g K F n (i+1) m')):
  Ã (d+2) [.expr (.Ñ 194 66 [(.loc 75),(.loc 78),(.loc 82),(.loc 77)]),.é (.attr (.loc 75) 79) (.attr (.loc 78) 68) (.loc 78),.mA (.loc 75) 59 (.bin .add (.attr (.loc 78) 68) (.attr (.loc 78) 93))] ((78,.ref x.t)::CA h J o g) (Ho h J o k p l g K F n i m) Z:=by
 refine Ã.perm (Bu (Ů hx)) (Ã.g0 (d:=d) 2 [] 1 (Done.lV (j:=2) (vv (h:=h) (J:=J) (n:=n) (p:=pS p o k i m) (hK x (Xt hx)) λ m'=>?_) [2,0,6] [] rfl (by kernel_rfl)))
 have hy:∀y∈(K.take i).map (nw l g),y.ad≠(nw l g x).ad:=λ y hy e=>by
  obtain⟨j,hj⟩:=YW hy;rw[X3]at hj;obtain⟨w,hw,rfl⟩:=Zr.mp hj;rw[List.getElem?_take]at hw;split at hw
  ·rename_i hji;have e1:tS l g w=tS l g x:=e;rw[kc j w hw,kc i x hx]at e1;exact lL [_,_] [] (.c 4 (.a (.v 0) (.k 1)) (.v 1) (.i 1 (.a (.k 16) (.m 4 (.n (.v 1)))) (.a (.k 16) (.m 4 (.n (.v 0)))) .e)) rfl hji (Xu e1.symm)
  ·exact ns hw
 have c1:ó (.int (nw l g x).ad)=true/\(gX ((K.take i).map (nw l g))).length<lim:=⟨rfl,by rw[gX,Xm,Xm];exact XN (Xs (X1 _ _) hz) (by decide)⟩;have c2:=jY hy;rw[Rf]at c2;have e1:(nw l g x).ad+4=16+4*((i+1:Nat):Int):=by show tS l g x+4=_;rw[kc i x hx];exact iq [_] [] (.a (.a (.k 16) (.m 4 (.n (.v 0)))) (.k 4)) (.a (.k 16) (.m 4 (.n (.a (.v 0) (.k 1))))) rfl
 have e2:(K.take i).map (nw l g)++[nw l g x]=(K.take (i+1)).map (nw l g):=by rw[take_snoc hx,XF];rfl
 refine á.g0 [0] [Õ c1,Bt c2] 72339077621678336 (Done.Ĳ (Z:=ZB Z) (L:=CA h J o g) (fl:=.next) (h:=⟨oh (nw l g x)++(TY h {pS p o k i m' with top:=(nw l g x).ad+4} K ((K.take i).map (nw l g)++[nw l g x])++[(J,.dict (š l))]),cut oh (Ŏ (nw l g) K i) i::F,n⟩) (h':=Ho h J o k p l g K F n (i+1) m') ?_ (z m') [1,2,0,1,1,1,1,1,0] [] (by kernel_rfl));rw[e1,e2,Ho,<-aT hx];exact gh (Ů hx)
theorem ij(hz:p.À.length<300)(kc:∀(i:Nat) (x:È),(p.À.filter (Í l g))[i]?\x->tS l g x=16+4*i){Z:V->Hp->Prop}
  (z:∀m o k n',Z .none ⟨cH h {p with jV:=o,rat:=k,top:=16+4*(p.À.filter (Í l g)).length,qH:=m,À:=(p.À.filter (Í l g)).map (nw l g)}++[(J,.dict (š l))],cT ((p.À.filter (Í l g)).map (nw l g))::F,n'⟩):
  Spec (d+3) 67 [.ref h,.ref J,.int g] ⟨cH h p++[(J,.dict (š l))],cT p.À::F,n⟩ Z:=by
 refine Spec.g0 (d:=d) 2 rfl rfl [] 1 (Done.st (L:=CA h J n g) (h:=Oo h J n p l F []) (CB hz ?_) [] [] (by kernel_rfl));have Bz:(p.À.filter (Í l g)).length<300:=Xs (XP _ _) hz;refine Į.perm (h':=⟨(n,.list (eA (p.À.filter (Í l g))))::(cH h p++[(J,.dict (š l))]),cT (p.À.filter (Í l g))::cT (p.À.filter (λ x=>!Í l g x))::F,n+1⟩) ⟨?_,rfl⟩ ?_
 ·refine aba _ ?_;show(cT p.À++F.flatten).Perm (cT _++(cT _++F.flatten));rw[<-X4];refine List.Perm.append_right _ ?_;unfold cT;rw[<-XZ];exact((aaV (Í l g) p.À).symm).flatMap_right _
 have hK:∀x∈p.À.filter (Í l g),Í l g x=true:=λ x hx=>(XG.mp hx).2;generalize p.À.filter (Í l g)=K at*;generalize cT (p.À.filter λ x=>!Í l g x)=D;refine Į.g0 [] [] 4722367045819632189441 (Done.st (j:=2) (S0:=sB 67 [5]) (L:=CA h J n g) (h:=Ho h J n (n+1) p l g K ([(p.jV,.list (eA p.À)),(p.rat,.dict (gX p.À))]::D::F) (n+2) 0 p.qH) ?_ [2,1,0,2,2,2,2] [1,0,0] (by kernel_rfl));refine Þ (Ó.loc rfl (î (a0:=(0,p.qH)) (Lf:=λ _=>CA h J n g) (hf:=λ a=>Ho h J n (n+1) p l g K ([(p.jV,.list (eA p.À)),(p.rat,.dict (gX p.À))]::D::F) (n+2) a.1 a.2) (λ i a=>a.1=i) K (λ x=>.ref x.t) (XJ (XN Bz (by decide))) (λ _=>mg 1 rfl) rfl ?_ ?_))
 ·rintro _ ⟨i,m⟩ x rfl hx;exact nk hK Bz kc hx λ m'=>⟨(i+1,m'),rfl,rfl,rfl⟩
 ·rintro⟨_,m⟩ rfl;have z:=z m n (n+1) (n+2);rw[cH,eA,X5]at z;unfold Ho;rw[dr,X6];exact Į.g0 [1,1] [] 0 (Done.fn z [0,0,0,0,0,0,0] [] (by kernel_rfl))
end
end Mine.Z
namespace Mine.Z
section
variable{l:List (Int×Int)}{g:Int}
def lh(l:List (Int×Int))(g:Int)(x:È):È:=bif Í l g x then Cf l x else x
theorem kf(x:È):(lh l g x).t=x.t/\(lh l g x).ad=x.ad/\lX (lh l g x)=lX x/\Í l g (lh l g x)=Í l g x:=by unfold lh;cases h:Í l g x<;>exact⟨rfl,rfl,rfl,h⟩
theorem LG(À:List È):eA (À.map (lh l g))=eA À:=by unfold eA;rw[X5];exact Yt λ x _=>Xq V.ref (kf x).1
theorem LH(À:List È):gX (À.map (lh l g))=gX À:=by unfold gX;rw[X5];exact Yt λ x _=>by show(V.int (lh l g x).ad,V.ref (lh l g x).t)=_;rw[(kf x).1,(kf x).2.1]
theorem rt(À:List È):(À.map (lh l g)).filter (Í l g)=(À.filter (Í l g)).map (Cf l):=by
 induction À with
 |nil=>rfl
 |cons x r ih=>
  rw[Yd,YB,YB,(kf x).2.2.2,ih];unfold lh;cases Í l g x<;>rfl
theorem Hq(À:List È):(À.map (lh l g)).filter (λ x=>!Í l g x)=À.filter (λ x=>!Í l g x):=by
 induction À with
 |nil=>rfl
 |cons x r ih=>
  rw[Yd,YB,YB,(kf x).2.2.2,ih];unfold lh;cases Í l g x<;>rfl
def cI(À:List È):Ç:=À.flatMap λ x=>[(x.t,lX x)]
def pd(x:È):Nat×List Int:=(x.sl,[x.a0,x.a1])
theorem RG(À:List È):cI (À.map (lh l g))=cI À:=by
 unfold cI;rw[ZJ]
 congr 1;funext x
 show [((lh l g x).t,lX (lh l g x))]=_;rw[(kf x).1,(kf x).2.2.1]
open Classical in
theorem ę{A B:Ç}(h:∀a,A.count a=B.count a):A.Perm B:=List.perm_iff_count.mpr h
open Classical in
theorem CC(k:È->Bool)(À:List È):(cT À).Perm (cI À++(cR ((À.filter k).map pd)++cR ((À.filter λ x=>!k x).map pd))):=by
 have U:(cT À).Perm (cI À++cR (À.map pd)):=by
  unfold cT cI cR;rw[ZJ]
  induction À with
  |nil=>exact .refl _
  |cons x r ih=>
   rw[Yf,Yf,Yf];refine((ih.append_left (oh x)).trans ?_);refine .cons _ ?_;show((x.sl,yw x)::((r.flatMap λ x=>[(x.t,lX x)])++r.flatMap λ a=>oj (pd a))).Perm ((r.flatMap λ x=>[(x.t,lX x)])++(x.sl,yw x)::r.flatMap λ a=>oj (pd a));exact List.perm_middle.symm
 refine U.trans (aba _ ?_);unfold cR;rw[<-XZ,<-XF];exact(((aaV k À).symm).map _).flatMap_right _
end
theorem yX{l:List (Int×Int)}:∀{ev fr:List (Nat×List Int)},fr.map (·.2)=ev.map (lE l)->List.zipWith (fun(q f:Nat×List Int)=>(q.1,f.2)) ev fr=ev.map λ q=>(q.1,lE l q)
 |[],_,_=>rfl
 |q::ev,[],h=>by cases h
 |q::ev,f::fr,h=>by simp only[Yd,Zs]at h;rw[List.zipWith_cons_cons,Yd,h.1,yX h.2]
section
variable{d h n J L:Nat}{p:HP}{F:List Ç}{g:Int}{l:List (Int×Int)}{rl:List (Nat×List Int)}
def Fj(h L J n:Nat)(g:Int):LV:=[(75,.ref h),(178,.ref L),(82,.ref J),(77,.int g),(62,.ref n),(196,.ref (n+1))]
def wO(h J:Nat):O:=.inst 11 [(75,.ref h),(82,.ref J)]
def Fm(h L J n:Nat)(p:HP)(l:List (Int×Int))(rl:List (Nat×List Int))(F:List Ç)(o:List (Nat×List Int)):Hp:=⟨(n+1,œ o)::(n,wO h J)::(cH h p++[(L,œ rl),(J,.dict (š l))]),cT p.À::F,n+2⟩
theorem Hr(hl:rl.length<1000){Z:LV->Hp->Prop}(z:Z (Fj h L J n g) (Fm h L J n p l rl F rl)):
  Ď (d+1) (.Č 179 (.loc 178) none [.expr (.ì (.loc 196) 0 [(.loc 179)])]) (Fj h L J n g) (Fm h L J n p l rl F []) Z:=by
 refine Þ (Ó.loc rfl (î (a0:=[]) (Lf:=λ _=>Fj h L J n g) (hf:=Fm h L J n p l rl F) (λ i o=>o=rl.take i) rl (λ q=>.ref q.1) (XJ (đ hl)) (λ _=>mg 8 rfl) rfl ?_ ?_))
 ·rintro i o q e hq;have c:(o.map λ q=>V.ref q.1).length<lim:=by rw[Xm,e];exact đ (Xs (X1 _ _) hl)
  exact Ã.g0 (d:=d) 1 [Õ c,fO (ţ o q)] 33619968 (Done.dm (o++[q]) (by rw[e,take_snoc hq]) [] [] (by kernel_rfl))
 ·rintro _ rfl;rw[X6];exact z
theorem Hs{o0:List (Nat×List Int)}(hl:o0.length<1000)(hz:p.À.length<300){Z:LV->Hp->Prop}(z:Z (Fj h L J n g) (Fm h L J n p l rl F (o0++(p.À.filter (Í l g)).map pd))):
  Ď (d+2) (.Č 78 (.attr (.loc 75) 98) none [.ite (.Ñ 193 61 [(.loc 78),(.loc 82),(.loc 77)]) [.expr (.ì (.loc 196) 0 [(.attr (.loc 78) 92)])] []]) (Fj h L J n g) (Fm h L J n p l rl F o0) Z:=by
 refine Þ (Ó.p0 (î (a0:=o0) (Lf:=λ _=>Fj h L J n g) (hf:=Fm h L J n p l rl F) (λ i o=>o=o0++((p.À.take i).filter (Í l g)).map pd) p.À (λ x=>.ref x.t) (XJ (XN hz (by decide))) (λ _=>mg 3 rfl) (by simp) ?_ ?_) 2 [] 2 (by kernel_rfl))
 ·intro i o x e hx;have e2:=Ă (f:=Í l g) hx;have R:=in1 (ĥ (F:=F) (Xt hx))
  have c:(o.map λ q=>V.ref q.1).length<lim:=by have:=Xp (XP (Í l g) (p.À.take i)) (X1 i p.À);rw[Xm,e,Xr,Xm];exact Ye (Nat.add_lt_add_of_lt_of_le hl (Xp this (XJ hz))) (by decide)
  have k1:Í l g x=true->o++[pd x]=o0++((p.À.take (i+1)).filter (Í l g)).map pd:=λ q=>by rw[e2,XR q,XF,<-X4,<-e];rfl
  refine l6 (g:=g) (x:=x) (l:=l) (λ U=>?_) (λ U h2=>?_) λ U h2=>?_
  ·exact Ã.go (d:=d) 2 _ R [Õ U,Õ c,fO (ţ o (pd x))] 55484558515437158400 (Done.dm (o++[pd x]) (k1 (by unfold Í;rw[XI U];rfl)) [] [] (by kernel_rfl))
  ·exact Ã.go (d:=d) 2 _ R [į U,gf (ig l x.ad),Õ h2,Õ c,fO (ţ o (pd x))] 397379659305188514988443156480 (Done.dm (o++[pd x]) (k1 (by unfold Í;rw[XI h2,aav])) [] [] (by kernel_rfl))
  ·rw[XW (by unfold Í;rw[XY U,XY h2];exact Yy),XQ]at e2;exact Ã.go (d:=d) 2 _ R [į U,gf (ig l x.ad),į h2] 216735773943250944 (Done.dm o (e2▸e) [] [] (by kernel_rfl))
 ·rintro _ rfl;rw[X6];exact z
end
end Mine.Z
namespace Mine.Z
section
variable{d h n J L:Nat}{p:HP}{F:List Ç}{g:Int}{l:List (Int×Int)}{rl:List (Nat×List Int)}
theorem Ô.symm{a b:Hp}(P:Ô a b):Ô b a:=⟨P.p.symm,P.n.symm⟩
def Fo(h:Nat)(p:HP):Ç:=[(h,Ca p),(p.jV,.list (eA p.À)),(p.rat,.dict (gX p.À)),(p.wW,.dict (bU p.ä)),(p.Œ,.list (p.fin.map .int))]
theorem rv(p:HP)(l:List (Int×Int))(g:Int)(rl:List (Nat×List Int)):qI p l g rl=(rl++[(p.ŕ,p.Ì)])++(p.À.filter (Í l g)).map pd:=rfl
def Ht(p:HP)(l:List (Int×Int))(g:Int):Ç:=cR ((p.À.filter λ x=>!Í l g x).map pd)
theorem tZ(p q:HP)(mm:List Int->List Int)(U:q.ŕ=p.ŕ)(h2:q.Ì=mm p.Ì)(h3:(q.À.filter (Í l g)).map pd=(p.À.filter (Í l g)).map λ x=>(x.sl,mm [x.a0,x.a1]))(h4:cI q.À=cI p.À)(h5:q.À.filter (λ x=>!Í l g x)=p.À.filter (λ x=>!Í l g x)){A B:Ç}:
  Ô ⟨A++((q.ŕ,.list (q.Ì.map val))::B),cT q.À::cR (rl.map λ z=>(z.1,mm z.2))::F,n⟩ ⟨A++B,cR ((qI p l g rl).map λ z=>(z.1,mm z.2))::cI p.À::Ht p l g::F,n⟩:=by
 refine⟨?_,rfl⟩;have e:=CC (Í l g) q.À;rw[h3,h4,h5]at e;show((A++((q.ŕ,.list (q.Ì.map val))::B))++(cT q.À++(cR (rl.map λ z=>(z.1,mm z.2))++F.flatten))).Perm ((A++B)++(cR ((qI p l g rl).map λ z=>(z.1,mm z.2))++(cI p.À++(Ht p l g++F.flatten))))
 have e2:cR ((qI p l g rl).map λ z=>(z.1,mm z.2))=cR (rl.map λ z=>(z.1,mm z.2))++(oj (q.ŕ,q.Ì)++cR ((p.À.filter (Í l g)).map λ x=>(x.sl,mm [x.a0,x.a1]))):=by rw[rv,XF,XF,U,h2];unfold cR;rw[XZ,XZ,X5,X4];rfl
 rw[e2];refine((e.append_right _).append_left _).trans (ę λ a=>?_);have:((q.ŕ,O.list (q.Ì.map val))::B)=oj (q.ŕ,q.Ì)++B:=rfl;rw[this];unfold Ht;simp only[YE];exact nq [_,_,_,_,_,_,_,_] [] (.a (.a (.v 0) (.a (.v 1) (.v 2))) (.a (.a (.v 3) (.a (.v 4) (.v 5))) (.a (.v 6) (.v 7)))) (.a (.a (.v 0) (.v 2)) (.a (.a (.v 6) (.a (.v 1) (.v 4))) (.a (.v 3) (.a (.v 5) (.v 7))))) rfl
theorem vx{j:Nat}(hz:p.À.length<300)(kc:∀(i:Nat) (x:È),(p.À.filter (Í l g))[i]?\x->tS l g x=16+4*i){Z:V->Hp->Prop}
  (z:∀m o k n',Z .none ⟨cH h {p with jV:=o,rat:=k,Œ:=j,top:=16+4*(p.À.filter (Í l g)).length,qH:=m,À:=((p.À.filter (Í l g)).map (Cf l)).map (nw l g),fin:=p.fin.map (mv l),Ì:=p.Ì.map (mv l)}++[(J,.dict (š l))],
   cT (((p.À.filter (Í l g)).map (Cf l)).map (nw l g))::cR (rl.map λ q=>(q.1,lE l q))::F,n'⟩):
  Spec (d+3) 67 [.ref h,.ref J,.int g] ⟨Fo h {p with Œ:=j,fin:=p.fin.map (mv l)}++[(J,.dict (š l))],cR ((qI p l g rl).map λ q=>(q.1,lE l q))::cI p.À::Ht p l g::F,n⟩ Z:=by
 have hp2:((p.À.map (lh l g)).filter (Í l g)).map pd=(p.À.filter (Í l g)).map λ x=>(x.sl,[x.a0,x.a1].map (mv l)):=by rw[rt,X5];rfl
 have P:=tZ (l:=l) (g:=g) (rl:=rl) (F:=F) (n:=n) p {p with Œ:=j,À:=p.À.map (lh l g),fin:=p.fin.map (mv l),Ì:=p.Ì.map (mv l)} (List.map (mv l)) rfl rfl hp2 (RG _) (Hq _) (A:=Fo h {p with Œ:=j,À:=p.À.map (lh l g),fin:=p.fin.map (mv l)}) (B:=[(J,.dict (š l))]);have e5:Fo h {p with Œ:=j,À:=p.À.map (lh l g),fin:=p.fin.map (mv l)}=Fo h {p with Œ:=j,fin:=p.fin.map (mv l)}:=by unfold Fo;rw[LG,LH];rfl
 refine Spec.perm (h':=⟨cH h {p with Œ:=j,À:=p.À.map (lh l g),fin:=p.fin.map (mv l),Ì:=p.Ì.map (mv l)}++[(J,.dict (š l))],cT (p.À.map (lh l g))::cR (rl.map λ q=>(q.1,lE l q))::F,n⟩) (e5▸P.symm) (ij (by rw[Xm];exact hz) (λ i x hx=>?_) λ m o k n'=>?_)
 ·dsimp only at hx;rw[rt,X3]at hx;obtain⟨y,hy,rfl⟩:=Zr.mp hx;exact kc i y hy
 ·have z:=z m o k n';dsimp only;rw[rt,Xm];exact z
theorem pf(hm:rl.length<90/\∀q∈rl,q.2.length<1000)(hz:p.À.length<300)(hf:p.fin.length<1000/\p.Ì.length<1000)
  (kc:∀(i:Nat) (x:È),(p.À.filter (Í l g))[i]?\x->tS l g x=16+4*i) {Z:V->Hp->Prop}
  (z:∀m o k j n',Z .none ⟨cH h {p with jV:=o,rat:=k,Œ:=j,top:=16+4*(p.À.filter (Í l g)).length,qH:=m,À:=((p.À.filter (Í l g)).map (Cf l)).map (nw l g),fin:=p.fin.map (mv l),Ì:=p.Ì.map (mv l)}++[(L,œ rl),(J,.dict (š l))],
   cT (((p.À.filter (Í l g)).map (Cf l)).map (nw l g))::cR (rl.map λ q=>(q.1,lE l q))::F,n'⟩):
  Spec (d+6) 68 [.ref h,.ref L,.ref J,.int g] ⟨cH h p++[(L,œ rl),(J,.dict (š l))],cT p.À::cR rl::F,n⟩ Z:=by
 have c0:((rl.map λ q=>V.ref q.1)).length<lim:=by rw[Xm];exact đ (XN hm.1 (by decide))
 refine Spec.g0 (d:=d) 5 rfl rfl [] 72057594037927936 (Done.st (j:=5) (L:=Fj h L J n g) (h:=Fm h L J n p l rl (cR rl::F) []) (Hr (XN hm.1 (by decide)) ?_) [] [] (by kernel_rfl));refine Į.g0 [] [Õ c0,fO (ţ rl (p.ŕ,p.Ì))] 1108118340096 (Done.st (j:=5) (L:=Fj h L J n g) (h:=Fm h L J n p l rl (cR rl::F) (rl++[(p.ŕ,p.Ì)])) (Hs (by rw[Xr];exact Ye (Z_ hm.1) (by decide)) hz ?_) [] [] (by kernel_rfl));rw[<-rv];have P1:=tZ (l:=l) (g:=g) (rl:=rl) (F:=F) (n:=n+2) p p id rfl rfl rfl rfl rfl (A:=(n+1,œ (qI p l g rl))::(n,wO h J)::Fo h p) (B:=[(L,œ rl),(J,.dict (š l))]);have ei:∀rl:List (Nat×List Int),(rl.map λ z=>(z.1,id z.2))=rl:=λ rl=>List.map_id rl;rw[ei,ei]at P1;refine Į.perm P1 ?_
 have TZ:(qI p l g rl).length<1000/\∀q∈qI p l g rl,q.2.length<1000:=by
  rw[rv];refine⟨?_,λ q hq=>?_⟩
  ·have:=XP (Í l g) p.À;rw[Xr,Xr,Xm,Ys];exact ln [_,_,_] [] (.c 1 (.a (.v 0) (.k 1)) (.k 90) (.c 1 (.a (.v 1) (.k 1)) (.k 300) (.c 1 (.v 2) (.v 1) .e))) 0 (.a (.a (.a (.v 0) (.k 1)) (.v 2)) (.k 1)) (.k 1000) rfl hm.1 hz this
  ·rcases XC.mp hq with hq|hq
   ·rcases XC.mp hq with hq|hq
    ·exact hm.2 q hq
    ·cases XH.mp hq;exact hf.2
   ·obtain⟨x,-,rfl⟩:=Xx.mp hq;exact(by decide:2<1000)
 have m1:∀{E:Ç} {q:Nat×List Int},q∈qI p l g rl->(q.1,.list (q.2.map val))∈(E::cR (qI p l g rl)::cI p.À::Ht p l g::F).flatten:=λ hq=>Xw _ (Xo _ (XX.mpr ⟨_,hq,.head _⟩));refine Į.g0 [] [] 1 (Done.call (j:=5) (ni (w:=n) (n:=n+2) (l:=l) (J:=J) (F:=((n+1,œ (qI p l g rl))::(n,wO h J)::(Fo h p++[(L,œ rl)]))::cR (qI p l g rl)::cI p.À::Ht p l g::F) (Xo _ (.head _)) (λ q hq=>m1 hq) TZ λ fr n3 aD=>?_) [8] [] (by kernel_rfl))
 have RH:fr.map (λ q=>q.2.length)=(qI p l g rl).map λ q=>q.2.length:=by have:=Xq (List.map List.length) aD;rw[X5,X5]at this;refine this.trans (Yt λ q _=>?_);exact Xm _
 refine á.g0 [1] [] 1 (Done.call2 (j:=5) (nj (L:=n+1) (Fr:=n+2) (n:=n3) (ev:=qI p l g rl) (fr:=fr) RH TZ ?_) [2,0] [2,1] rfl (by kernel_rfl));rw[yX aD];refine á.g0 [2] [] 260 (Done.call (j:=5) (j_ (n:=n3) (l:=l) (J:=J) (as:=p.fin) (r:=p.Œ) (F:=((n+1,œ (qI p l g rl))::(n+2,œ fr)::(n,wO h J)::(Fo h p++[(L,œ rl)]))::cR ((qI p l g rl).map λ q=>(q.1,lE l q))::cR fr::cI p.À::Ht p l g::F) (Xo _ (mg 7 rfl)) hf.1 ?_) [2] [] (by kernel_rfl));refine á.g0 [0] [] 16777221 (Done.lW (j:=5) (vx (h:=h) (J:=J) (n:=n3+1) (rl:=rl) (j:=n3) hz kc λ m o k n'=>?_) [5,5,5,5,0,0] [1,2,2] rfl (by kernel_rfl));exact á.g0 [2,2] [] 0 (Done.fn (z m o k n3 n') [0,0,0,0,0,0,5,0] [] (by kernel_rfl))
end
end Mine.Z
namespace Mine.Z
section
variable{d h n:Nat}{p:HP}{F:List Ç}{x:È}
theorem vy(hm:x∈p.À){a:Int}{Z:V->Hp->Prop}(z:∀n',Z (.bool (yr p.À x.gn a)) ⟨cH h p,cT p.À::F,n'⟩):
  Spec (d+2) 55 [.ref h,.ref x.t,val a] ⟨cH h p,cT p.À::F,n⟩ Z:=by
 unfold yr at z;by_cases h0:a=0
 ·subst h0;exact Spec.g0 1 rfl rfl [] 0 (Done.fr (z (n+1)) [1,1,1,1,1,1] [] (by kernel_rfl))
 ·rw[XY h0]at z;cases e:p.À.find? (λ y=>decide (y.ad=a))with
  |none=>
   rw[e]at z;have e:(è (gX p.À) (.int a)).map (λ q=>q.getD .none)=some .none:=by rw[bw,e];rfl
   exact Spec.g0 1 rfl rfl [į h0,ë e] 174228575144680833249001138499276442173440 (Done.fr (z (n+1)) [1,1,1,1,1,1] [] (by kernel_rfl))
  |some y=>
   rw[e]at z;dsimp only at z;have R:=inc (ĥ (F:=F) hm) (in1 (ĥ (F:=F) (ai e).1));by_cases U:y.gn<x.gn
   ·rw[XI U]at z;exact Spec.go 1 rfl rfl _ R [į h0,ë (ax e),Õ U] 1404143407230664377648395269425047847614259163824128 (Done.fr (z (n+1)) [1,1,1,1,1,1] [] (by kernel_rfl))
   ·rw[XY U]at z;exact Spec.go 1 rfl rfl _ R [į h0,ë (ax e),į U] 1404143407230664377648395269425047847614259163824128 (Done.fr (z (n+1)) [1,1,1,1,1,1] [] (by kernel_rfl))
end
section
variable{d h n:Nat}{p:HP}{F:List Ç}
def CE(À:List È)(x:È):List Int:=if 0<x.gn then [0,1].filter λ i=>yr À x.gn (ĭ x i)else []
def qK(À l:List È):List (È×Int):=l.flatMap λ x=>(CE À x).map λ i=>(x,i)
def Oq(q:È×Int):V:=.tup [.ref q.1.t,.int q.2]
theorem t6(À l:List È):(qK À l).length<=2*l.length:=by
 unfold qK
 induction l with
 |nil=>exact XS _
 |cons x l ih=>
  have:(CE À x).length<=2:=by
   unfold CE;split
   ·exact XP _ _
   ·exact Zi _
  rw[Yf,Xr,Xm,Yi];exact ln [_,_,_] [] (.c 1 (.v 0) (.m 2 (.v 1)) (.c 1 (.v 2) (.k 2) .e)) 0 (.a (.v 2) (.v 0)) (.m 2 (.a (.v 1) (.k 1))) rfl ih this
theorem yY(À l:List È)(x:È):qK À (l++[x])=qK À l++(CE À x).map λ i=>(x,i):=by unfold qK;rw[XZ,Yf,aae,XQ]
def LY(h n:Nat):LV:=[(75,.ref h),(72,.ref n)]
def hY(h n:Nat)(p:HP)(F:List Ç)(a:List (È×Int)×Nat):Hp:=⟨(n,.list (a.1.map Oq))::cH h p,cT p.À::F,a.2⟩
theorem CF{x:È}(hx:x∈p.À){o:List (È×Int)}{n' i:Nat}(hi:i<2)(hl:o.length<1000){Z:LV->Hp->Prop}(z:∀n',Z ((78,.ref x.t)::LY h n) (hY h n p F (o++bif yr p.À x.gn (ĭ x i)then [(x,(i:Int))]else [],n'))):
  Ã (d+3) [.ite (.Ñ 183 55 [(.loc 75),(.loc 78),(.sub (.attr (.loc 78) 92) (.loc 113))]) [.expr (.ì (.loc 72) 0 [(.tup [(.loc 78),(.loc 113)])])] []] ((113,.int i)::(78,.ref x.t)::LY h n) (hY h n p F (o,n')) Z:=by
 have c:Ū [val x.a0,val x.a1] (i:Int)\(val (ĭ x i)):=by
  rw[jj]
  match i,hi with
  |0,_=>rfl
  |1,_=>rfl
 have cl:(o.map Oq).length<lim:=by rw[Xm];exact đ hl
 have R:=inc (ĥ (F:=F) hx) (in1 (iS (F:=F) hx));refine Ã.go (d:=d) 3 _ R [ë c] 16892352 (Done.ā (j:=3) (vy (h:=h) (a:=ĭ x ↑i) (n:=n') (p:=p) hx λ n2=>?_) [1,1,1,1,1,1] [1] rfl (by kernel_rfl));have z:=z n2;cases e:yr p.À x.gn (ĭ x i)with
 |false=>
  rw[e,cond_false,XQ]at z;exact á.g0 [1] [] 0 (Done.fb z [6,0,0,0,0,0,0] [] (by kernel_rfl))
 |true=>
  rw[e,cond_true]at z;exact á.g0 [1] [Õ cl,fs Oq o (x,(i:Int))] 8607106560 (Done.fb z [6,0,0,0,0,0,0] [] (by kernel_rfl))
theorem CG{x:È}{i:Nat}(hx:p.À[i]?\x)(hz:p.À.length<300){n':Nat}{Z:LV->Hp->Prop}(z:∀n',Z (LY h n) (hY h n p F (qK p.À (p.À.take (i+1)),n'))):
  Ã (d+3) [.ite (.cmp .gt (.attr (.loc 78) 77) (.const (.int 0))) [.Č 113 (.bi 15 .len [(.attr (.loc 78) 92)]) (some 10) [.ite (.Ñ 183 55 [(.loc 75),(.loc 78),(.sub (.attr (.loc 78) 92) (.loc 113))]) [.expr (.ì (.loc 72) 0 [(.tup [(.loc 78),(.loc 113)])])] []]] []]
   ((78,.ref x.t)::LY h n) (hY h n p F (qK p.À (p.À.take i),n')) Z:=by
 have hm:=Xt hx;have R:=inc (ĥ (F:=F) hm) (in1 (iS (F:=F) hm));rw[take_snoc hx,yY]at z;have hl:(qK p.À (p.À.take i)).length<=600:=Xp (t6 _ _) (Xp (aar 2 (Xp (X1 _ _) (XJ hz))) (by decide));generalize qK p.À (p.À.take i)=o at*;by_cases U:0<x.gn
 ·have ey:CE p.À x=([0,1]:List Int).filter λ i=>yr p.À x.gn (ĭ x i):=XR U;refine Ã.go (d:=d) 3 _ R [Õ U] 65984 (Done.st (S0:=sB 56 [1,0,0]) (j:=3) (L:=(78,.ref x.t)::LY h n) (h:=hY h n p F (o,n')) ?_ [] [] (by kernel_rfl));refine jU (a0:=(o,n')) (Lf:=λ _=>(78,.ref x.t)::LY h n) (hf:=hY h n p F) (λ k a=>a.1=o++(([0,1]:List Int).take k|>.filter λ i=>yr p.À x.gn (ĭ x i)).map λ i=>(x,i)) (n:=2) (É.go (d:=d) 3 _ R [] 49600 (by kernel_rfl)) (by decide) (by simp) ?_ ?_
  ·rintro k ⟨o1,n1⟩ e hk;have e:o1=o++(([0,1]:List Int).take k|>.filter λ i=>yr p.À x.gn (ĭ x i)).map λ i=>(x,i):=e
   have hl1:o1.length<1000:=by rw[e,Xr,Xm];have:=Xp (XP (λ i=>yr p.À x.gn (ĭ x i)) (([0,1]:List Int).take k)) (X1 _ _);exact Xs (YD hl this) (by decide)
   refine CF hm hk hl1 λ n2=>⟨(_,n2),?_,rfl,rfl⟩;show o1++_=_;rw[e]
   match k,hk with
   |0,_=>cases q:yr p.À x.gn (ĭ x 0)<;>simp[q]
   |1,_=>cases q:yr p.À x.gn (ĭ x 0)<;>cases q1:yr p.À x.gn (ĭ x 1)<;>simp[q,q1]
  ·rintro⟨o1,n1⟩ e;have e:o1=o++(CE p.À x).map λ i=>(x,i):=by rw[ey];exact e
   subst e;exact Į.g0 [] [] 0 (Done.fb (z n1) [] [] (by kernel_rfl))
 ·have ey:CE p.À x=[]:=XW U;rw[ey,aa1,XQ]at z;exact Ã.go (d:=d) 3 _ R [į U] 448 (Done.fb (z n') [] [] (by kernel_rfl))
theorem ry(hz:p.À.length<300){Z:V->Hp->Prop}(z:∀n',Z (.ref n) (hY h n p F (qK p.À p.À,n'))):Spec (d+4) 56 [.ref h] ⟨cH h p,cT p.À::F,n⟩ Z:=by
 refine Spec.g0 (d:=d) 3 rfl rfl [] 1 (Done.st (S0:=sB 56 [1]) (j:=3) (L:=LY h n) (h:=hY h n p F ([],n+1)) ?_ [] [] (by kernel_rfl));refine Þ (Ó.p0 (î (a0:=([],n+1)) (Lf:=λ _=>LY h n) (hf:=hY h n p F) (λ i a=>a.1=qK p.À (p.À.take i)) p.À (λ x=>.ref x.t) (XJ (XN hz (by decide))) (λ _=>mg 2 rfl) rfl ?_ ?_) 3 [] 1 (by kernel_rfl))
 ·rintro i ⟨_,n'⟩ x rfl hx;exact CG hx hz λ n2=>⟨(_,n2),rfl,rfl,rfl⟩
 ·rintro⟨_,n'⟩ rfl;rw[X6];exact Į.g0 [] [] 0 (Done.fr (z n') [] [] (by kernel_rfl))
end
end Mine.Z
namespace Mine.Z
section
variable{d h n hd rr J:Nat}{p:HP}{F:List Ç}{g:Int}{rows:List Row}{l:List (Int×Int)}
variable{ks:List Nat}
theorem CH{Z:V->Hp->Prop}(z:∀lm,Z .none ⟨[(h,Ca {p with à:=0,lim:=lm})],F,n⟩):Spec (d+2) 31 [.ref h,.int g] ⟨[(h,Ca p)],F,n⟩ Z:=by
 by_cases U:2<=g
 ·by_cases h2:p.lim<2*(p.top - 16)
  ·exact Spec.g0 1 rfl rfl [Õ U,Õ h2] 36893488147435880448 (Done.fn (z (2*(p.top - 16))) [] [] (by kernel_rfl))
  ·exact Spec.g0 1 rfl rfl [Õ U,į h2] 36893488147435880448 (Done.fn (z p.lim) [] [] (by kernel_rfl))
 ·exact Spec.g0 1 rfl rfl [į U] 16777216 (Done.fn (z p.lim) [] [] (by kernel_rfl))
def eG(l:List (Int×Int))(r:Row):Row:=(r.1,r.2.1,mv l r.2.2)
def Ot(hd rr J:Nat)(l:List (Int×Int))(ks:List Nat)(F:List Ç)(n:Nat)(rows:List Row):Hp:=⟨aU hd rr ks++[(J,.dict (š l))],cW rows::F,n⟩
theorem i_(hk:rows.map (·.1)=ks)(hz:rows.length<1000){Z:V->Hp->Prop}(z:Z .none (Ot hd rr J l ks F n (rows.map (eG l)))):Spec (d+1) 20 [.ref hd,.ref J] (Ot hd rr J l ks F n rows) Z:=by
 subst hk;refine Spec.g0 (d:=d) 0 rfl rfl [] 1 (Done.st (j:=0) (S0:=sB 20 [0]) (L:=[(67,.ref hd),(82,.ref J)]) (h:=Ot hd rr J l (rows.map (·.1)) F n rows) ?_ [] [] (by kernel_rfl));refine Þ (Ó.p0 (î (a0:=rows) (Lf:=λ _=>[(67,.ref hd),(82,.ref J)]) (hf:=Ot hd rr J l (rows.map (·.1)) F n) (λ i a=>a=Ŏ (eG l) rows i) (rows.map (·.1)) .ref ?_ (λ _=>mg 1 rfl) rfl ?_ ?_) 0 [] 0 (by kernel_rfl))
 ·rw[Xm];exact XJ (đ hz)
 ·rintro i _ k rfl hk;refine jT (P:=λ k=>Ã (d+0) _ ((12,.ref k)::_) _ _) hk λ r hr=>?_;have ha:=Ů (f:=eG l) hr;by_cases U:r.2.2∈l.map (·.1)
  ·refine Ã.perm (Bu ha) (Ã.g0 (d:=d) 0 [gf (ig l r.2.2),Õ U,ë (gq U)] 3626832799078311971192832 (Done.Ĳ (Z:=ZB _) (L:=[(67,.ref hd),(82,.ref J)]) (fl:=.next) (h:=⟨LB (eG l r)++(aU hd rr (rows.map (·.1))++[(J,.dict (š l))]),cut LB (Ŏ (eG l) rows i) i::F,n⟩) (gh ha) ⟨Ŏ (eG l) rows (i+1),rfl,rfl,by rw[aT hr];rfl⟩ [] [] (by kernel_rfl)))
  ·have e:eG l r=r:=by unfold eG;rw[rd U]
   exact Ã.go (d:=d) 0 _ (in1 (Xo _ (XX.mpr ⟨r,Xt ha,.head _⟩))) [gf (ig l r.2.2),į U] 2203318354112 (Done.dm _ (eV hr e) [] [] (by kernel_rfl))
 ·rintro _ rfl;rw[Xm,dr];exact Į.g0 [] [] 0 (Done.fn z [] [] (by kernel_rfl))
theorem CI{À l:List È}{q:È×Int}(h:q∈qK À l){P:Prop}(k:q.1∈l->0<=q.2/\q.2<=1->P):P:=by
 obtain⟨x,hx,hv⟩:=XX.mp h;obtain⟨i,hi,rfl⟩:=Xx.mp hv;refine k hx ?_;unfold CE at hi;split at hi
 ·rcases XE.mp (XG.mp hi).1 with rfl|hi
  ·exact⟨X9 0,Int.zero_le_ofNat 1⟩
  ·cases XH.mp hi;exact⟨Int.zero_le_ofNat 1,X9 1⟩
 ·exact nm hi
theorem CJ{À l:List È}{x:È}(h:x∈l)(hg:0<x.gn)(hy:yr À x.gn x.a0=true\/yr À x.gn x.a1=true):∃q∈qK À l,q.1=x:=by
 have e:CE À x=([0,1]:List Int).filter λ i=>yr À x.gn (ĭ x i):=XR hg;rcases hy with hy|hy
 ·exact⟨(x,0),XX.mpr ⟨x,h,Xx.mpr ⟨0,e▸XG.mpr ⟨.head _,hy⟩,rfl⟩⟩,rfl⟩
 ·exact⟨(x,1),XX.mpr ⟨x,h,Xx.mpr ⟨1,e▸XG.mpr ⟨.tail _ (.head _),hy⟩,rfl⟩⟩,rfl⟩
def T_(h k o:Nat)(p:HP)(F:List Ç)(n:Nat)(ä:List Int):Hp:=⟨(o,.list ((qK p.À p.À).map Oq))::cH h {p with wW:=k,ä:=ä},cT p.À::[(p.wW,.dict (bU p.ä))]::F,n⟩
theorem yZ(T:ď p.À){Z:V->Hp->Prop}(z:∀k ä n',mX ä->(∀x∈p.À,0<x.gn->(yr p.À x.gn x.a0=true\/yr p.À x.gn x.a1=true)->x.ad/4∈ä)->Z .none ⟨cH h {p with wW:=k,ä:=ä},cT p.À::F,n'⟩):
  Spec (d+5) 57 [.ref h] ⟨cH h p,cT p.À::F,n⟩ Z:=by
 refine Spec.g0 (d:=d) 4 rfl rfl [] 1 (Done.st (S0:=sB 57 [1]) (j:=4) (L:=[(75,.ref h)]) (h:=⟨cH h {p with wW:=n,ä:=[]},cT p.À::[(p.wW,.dict (bU p.ä))]::F,n+1⟩) ?_ [1,1,1,0,1,1] [1,0] (by kernel_rfl));refine tM (Ó.g0 (d:=d) 4 [] 1 (Done.ā (j:=4) (ry (h:=h) (n:=n+1) (p:={p with wW:=n,ä:=[]}) T.small λ n2=>?_) [] [] rfl (by kernel_rfl)));refine á.g0 [] [] 0 (Done.fe (v:=V.ref (n+1)) (h:=T_ h n (n+1) p F n2 []) ?_ [] [] (by kernel_rfl));refine yv (a0:=[]) (Lf:=λ _=>[(75,.ref h)]) (hf:=T_ h n (n+1) p F n2) (λ i ä=>mX ä/\∀q∈(qK p.À p.À).take i,q.1.ad/4∈ä) (qK p.À p.À) (λ q=>.ref q.1.t) (λ q=>.int q.2) (XJ (đ (Xs (t6 _ _) (by have:=T.small;exact ln [_] [] (.c 2 (.a (.v 0) (.k 1)) (.k 300) .e) 0 (.a (.m 2 (.v 0)) (.k 1)) (.k 1000) rfl this)))) (λ _=>mg 0 rfl) ⟨⟨.nil,λ _ h=>nm h⟩,λ _ h=>nm h⟩ ?_ ?_
 ·intro i ä q A hq;refine CI (Xt hq) λ hx hi=>?_;have c:=m_ (ä:=ä) (T.ù q.1 hx) hi;have e:(q.1.ad+2+q.2).fdiv 4=q.1.ad/4:=by have:=T.ù q.1 hx;rw[ZD _ (by decide)];exact Yw (li [] [_,_,_,_,_] (.i 1 (.v 0) (.k 1) (.i 1 (.v 1) (.k 0) (.i 1 (.v 2) (.a (.v 1) (.m 4 (.v 3))) (.i 1 (.m 4 (.v 4)) (.a (.a (.v 2) (.k 2)) (.v 0)) .e)))) 3 (.v 4) (.v 3) rfl hi.2 (Xu this.2.2) (Xu (aa_ _ _).symm) (Y6 (by decide))) (li [] [_,_,_,_] (.i 1 (.k 0) (.v 0) (.i 1 (.m 4 (.v 1)) (.v 2) (.i 1 (.a (.a (.a (.v 2) (.k 2)) (.v 0)) (.k 1)) (.a (.m 4 (.v 3)) (.k 4)) .e))) 3 (.v 1) (.v 3) rfl hi.1 (Y6 (by decide)) (Zl (by decide)))
  have c2:=yB (q.1.ad/4) ä;rw[<-e]at c2;have c1:ó (.int ((q.1.ad+2+q.2).fdiv 4))=true/\(bU ä).length<lim:=⟨rfl,by rw[bU,Xm];exact Xs A.1.len (by decide)⟩;refine Ã.go (d:=d) 4 _ (in1 (ĥ hx)) [Õ c.1,Õ c1,Bt c2] 14204281449707011620864 (Done.dm (ly ä ((q.1.ad+2+q.2).fdiv 4)) ?_ [] [] (by kernel_rfl));rw[e];exact⟨A.1.add (by have:=T.ù q.1 hx;exact⟨li [] [_,_] (.i 1 (.k 16) (.v 0) (.i 1 (.a (.v 0) (.k 1)) (.a (.m 4 (.v 1)) (.k 4)) .e)) 3 (.k 0) (.v 1) rfl this.1 (Zl (by decide)),li [] [_,_] (.i 1 (.a (.v 0) (.k 1)) (.k 10000) (.i 1 (.m 4 (.v 1)) (.v 0) .e)) 3 (.a (.v 1) (.k 1)) (.k 5000) rfl this.2.1 (Y6 (by decide))⟩),take_all hq (λ c hc=>cO.mpr (.inr (A.2 c hc))) (cO.mpr (.inl rfl))⟩
 ·intro ä A;exact Į.g0 [1] [] 0 (Done.fn (z n ä n2 A.1 λ x hx hg hy=>(CJ hx hg hy).elim λ q hq=>hq.2▸aO A.2 q hq.1) [1,1,1,1,1,1] [] (by kernel_rfl))
end
end Mine.Z
namespace Mine.Z
structure iT (p p':HP) (rl:List (Nat×List Int)) (g:Int) (å ms:List Int):Prop where
 m0:∀a,a∈å↔cN p.À g (gj p rl g) a
 m1:∀a,a∈ms↔cN p.À g (λ a=>gj p rl g a\/a∈p.fin.filter (dead p.À å g)) a
 O:dp p'
 À:p'.À=Ţ p g ms
 eu:p'.eu=p.eu
 fin:p'.fin=(p.fin.filter (λ a=>!dead p.À å g a)).map (mv (Ķ p g ms))
 Ì:p'.Ì=(p.Ì++p.fin.filter (dead p.À å g)).map (mv (Ķ p g ms))
def lG(p:HP)(å ms:List Int)(g:Int)(r:Row):Row:=eG (Ķ p g ms) (ra p.À å ms g r)
section
variable{d h n L hd rr:Nat}{p:HP}{F:List Ç}{g:Int}{rows:List Row}{rl:List (Nat×List Int)}
theorem iU(O:dp p){å ms:List Int}(m1:∀a,a∈ms↔cN p.À g (λ a=>gj p rl g a\/a∈p.fin.filter (dead p.À å g)) a):∀x∈p.À,kp g ms x=true->∀b,(b=x.a0\/b=x.a1)->b≠0->∃y∈p.À,y.ad=b/\kp g ms y=true:=λ x hx hk b hb h0=>
 lZ O m1 (λ x hx hg yE=>⟨.inl (.inr (.inr ⟨hg,x,hx,yE,.inl rfl⟩)),.inl (.inr (.inr ⟨hg,x,hx,yE,.inr rfl⟩))⟩) hx hk hb h0
theorem rA(O:dp p)(h3:∀r∈rows,r.2.1≠3)(hz:rows.length<1000)(hl:rl.length<90/\∀q∈rl,q.2.length<1000)(Hl:p.fin.length+p.Ì.length<1000)
  (ha:∀q∈rl,∀a∈q.2,a=0\/∃x∈p.À,x.ad=a) (RC:∀a∈p.Ì,a=0\/∃x∈p.À,x.ad=a) (RD:∀a∈p.fin,a=0\/∃x∈p.À,x.ad=a)
  {Z:V->Hp->Prop} (z:∀k p' å ms n',iT p p' rl g å ms->Z (.int k) ⟨cH h p'++((L,œ rl)::aU hd rr (rows.map (·.1))),cT p'.À::cW (rows.map (lG p å ms g))::cR (rl.map λ q=>(q.1,lE (Ķ p g ms) q))::F,n'⟩):
  Spec (d+8) 71 [.ref h,.ref L,.ref hd,.int g] ⟨cH h p++((L,œ rl)::aU hd rr (rows.map (·.1))),cT p.À::cW rows::cR rl::F,n⟩ Z:=by
 have T:=O.T;have sp:=hZ g p.À O.gens
 have hA:∀(i:Nat) (x:È),(p.À.filter (λ x=>decide (g<x.gn)))[i]?\x->g<x.gn/\x.ad=16+4*i:=λ i x hx=>by refine⟨XA (XG.mp (Xt hx)).2,O.lay i x ?_⟩;rw[sp,Yp (Xv.mp hx).1];exact hx
 refine Spec.g0 (d:=d) 7 rfl rfl [] 65792 (Done.call (j:=7) (j9 (h:=h) (L:=L) (hd:=hd) (g:=g) (n:=n) (rr:=rr) (p:=p) (rl:=rl) (rows:=rows) (F:=cR rl::F) T (λ q hq=>Xo _ (XX.mpr ⟨q,hq,.head _⟩)) h3 hz hl Hl ha RC RD λ J k å ms n1 nd q0 q1=>?_) [] [] (by kernel_rfl));refine á.g0 [] [] 1 (Done.ā (j:=7) (Cu (h:=h) (J:=J) (n:=n1) (ms:=ms) (p:={p with Œ:=k,fin:=p.fin.filter (λ a=>!dead p.À å g a),Ì:=p.Ì++p.fin.filter (dead p.À å g)}) T sp hA (λ x hx=>XA (XG.mp hx).2) ?_) [1,1,1,1,1,1,0] [1] rfl (by kernel_rfl))
 have kc:∀(i:Nat) (x:È),(p.À.filter (Í (Ķ p g ms) g))[i]?\x->tS (Ķ p g ms) g x=16+4*i:=λ i x hx=>by rw[YS (λ x hx=>yC O hx)]at hx;exact(rh O hx).2
 have hfl:(p.fin.filter (λ a=>!dead p.À å g a)).length<1000/\(p.Ì++p.fin.filter (dead p.À å g)).length<1000:=by have z1:=XP (λ a=>!dead p.À å g a) p.fin;have z2:=XP (dead p.À å g) p.fin;rw[Xr];exact⟨ln [_,_,_] [] (.c 1 (.a (.a (.v 0) (.v 1)) (.k 1)) (.k 1000) (.c 1 (.v 2) (.v 0) .e)) 0 (.a (.v 2) (.k 1)) (.k 1000) rfl Hl z1,ln [_,_,_] [] (.c 1 (.a (.a (.v 0) (.v 1)) (.k 1)) (.k 1000) (.c 1 (.v 2) (.v 0) .e)) 0 (.a (.a (.v 1) (.v 2)) (.k 1)) (.k 1000) rfl Hl z2⟩
 refine á.g0 [1] [] 1 (Done.call2 (j:=7) (pf (h:=h) (L:=L) (J:=n1) (n:=n1+1) (l:=Ķ p g ms) (rl:=rl) (p:={p with Œ:=k,fin:=p.fin.filter (λ a=>!dead p.À å g a),Ì:=p.Ì++p.fin.filter (dead p.À å g)}) hl T.small hfl kc λ m o k2 j n3=>?_) [1,1,1,1,1,1,2,0] [1,2] rfl (by kernel_rfl));have hlen:(p.À.filter (Í (Ķ p g ms) g)).length=(Ţ p g ms).length:=by rw[YS (λ x hx=>yC O hx)];exact(Xm _).symm
 have e2:((p.À.filter (Í (Ķ p g ms) g)).map (Cf (Ķ p g ms))).map (nw (Ķ p g ms) g)=Ţ p g ms:=Ci O;dsimp only;rw[e2,hlen];have T':ď (Ţ p g ms):=ď.of (o8 O) (j2 O) (l0 O (iU O q1));have RI:(rows.map (ra p.À å ms g)).map (·.1)=rows.map (·.1):=by rw[X5];rfl
 refine á.g0 [2] [] 256 (Done.ā (j:=7) (i_ (hd:=hd) (J:=n1) (n:=n3) (rr:=rr) (l:=Ķ p g ms) RI (by rw[Xm];exact hz) ?_) [9,9,7] [3] rfl (by kernel_rfl));refine á.g0 [1] [] 1 (Done.ā (j:=7) (yZ (h:=h) (n:=n3) (p:={p with jV:=o,rat:=k2,Œ:=j,top:=16+4*((Ţ p g ms).length:Int),qH:=m,À:=Ţ p g ms,fin:=(p.fin.filter (λ a=>!dead p.À å g a)).map (mv (Ķ p g ms)),Ì:=(p.Ì++p.fin.filter (dead p.À å g)).map (mv (Ķ p g ms))}) T' λ k3 ä n5 C o7=>?_) [3,3,3,3,3,3] [2] rfl (by kernel_rfl));refine á.g0 [1] [] 1 (Done.lV (j:=7) (CH (h:=h) (g:=g) (n:=n5) (p:={p with jV:=o,rat:=k2,wW:=k3,Œ:=j,top:=16+4*((Ţ p g ms).length:Int),qH:=m,À:=Ţ p g ms,ä:=ä,fin:=(p.fin.filter (λ a=>!dead p.À å g a)).map (mv (Ķ p g ms)),Ì:=(p.Ì++p.fin.filter (dead p.À å g)).map (mv (Ķ p g ms))}) λ lm=>?_) [0] [] rfl (by kernel_rfl));have zz:=z ((eA p.À).length -(eA (Ţ p g ms)).length) {p with jV:=o,rat:=k2,wW:=k3,Œ:=j,top:=16+4*((Ţ p g ms).length:Int),à:=0,lim:=lm,qH:=m,À:=Ţ p g ms,ä:=ä,fin:=(p.fin.filter (λ a=>!dead p.À å g a)).map (mv (Ķ p g ms)),Ì:=(p.Ì++p.fin.filter (dead p.À å g)).map (mv (Ķ p g ms))} å ms n5 ⟨q0,q1,⟨o8 O,j2 O,(l3 O).1,(l3 O).2,l0 O (iU O q1),rfl,C,o7⟩,rfl,rfl,rfl,rfl⟩;rw[show rows.map (lG p å ms g)=(rows.map (ra p.À å ms g)).map (eG (Ķ p g ms)) by rw[X5];rfl]at zz;exact á.g0 [0] [] 256 (Done.fr zz [0,0,0,0,0,0,3,0,0] [] (by kernel_rfl))
end
end Mine.Z
namespace Mine.Z
def LI:O:=.dict [(.int 16,.int 1),(.int 18,.int 1),(.int 19,.int 1)]
def Ua:O:=.dict [(.tup [.int 16,.int 6],.tup [.int 16,.int 300,.tup []]),(.tup [.int 18,.int 6],.tup [.int 16,.int 300,.tup []]),(.tup [.int 19,.int 6],.tup [.int 19,.int 301,.tup []])]
def Ub(c:Nat->Nat):O:=.dict [(.int 33,.ref (c 1033)),(.int 34,.ref (c 1034)),(.int 35,.ref (c 1035)),(.int 36,.ref (c 1036)),(.int 37,.ref (c 1037)),(.int 38,.ref (c 1038)),(.int 39,.ref (c 1039))]
def cC(c:Nat->Nat)(sc:Nat):Ç:=[(c 85,LI),(c 133,Ua),(c 148,.list []),(c 152,.list []),(c 155,.list []),(c 143,.dict []),(c 119,.dict [(.int 40,.ref sc)]),(c 145,Ub c),(c 1033,.inst 12 []),(c 1034,.inst 13 []),(c 1035,.inst 14 []),(c 1036,.inst 15 []),(c 1037,.inst 16 []),(c 1038,.inst 17 []),(c 1039,.inst 18 [])]
def cS(q:Sh):Ç:=(q.J,mO q.c q.fr q.hv)::(q.fr,.list (q.à.map λ x=>.ref x.f))::(q.c 149,.list (q.bP.map .int))::(q.c 150,.list q.Ŗ)::(q.c 151,.list (q.ń.map .ref))::cC q.c q.sc
def RJ(x:bV):Ç:=[(x.f,G0 x)]
def cF(l:List bV):Ç:=l.flatMap RJ
section
variable{d n:Nat}{q:Sh}{F:List Ç}
theorem y3{l:List bV}{x:bV}{F:List Ç}(h:x∈l):(x.f,G0 x)∈(cF l::F).flatten:=Xo _ (XX.mpr ⟨x,h,.head _⟩)
def Ou(q:Sh)(F:List Ç)(n:Nat)(o:List (Nat×List Int)):Hp:=⟨(n,œ o)::cS q,cF q.à::F,n+1⟩
def Ov(q:Sh)(n:Nat):LV:=[(169,.ref q.J),(72,.ref n)]
theorem t7(l:List bV):(l.flatMap dJ).length=5*l.length:=by
 induction l with
 |nil=>rfl
 |cons y l ih=>rw[Yf,Xr,ih];simp[dJ];exact nq [_] [] (.a (.k 5) (.m 5 (.v 0))) (.m 5 (.a (.v 0) (.k 1))) rfl
theorem Hu(hz:q.à.length<=3){Z:LV->Hp->Prop}(z:Z (Ov q n) (Ou q F n (q.à.flatMap dJ))):
  Ď (d+1) (.Č 171 (.attr (.loc 169) 118) none [.ite (.cmp .eq (.attr (.loc 171) 129) (.attr (.loc 171) 11)) [.expr (.ì (.loc 72) 0 [(.attr (.loc 171) 44)]),.expr (.ì (.loc 72) 0 [(.attr (.loc 171) 123)])] [],.expr (.ì (.loc 72) 0 [(.attr (.loc 171) 124)]),.expr (.ì (.loc 72) 0 [(.attr (.loc 171) 128)]),.expr (.ì (.loc 72) 0 [(.attr (.loc 171) 127)])]) (Ov q n) (Ou q F n []) Z:=by
 refine Þ (Ó.p0 (î (a0:=[]) (Lf:=λ _=>Ov q n) (hf:=Ou q F n) (λ i o=>o=(q.à.take i).flatMap dJ) q.à (λ x=>.ref x.f) (Xp hz (by decide)) (λ _=>mg 2 rfl) rfl ?_ ?_) 1 [] 1 (by kernel_rfl))
 ·intro i o x e hx
  have hl:o.length<100:=by rw[e,t7];exact Xs (aar 5 (Xp (X1 _ _) hz)) (by decide)
  have cl:∀o':List (Nat×List Int),o'.length<10->((o++o').map λ q=>V.ref q.1).length<lim:=λ o' h=>by rw[Xm,Xr];exact Ye (Nat.add_lt_add hl h) (by decide)
  have c0:(o.map λ q=>V.ref q.1).length<lim:=by rw[Xm];exact XN hl (by decide)
  have e2:o++dJ x=(q.à.take (i+1)).flatMap dJ:=by rw[take_snoc hx,XZ,Yf,aae,XQ,<-e]
  have s:∀(a b:List (Nat×List Int)) (c:Nat×List Int),O.list (((a++b).map λ q=>V.ref q.1)++[.ref c.1])=œ (a++(b++[c])):=λ a b c=>by rw[<-X4];exact ţ _ c
  exact Ã.go (d:=d) 1 _ (in1 (y3 (Xt hx))) [Õ (rfl:x.nm=x.nm),Õ c0,fO (ţ o (x.ar,x.as)),Õ (cl [(x.ar,x.as)] (YH _ _)),fO (s o [(x.ar,x.as)] (x.lo,x.ls)),Õ (cl [(x.ar,x.as),(x.lo,x.ls)] (YH _ _)),fO (s o [(x.ar,x.as),(x.lo,x.ls)] (x.st,[])),Õ (cl [(x.ar,x.as),(x.lo,x.ls),(x.st,[])] (YH _ _)),fO (s o [(x.ar,x.as),(x.lo,x.ls),(x.st,[])] (x.ke,[])),Õ (cl [(x.ar,x.as),(x.lo,x.ls),(x.st,[]),(x.ke,[])] (YH _ _)),fO (s o [(x.ar,x.as),(x.lo,x.ls),(x.st,[]),(x.ke,[])] (x.cv,[]))] 1162550174951830286018409539947210272885903510480402104784099852480 (Done.dm (o++dJ x) e2 [] [] (by kernel_rfl))
 ·rintro _ rfl;rw[X6];exact z
theorem pg(hz:q.à.length<=3){Z:V->Hp->Prop}(z:∀n',Z (.ref n) ⟨(n,œ (Æ q))::cS q,cF q.à::F,n'⟩):Spec (d+2) 72 [.ref q.J] ⟨cS q,cF q.à::F,n⟩ Z:=by
 refine Spec.g0 (d:=d) 1 rfl rfl [] 1 (Done.st (j:=1) (L:=Ov q n) (h:=Ou q F n []) (Hu hz ?_) [] [] (by kernel_rfl));have hl:(q.à.flatMap dJ).length<100:=by rw[t7];exact Xs (aar 5 hz) (by decide)
 unfold Æ at z;generalize q.à.flatMap dJ=o at*;have c0:(o.map λ q=>V.ref q.1).length<lim:=by rw[Xm];exact XN hl (by decide)
 have cl:∀o':List (Nat×List Int),o'.length<10->((o++o').map λ q=>V.ref q.1).length<lim:=λ o' h=>by rw[Xm,Xr];exact Ye (Nat.add_lt_add hl h) (by decide)
 have s:∀(a b:List (Nat×List Int)) (c:Nat×List Int),O.list (((a++b).map λ q=>V.ref q.1)++[.ref c.1])=œ (a++(b++[c])):=λ a b c=>by rw[<-X4];exact ţ _ c
 exact Į.g0 [] [Õ c0,fO (ţ o (q.sc,q.ss)),Õ (cl [(q.sc,q.ss)] (YH _ _)),fO (s o [(q.sc,q.ss)] (q.c 154,[])),Õ (cl [(q.sc,q.ss),(q.c 154,[])] (YH _ _)),fO (s o [(q.sc,q.ss),(q.c 154,[])] (q.c 158,[]))] 12857706280410925509897792827087626876049376714303963367937638572396228176579053185733453461324032 (Done.fr (z (n+3)) [2,2,2,2,2,2,2,2,2,2,2,2,2,2,2,2,2,2,2,2,2] [] (by kernel_rfl))
end
end Mine.Z
namespace Mine.Z
variable{p':HP}{ks:List Nat}
def gu(hv:V)(fd ks:List Nat):Ç:=match hv with
 |.ref hd=>aU hd (fd.headD 0) ks
 |_=>[]
def Ow(m:Mc)(F:List Ç):List Ç:=cT m.p.À::cW m.rows::cF m.q.à::cR (Æ m.q)::gu m.q.hv m.fd (m.rows.map (·.1))::F
def J_(m:Mc)(F:List Ç)(n:Nat):Hp:=⟨cS m.q++cH m.h m.p,Ow m F,n⟩
structure Ka (m:Mc):Prop where
 O:dp m.p
 hv:(m.q.hv=.none/\m.rows=[])\/∃hd rr,m.q.hv=.ref hd/\m.fd=[rr]
 rws:∀r∈m.rows,(r.2.1=1\/r.2.1=2)/\Nm m.p.À r.2.2
 t8:∀z∈Æ m.q,z.2.length<1000/\∀a∈z.2,Nm m.p.À a
 fin:∀a∈m.p.fin,Nm m.p.À a
 Ì:∀a∈m.p.Ì,Nm m.p.À a
 nr:m.q.à.length<=3
 rz:m.rows.length<1000
 fz:m.p.fin.length+m.p.Ì.length<1000
def lH(m:Mc)(hd rr:Nat)(p':HP)(å ms:List Int)(g:Int):Mc:=⟨{m.q with hv:=.ref hd,à:=m.q.à.map (Fc (Ķ m.p g ms)),ss:=m.q.ss.map (mv (Ķ m.p g ms))},p',m.rows.map (lG m.p å ms g),[rr]⟩
theorem iT.mono{p p':HP}{rl:List (Nat×List Int)}{g:Int}{å ms:List Int}(C:iT p p' rl g å ms){a:Int}(h:a∈å):a∈ms:=(C.m1 a).mpr (((C.m0 a).mp h).mono λ _=>.inl)
theorem y4{m:Mc}(I:Ka m){hd rr:Nat}{å ms:List Int}{g:Int}(C:iT m.p p' (Æ m.q) g å ms):Ka (lH m hd rr p' å ms g):=by
 have T:=I.O.T;have ik:∀a,Nm m.p.À a->(∀x∈m.p.À,x.ad=a->kp g ms x=true)->Nm p'.À (mv (Ķ m.p g ms) a):=λ a ha hk=>C.À▸Lm I.O ha hk;have nz:∀x∈m.p.À,x.ad≠0:=λ x hx=>Yz (Yo (by decide) (T.ù x hx).1);have y5:∀a,gj m.p (Æ m.q) g a\/a∈m.p.fin.filter (dead m.p.À å g)->∀x∈m.p.À,x.ad=a->kp g ms x=true:=λ a ha x hx e=>Cj C.m1 hx (nz x hx) (e▸ha)
 have y6:∀a,dead m.p.À å g a=false->∀x∈m.p.À,x.ad=a->kp g ms x=true:=λ a ha x hx e=>by
  have:=o9 T hx (e▸ha);unfold kp at this ⊢;rcases Bool.or_eq_true_iff.mp this with h|h
  ·rw[h];rfl
  ·rw[XI (C.mono (XA h)),aav]
 have zero:Nm p'.À (mv (Ķ m.p g ms) 0):=ik 0 (.inl rfl) λ x hx e=>absurd e (nz x hx)
 have row:∀(r:Row) (sort:Int) (m':List Int),r.2.1=sort->Nm m.p.À r.2.2->(∀a,dead m.p.À m' g a=false->∀x∈m.p.À,x.ad=a->kp g ms x=true)->Nm p'.À (mv (Ķ m.p g ms) (gY m.p.À m' g sort r)):=λ r sort m' hs hn al=>by
  unfold gY;split
  ·exact zero
  ·rename_i y7;by_cases h0:r.2.2=0
   ·rw[h0];exact zero
   ·refine ik _ hn (al _ ?_);cases hq:dead m.p.À m' g r.2.2 with
    |false=>rfl
    |true=>exact absurd ⟨hs,h0,hq⟩ y7
 refine⟨C.O,.inr ⟨hd,rr,rfl,rfl⟩,?_,?_,?_,?_,?_,?_,?_⟩
 ·intro r hr;obtain⟨r0,Ru,rfl⟩:=Xx.mp hr;obtain⟨k0,n0⟩:=I.rws r0 Ru;refine⟨k0,?_⟩;show Nm p'.À (mv (Ķ m.p g ms) (gY m.p.À ms g 2 (r0.1,r0.2.1,gY m.p.À å g 1 r0)));rcases k0 with k0|k0
  ·have e2:gY m.p.À ms g 2 (r0.1,r0.2.1,gY m.p.À å g 1 r0)=gY m.p.À å g 1 r0:=XW λ q=>by have:=k0.symm.trans q.1;exact absurd this (by decide)
   rw[e2];exact row r0 1 å k0 n0 y6
  ·have e2:gY m.p.À å g 1 r0=r0.2.2:=XW λ q=>by have:=k0.symm.trans q.1;exact absurd this (by decide)
   rw[e2];exact row r0 2 ms k0 n0 λ a ha x hx e=>o9 T hx (e▸ha)
 ·intro z hz;have hz:z∈Æ {m.q with hv:=.ref hd,à:=m.q.à.map (Fc (Ķ m.p g ms)),ss:=m.q.ss.map (mv (Ķ m.p g ms))}:=hz;rw[j3]at hz;obtain⟨y,hy,rfl⟩:=Xx.mp hz;obtain⟨b1,b2⟩:=I.t8 y hy;refine⟨by rw[Xm];exact b1,λ a ha=>?_⟩;obtain⟨b,hb,rfl⟩:=Xx.mp ha;exact ik b (b2 b hb) (y5 b (.inl (.inl ⟨y,hy,hb⟩)))
 ·intro a ha;have ha:a∈p'.fin:=ha;rw[C.fin]at ha;obtain⟨b,hb,rfl⟩:=Xx.mp ha;obtain⟨J6,Oa⟩:=XG.mp hb;exact ik b (I.fin b J6) (y6 b (by rw[Bool.not_eq_true']at Oa;exact Oa))
 ·intro a ha;have ha:a∈p'.Ì:=ha;rw[C.Ì]at ha;obtain⟨b,hb,rfl⟩:=Xx.mp ha;rcases XC.mp hb with hb|hb
  ·exact ik b (I.Ì b hb) (y5 b (.inl (.inr (.inl hb))))
  ·exact ik b (I.fin b (XG.mp hb).1) (y5 b (.inr hb))
 ·show(m.q.à.map _).length<=3;rw[Xm];exact I.nr
 ·show(m.rows.map _).length<1000;rw[Xm];exact I.rz
 ·show p'.fin.length+p'.Ì.length<1000;rw[C.fin,C.Ì,Xm,Xm,Xr];have z1:=Ł (dead m.p.À å g) m.p.fin;have z2:=I.fz;exact ln [_,_,_,_] [] (.c 1 (.a (.v 0) (.v 1)) (.v 2) (.c 1 (.a (.a (.v 2) (.v 3)) (.k 1)) (.k 1000) .e)) 0 (.a (.a (.v 0) (.a (.v 3) (.v 1))) (.k 1)) (.k 1000) rfl (XB z1) z2
theorem CK{m:Mc}{hd rr:Nat}{å ms:List Int}{g:Int}(C:iT m.p p' (Æ m.q) g å ms):Fd m (lH m hd rr p' å ms g) g å ms:=⟨C.m0,C.m1,C.À,C.eu,C.fin,C.Ì,⟨hd,rfl⟩,by show m.rows.map (lG m.p å ms g)=_;rw[X5];rfl⟩
theorem LJ(q:Sh)(hv:V)(l:List (Int×Int)):cS {q with hv:=hv,à:=q.à.map (Fc l),ss:=q.ss.map (mv l)}=cS {q with hv:=hv}:=by unfold cS;rw[X5];rfl
theorem LK(l:List (Int×Int))(fs:List bV):cF (fs.map (Fc l))=cF fs:=by unfold cF;rw[ZJ];rfl
theorem rB{A E T1 T2 T3 T4:Ç}{F:List Ç}{n:Nat}:Ô ⟨A++E,T1::T2::T3::T4::F,n⟩ ⟨E,T1::T2::T3::T4::A::F,n⟩:=by refine⟨ę λ a=>?_,rfl⟩;simp only[Yj,YE];exact nq [_,_,_,_,_,_,_] [] (.a (.a (.v 0) (.v 1)) (.a (.v 2) (.a (.v 3) (.a (.v 4) (.a (.v 5) (.v 6)))))) (.a (.v 1) (.a (.v 2) (.a (.v 3) (.a (.v 4) (.a (.v 5) (.a (.v 0) (.v 6))))))) rfl
section
variable{d n hd rr:Nat}{m:Mc}{F:List Ç}{g:Int}
theorem t9{å ms:List Int}:J_ (lH m hd rr p' å ms g) F n=⟨cS {m.q with hv:=.ref hd}++cH m.h p',cT p'.À::cW (m.rows.map (lG m.p å ms g))::cF m.q.à::cR ((Æ m.q).map λ q=>(q.1,lE (Ķ m.p g ms) q))::aU hd rr (m.rows.map (·.1))::F,n⟩:=by
 unfold J_ Ow lH;dsimp only;rw[LJ,LK,j3]
 have:gu (lH m hd rr p' å ms g).q.hv (lH m hd rr p' å ms g).fd ((lH m hd rr p' å ms g).rows.map (·.1))=aU hd rr (m.rows.map (·.1)):=by show aU hd rr ((m.rows.map (lG m.p å ms g)).map (·.1))=_;rw[X5];rfl
 unfold lH at this;rw[this];rfl
theorem l7{L:Nat}(hk:m.rows.map (·.1)=ks)(I:Ka m){Z:V->Hp->Prop}(z:∀k p' å ms n',iT m.p p' (Æ m.q) g å ms->Z (.int k) ⟨cH m.h p'++((L,œ (Æ m.q))::aU hd rr ks),cT p'.À::cW (m.rows.map (lG m.p å ms g))::cR ((Æ m.q).map λ q=>(q.1,lE (Ķ m.p g ms) q))::F,n'⟩):
  Spec (d+8) 71 [.ref m.h,.ref L,.ref hd,.int g] ⟨cH m.h m.p++((L,œ (Æ m.q))::aU hd rr ks),cT m.p.À::cW m.rows::cR (Æ m.q)::F,n⟩ Z:=by
 subst hk;exact rA I.O (λ r hr e=>by rcases (I.rws r hr).1 with h|h<;>rw[h]at e<;>exact absurd e (by decide)) I.rz ⟨by rw[vk];have:=I.nr;exact ln [_] [] (.c 5 (.v 0) (.k 3) .e) 0 (.a (.a (.m 5 (.v 0)) (.k 3)) (.k 1)) (.k 90) rfl this,λ q hq=>(I.t8 q hq).1⟩ I.fz (λ q hq=>(I.t8 q hq).2) I.Ì I.fin z
theorem ů(I:Ka m){Z:V->Hp->Prop}(z:∀v hd rr p' å ms n',iT m.p p' (Æ m.q) g å ms->Z v (J_ (lH m hd rr p' å ms g) F n')):Spec (d+9) 73 [.ref m.q.J,.int g] (J_ m F n) Z:=by
 rcases I.hv with⟨e1,e2⟩|⟨hd,rr,e1,e2⟩
 ·have eh:gu m.q.hv m.fd (m.rows.map (·.1))=[]:=by unfold gu;rw[e1]
  have er:cS m.q=cS {m.q with hv:=.none}:=by rw[<-e1]
  unfold J_ Ow;rw[eh,er];refine Spec.g0 (d:=d) 8 rfl rfl [] 1218370553143318435332096 (Done.ā (j:=8) (pg (n:=n+2) (q:={m.q with hv:=.ref n}) I.nr λ n2=>?_) [2,2,2,2,2,2,2,2,2,2,2,2,2,2,2,2,2,2,2,2] [3] rfl (by kernel_rfl));have ek:(m.rows.map λ r=>r.1)=[]:=by rw[e2];rfl
  refine á.g0 [1] [] 257 (Done.lW (j:=8) (l7 (L:=n+2) (n:=n2) (g:=g) (m:=m) (hd:=n) (rr:=n+1) ek I λ k p' å ms n' C=>?_) [23,23,23,23,23,23,0,21,20] [2,2,2] rfl (by kernel_rfl));have zz:=z (.int k) n (n+1) p' å ms n' C;rw[t9,ek]at zz;refine á.g0 [3,4] [] 0 (Done.Ĳ (Z:=ZF Z) (fl:=.ret (.int k)) (L:=[]) (h':=⟨cS {m.q with hv:=.ref n}++cH m.h p',cT p'.À::cW (m.rows.map (lG m.p å ms g))::cF m.q.à::cR ((Æ m.q).map λ q=>(q.1,lE (Ķ m.p g ms) q))::aU n (n+1) []::F,n'⟩) (h:=⟨aU n (n+1) []++(cS {m.q with hv:=.ref n}++cH m.h p'),cT p'.À::cW (m.rows.map (lG m.p å ms g))::cF m.q.à::cR ((Æ m.q).map λ q=>(q.1,lE (Ķ m.p g ms) q))::F,n'⟩) rB zz [7,7,7,7,7,7,7,7,7,7,7,7,7,7,7,7,7,7,7,7,7,7,0,0,0,0,0,0] [0,0,1,0] (by kernel_rfl))
 ·have eh:gu m.q.hv m.fd (m.rows.map (·.1))=aU hd rr (m.rows.map (·.1)):=by unfold gu;rw[e1,e2];rfl
  have er:cS m.q=cS {m.q with hv:=.ref hd}:=by rw[<-e1]
  unfold J_ Ow;rw[eh,er];refine Spec.perm rB.symm ?_;refine Spec.g0 (d:=d) 8 rfl rfl [] 16908290 (Done.ā (j:=8) (pg (n:=n) (q:={m.q with hv:=.ref hd}) I.nr λ n2=>?_) [2,2,2,2,2,2,2,2,2,2,2,2,2,2,2,2,2,2,2,2] [3] rfl (by kernel_rfl));refine á.g0 [1] [] 257 (Done.lW (j:=8) (l7 (L:=n) (n:=n2) (g:=g) (m:=m) (hd:=hd) (rr:=rr) rfl I λ k p' å ms n' C=>?_) [23,23,23,23,23,23,0,20,20] [2,2,2] rfl (by kernel_rfl));refine á.g0 [3] [] 0 (Done.Ĳ (Z:=ZF Z) (fl:=.ret (.int k)) (L:=[]) (h:=⟨aU hd rr (m.rows.map (·.1))++(cS {m.q with hv:=.ref hd}++cH m.h p'),cT p'.À::cW (m.rows.map (lG m.p å ms g))::cF m.q.à::cR ((Æ m.q).map λ q=>(q.1,lE (Ķ m.p g ms) q))::F,n'⟩) rB (t9▸z (.int k) hd rr p' å ms n' C) [7,7,7,7,7,7,7,7,7,7,7,7,7,7,7,7,7,7,7,7,7,7,0,0,0,0,0,0] [0,0,1,0] (by kernel_rfl))
end
end Mine.Z
namespace Mine.Z
section
variable{d h n:Nat}{p:HP}{F:List Ç}{a:Int}
def Ud(h:Nat)(a:Int)(n:Nat):LV:=[(75,.ref h),(68,.int a),(83,.ref n)]
theorem pj(hf:p.fin.length+p.Ì.length<1000){Z:V->Hp->Prop}(z:Z .none ⟨cH h {p with Œ:=n,ŕ:=n+1,fin:=p.fin.filter (λ b=>!decide (b=a)),Ì:=p.Ì.filter (λ b=>!decide (b=a))},F,n+2⟩):Spec (d+1) 23 [.ref h,.int a] ⟨cH h p,F,n⟩ Z:=by
 have l1:p.fin.length<1000:=Xs (Ya _ _) hf;have l2:p.Ì.length<1000:=Xs (YH _ _) hf;refine Spec.g0 (d:=d) 0 rfl rfl [] 1 (Done.st (S0:=sB 23 [1]) (j:=0) (L:=Ud h a n) (h:=⟨(n,.list [])::cH h p,F,n+1⟩) ?_ [] [] (by kernel_rfl));refine Þ (Ó.p0 (î (a0:=[]) (Lf:=λ _=>Ud h a n) (hf:=λ o=>⟨(n,.list (o.map .int))::cH h p,F,n+1⟩) (λ i o=>o=(p.fin.take i).filter (λ b=>!decide (b=a))) p.fin .int (XJ (đ l1)) (λ _=>mg 5 rfl) rfl ?_ ?_) 0 [] 1 (by kernel_rfl))
 ·intro i o b e hb;have e2:=Ă (f:=λ b=>!decide (b=a)) hb;rw[<-e]at e2;have c:(o.map V.int).length<lim:=by rw[Xm,e];exact đ (Xs (Xp (XP _ _) (X1 _ _)) l1)
  cases q:(!decide (b=a))with
  |true=>
   rw[q,XR rfl]at e2;exact Ã.g0 (d:=d) 0 [eQ q,Õ c,fs .int o b] 12918456321 (Done.dm (o++[b]) e2.symm [] [] (by kernel_rfl))
  |false=>
   rw[q,XW Yy,XQ]at e2;exact Ã.g0 (d:=d) 0 [eQ q] 1 (Done.dm o e2.symm [] [] (by kernel_rfl))
 rintro _ rfl;rw[X6];generalize p.fin.filter (λ b=>!decide (b=a))=fi at*;refine Į.g0 [] [] 16777217 (Done.st (S0:=sB 23 [4]) (j:=0) (L:=[(75,.ref h),(68,.int a),(88,.ref (n+1))]) (h:=⟨(n+1,.list [])::(cH h {p with Œ:=n,fin:=fi}++[(p.Œ,.list (p.fin.map .int))]),F,n+2⟩) ?_ [0,1,1,1,1,0,1,0] [] (by kernel_rfl));refine Þ (Ó.p0 (î (a0:=[]) (Lf:=λ _=>[(75,.ref h),(68,.int a),(88,.ref (n+1))]) (hf:=λ o=>⟨(n+1,.list (o.map val))::(cH h {p with Œ:=n,fin:=fi}++[(p.Œ,.list (p.fin.map .int))]),F,n+2⟩) (λ i o=>o=(p.Ì.take i).filter (λ b=>!decide (b=a))) p.Ì val (XJ (đ l2)) (λ _=>mg 6 rfl) rfl ?_ ?_) 0 [] 1 (by kernel_rfl))
 ·intro i o b e hb;have e2:=Ă (f:=λ b=>!decide (b=a)) hb;rw[<-e]at e2;have c:(o.map val).length<lim:=by rw[Xm,e];exact đ (Xs (Xp (XP _ _) (X1 _ _)) l2)
  cases q:(!decide (b=a))with
  |true=>
   rw[q,XR rfl]at e2;exact Ã.g0 (d:=d) 0 [eQ q,Õ c,fs val o b] 846623953453056 (Done.dm (o++[b]) e2.symm [] [] (by kernel_rfl))
  |false=>
   rw[q,XW Yy,XQ]at e2;exact Ã.g0 (d:=d) 0 [eQ q] 65536 (Done.dm o e2.symm [] [] (by kernel_rfl))
 rintro _ rfl;rw[X6];exact Į.g0 [] [] 1 (Done.fn z [1,1,1,1,1,0] [] (by kernel_rfl))
end
section
variable{d n:Nat}{q:Sh}{F:List Ç}
def ż(q:Sh):Bool:=q.à.any λ f=>decide (f.so=5)
abbrev Hv:List S:=[.ite (.cmp .eq (.attr (.loc 238) 29) (.glob 239 (.int 5))) [.ret (some (.const (.bool true)))] []]
theorem Hw{C:Call}{s:St}{x:bV}(h:s.get x.f\(G0 x))(ρ:Loc):Ä G C (ρ.set 238 (.ref x.f)) (.cmp .eq (.attr (.loc 238) 29) (.glob 239 (.int 5))) s\(.bool (decide (x.so=5)),s):=je.trans (Ï (fy^(Ï (s:=s) (v:=.ref x.f) rfl (map_eq (v:=.int x.so) (show fp s 29 (.ref x.f)\(.int x.so)from tb (f:=λ _ fs=>look fs 29) h rfl) rfl))) (Ï (s:=s) (v:=.int 5) rfl (map_eq (v:=decide (x.so=5)) rfl rfl)))
theorem Hx{C:Call}{s:St}{x:bV}(h:s.get x.f\(G0 x))(ρ:Loc):Ê G C Hv (ρ.set 238 (.ref x.f)) s\(bif decide (x.so=5)then .ret (.bool true)else .next,ρ.set 238 (.ref x.f),s):=by
 have hc:=Hw (C:=C) h ρ;cases e:decide (x.so=5)with
 |true=>exact jP ((xR (e▸hc))^(jP (hM rfl)))
 |false=>exact xQ ((xU (e▸hc))^xP)
theorem CL{C:Call}{s:St}{r:Nat}{fs:List bV}(hg:s.get r\(.list (fs.map λ x=>.ref x.f)))(hf:∀x∈fs,s.get x.f\(G0 x))(k:Nat):∀(i:Nat) (ρ:Loc),i+k=fs.length->
  ∃Ð fl,forLoop (λ Ð s'=>Ê G C Hv Ð s') (bind1 238) (þ r (fs.map λ x=>V.ref x.f).length) k i ρ s\(fl,Ð,s)/\fl=bif (fs.drop i).any (λ f=>decide (f.so=5))then .ret (.bool true)else .next:=by
 induction k with
 |zero=>exact λ i ρ h=>⟨ρ,.next,č (iR hg rfl) rfl,by rw[List.drop_eq_nil_of_le (XB (show i=fs.length from h).symm)];rfl⟩
 |succ k ih=>
  intro i ρ h;have hi:i<fs.length:=h▸Y7 (Y0 k);have U:(þ r (fs.map λ x=>V.ref x.f).length).item i s\(.ref fs[i].f):=(f6 hg)^(by rw[X3,Xz hi];rfl);have hb:=Hx (C:=C) (hf _ (Zn hi)) ρ;rw[Yv hi,ZQ];cases e:decide (fs[i].so=5)with
  |true=>exact⟨ρ.set 238 (.ref fs[i].f),.ret (.bool true),ò U (ò (v:=ρ.set 238 (.ref fs[i].f)) rfl (BR (e▸hb) rfl)),rfl⟩
  |false=>exact(ih (i+1) (ρ.set 238 (.ref fs[i].f)) ((aat i k)^h)).elim λ Ð a=>a.elim λ fl a=>⟨Ð,fl,ò U (ò (v:=ρ.set 238 (.ref fs[i].f)) rfl (vc (e▸hb) a.1)),a.2⟩
theorem aW(hz:q.à.length<=3){Z:V->Hp->Prop}(z:Z (.bool (ż q)) ⟨cS q,cF q.à::F,n⟩):Spec (d+1) 81 [.ref q.J] ⟨cS q,cF q.à::F,n⟩ Z:=λ s W=>by
 have hg:=Š W (mg 1 rfl:(q.fr,.list (q.à.map λ x=>.ref x.f))∈cS q++(cF q.à::F).flatten);have hm:=Š W (mg 0 rfl:(q.J,mO q.c q.fr q.hv)∈cS q++(cF q.à::F).flatten);obtain⟨Ð,fl,e1,e2⟩:=CL (C:=Ý G fns d) hg (λ x hx=>Š W (Xw _ (y3 hx))) q.à.length 0 (QY.set 169 (.ref q.J)) (Zg _)
 have hs:ü G (Ý G fns d) (.Č 238 (.attr (.loc 169) 118) none Hv) (QY.set 169 (.ref q.J)) s\(fl,Ð,s):=by
  refine(mQ (r:=q.fr) (l:=q.à.map λ x=>.ref x.f) ?_ hg (by rw[Xm];exact Xp hz (by decide))).trans ?_
  ·exact fy^(Ï (s:=s) (v:=.ref q.J) rfl (map_eq (v:=.ref q.fr) (show fp s 118 (.ref q.J)\(.ref q.fr)from tb (f:=λ _ fs=>look fs 118) hm rfl) rfl))
  ·show forLoop _ _ _ (q.à.map λ x=>V.ref x.f).length 0 _ _=_;rw[Xm]at e1 ⊢;exact e1
 refine⟨.bool (ż q),s,_,?_,W,z⟩;rw[List.drop_zero]at e2;unfold ż;cases q':q.à.any λ f=>decide (f.so=5)with
 |true=>rw[q']at e2;subst e2;exact cB xN rfl (jP hs)
 |false=>rw[q']at e2;subst e2;exact cB xN rfl ((tw hs)^(jP (hM rfl)))
end
end Mine.Z
namespace Mine.Z
variable{α:Type}
def Ē(x:Wd):Ç:=[(x.rw,.dict (wEs x)),(x.Fe,.list (x.bW.map .int)),(x.rk,.list [.int 16,.int 17,.int 18,.int 19]),(x.J4,.list (x.sorts.map .int)),(x.J5,.list (x.gens.map .int)),(x.G_,.list (x.slots.map λ q=>.ref q.1)),(x.wZ,.list (x.live.map .int)),(x.Ha,.dict (š x.wh)),(x.Œ,.list (x.fin.map .int)),(x.ŕ,.list (x.Ì.map .int)),(x.Ff,.list (x.rows.map λ r=>.ref r.1)),(x.jV,.list (x.bP.map .int)),(x.yG,.list (x.cells.map λ c=>.ref c.r))]
def BA(q:Nat×List Int):Ç:=[(q.1,.list (q.2.map .int))]
def aj(l:List (Nat×List Int)):Ç:=l.flatMap BA
def Hy(r:Row):Ç:=[(r.1,Ln r)]
def ak(l:List Row):Ç:=l.flatMap Hy
def eW(c:Cell):Ç:=[(c.r,N9 c)]
def bp(l:List Cell):Ç:=l.flatMap eW
def Wd.gv(x:Wd)(l:List Row):Wd:={x with rows:=l}
def Wd.LM(x:Wd)(r:Nat)(l:List Int):Wd:={x with Œ:=r,fin:=l}
def Wd.nu(x:Wd)(r:Nat)(l:List Int):Wd:={x with ŕ:=r,Ì:=l}
def Wd.LN(x:Wd)(r:Nat)(l:List Int):Wd:={x with wZ:=r,live:=l}
def Wd.LQ(x:Wd)(l:List Int):Wd:={x with gens:=l}
structure t_ (h h':Hp):Prop where
 p:List.Sublist (h'.E++h'.T.flatten) (h.E++h.T.flatten)
 n:h.n=h'.n
theorem t_.own{h h':Hp}(P:t_ h h'){s:St}(W:Ė s h):Ė s h':=⟨W.1.sub P.p,W.2.trans P.n⟩
theorem Į.sub{d:Nat}{r:Rt}{Z:Fl->LV->Hp->Prop}{L:LV}{h h':Hp}(P:t_ h h')(B:Į d r Z L h'):Į d r Z L h:=λ s m ρ W=>B s m ρ (P.own W)
theorem á.sub{d:Nat}{r:Rt}{Z:Fl->LV->Hp->Prop}{v:V}{h h':Hp}(P:t_ h h')(B:á d r Z v h'):á d r Z v h:=λ s m W=>B s m (P.own W)
section
variable{d n:Nat}{x:Wd}{F:List Ç}{g:Int}
theorem Ğ{f:α->V}{l:List α}{a:Int}{y:α}(h0:0<=a)(h:l[a.toNat]?\y):Ū (l.map f) a\(f y):=by exact č h0 (by rw[X3,h];rfl)
theorem ĩ{a:Int}(h:Ix x a):Ū (x.gens.map .int) a\(.int (ą x a)):=by refine Ğ (y:=ą x a) h.1 ?_;unfold ą;rw[XO,Xz h.2];rfl
theorem nv(h0:0<=x.at_){Z:V->Hp->Prop}(z:Z (.int (if x.at_<x.bW.length then x.bW.getD x.at_.toNat 0 else 0)) ⟨Ē {x with at_:=x.at_+1},F,n⟩):Spec (d+1) 94 [.ref x.rw] ⟨Ē x,F,n⟩ Z:=by
 by_cases h:x.at_<x.bW.length
 ·rw[XR h]at z;have c1:x.at_+1<=((x.bW.map V.int).length:Int):=by rw[Xm];exact li [_] [_] (.i 1 (.a (.v 0) (.k 1)) (.n (.v 0)) .e) 0 (.a (.v 0) (.k 1)) (.n (.v 0)) rfl h
  have hl:x.at_.toNat<x.bW.length:=by exact ln [_,_] [_] (.i 1 (.a (.v 0) (.k 1)) (.n (.v 0)) (.i 1 (.n (.v 1)) (.v 0) .e)) 0 (.a (.v 1) (.k 1)) (.v 0) rfl h (Xu (Xy (li [] [_] (.i 1 (.k 0) (.v 0) .e) 0 (.k 0) (.v 0) rfl h0)))
  have c2:Ū (x.bW.map .int) (x.at_+1 - 1)\(.int (x.bW.getD x.at_.toNat 0)):=by rw[Int.add_sub_cancel];exact Ğ h0 (by rw[XO,Xz hl];rfl)
  exact Spec.g0 0 rfl rfl [Õ c1,ë c2] 191936087027392818447066100979102495704328752584458240 (Done.fr z [] [] (by kernel_rfl))
 ·rw[XW h]at z;have c1:¬x.at_+1<=((x.bW.map V.int).length:Int):=by rw[Xm];exact λ q0=>lL [_] [_] (.i 1 (.n (.v 0)) (.v 0) (.i 1 (.a (.v 0) (.k 1)) (.n (.v 0)) .e)) rfl (Yc.mp h) q0
  exact Spec.g0 0 rfl rfl [į c1] 5212579268138479298954443580506112 (Done.fr z [] [] (by kernel_rfl))
end
end Mine.Z
namespace Mine.Z
variable{α:Type}
theorem LS{A E T1 T2:Ç}{F:List Ç}{n:Nat}:Ô ⟨A++E,T1::T2::F,n⟩ ⟨E,T1::(A++T2)::F,n⟩:=by refine⟨ę λ a=>?_,rfl⟩;simp only[Yj,YE];exact nq [_,_,_,_,_] [] (.a (.a (.v 0) (.v 1)) (.a (.v 2) (.a (.v 3) (.v 4)))) (.a (.v 1) (.a (.v 2) (.a (.a (.v 0) (.v 3)) (.v 4)))) rfl
theorem RK{A E T1 T2 T3:Ç}{F:List Ç}{n:Nat}:Ô ⟨A++E,T1::T2::T3::F,n⟩ ⟨E,T1::(A++(T2++T3))::F,n⟩:=by refine⟨ę λ a=>?_,rfl⟩;simp only[Yj,YE];exact nq [_,_,_,_,_,_] [] (.a (.a (.v 0) (.v 1)) (.a (.v 2) (.a (.v 3) (.a (.v 4) (.v 5))))) (.a (.v 1) (.a (.v 2) (.a (.a (.v 0) (.a (.v 3) (.v 4))) (.v 5)))) rfl
theorem ny{q:Nat×List Int}{l:List (Nat×List Int)}(h:q∈l):(q.1,O.list (q.2.map .int))∈aj l:=XX.mpr ⟨q,h,.head _⟩
theorem vz{p:Prop}[Decidable p](h:p):(!decide p)=false:=by rw[XI h];rfl
theorem vA{p:Prop}[Decidable p](h:¬p):(!decide p)=true:=by rw[XY h];rfl
structure RS where
 F:List Int
 r:Nat
 R:List V
 G:Ç
 n:Nat
section
variable{d n nf r0 rr:Nat}{x:Wd}{T:List Ç}{g:Int}{Å:List Int}
def LU(x:Wd)(g:Int)(nf:Nat)(a:RS):LV:=[(260,.ref x.rw),(77,.int g),(16,.ref nf),(273,.ref a.r)]
def Ox(nf:Nat)(x:Wd)(T:List Ç)(a:RS):Hp:=⟨(nf,.list (a.F.map .int))::Ē x,aj x.slots::a.G::T,a.n⟩
def Fp(x:Wd)(g:Int)(nf rr:Nat)(a:RS):LV:=[(260,.ref x.rw),(77,.int g),(16,.ref nf),(273,.ref rr),(101,.ref a.r)]
def Fq(nf:Nat)(x:Wd)(T:List Ç)(G:Ç)(a:RS):Hp:=⟨(a.r,.list a.R)::(nf,.list (a.F.map .int))::Ē x,aj x.slots::a.G::G::T,a.n⟩
abbrev Oy:List S:=[.ite (.and [(.cmp .gt (.loc 261) (.const (.int 0))),(.cmp .le (.sub (.sub (.loc 260) (.const (.str 267))) (.loc 261)) (.loc 77)),(.cmp .ũ (.loc 261) (.loc 16))]) [.expr (.ì (.loc 16) 0 [(.loc 261)]),.asg 101 (.bin .add (.loc 101) (.sub (.sub (.loc 260) (.const (.str 92))) (.loc 261)))] []]
def y8(a:RS)(b:Int)(q:Nat×List Int):RS:=⟨a.F++[b],a.n,a.R++q.2.map .int,(a.r,.list a.R)::a.G,a.n+1⟩
theorem rC(O:dK x){a:RS}{G:Ç}{b:Int}(hb:Ix x b)(hF:a.F.length<5000)(hR:a.R.length<5000){Z:LV->Hp->Prop}(z0:¬(0<b/\ą x b<=g/\b∉a.F)->Z (Fp x g nf rr a) (Fq nf x T G a))(z1:∀q∈x.slots,lz x b=q.2->0<b->ą x b<=g->b∉a.F->Z (Fp x g nf rr (y8 a b q)) (Fq nf x T G (y8 a b q))):
  Ã (d+0) Oy ((261,.int b)::Fp x g nf rr a) (Fq nf x T G a) Z:=by
 by_cases q1:0<b
 ·by_cases q2:ą x b<=g
  ·by_cases q3:b∈a.F
   ·exact Ã.g0 0 [ë (ĩ hb),gf (ŭ b a.F),Õ q1,Õ q2,eQ (vz q3)] 23648799087114871374339 (Done.fb (z0 λ h=>h.2.2 q3) [] [] (by kernel_rfl))
   ·obtain⟨q,hq,hm,hs⟩:=cQ O hb;have e1:Ū (x.slots.map λ q=>V.ref q.1) b\(.ref q.1):=Ğ hb.1 hq;have e2:(a.F.map V.int).length<lim:=by rw[Xm];exact XN hF (by decide)
    have e3:a.R.length+(q.2.map V.int).length<=lim:=by rw[Xm];exact Xp (YD (XJ hR) (O.two q hm).1) (by decide)
    exact Ã.go 0 _ (in1 (Xo _ (ny hm))) [ë (ĩ hb),gf (ŭ b a.F),Õ q1,Õ q2,eQ (vA q3),Õ e2,fs .int a.F b,ë e1,Õ e3] 3647908265793681284130750465259842870866825762046467
     (Done.Ĳ (Z:=ZB Z) (fl:=.next) (L:=Fp x g nf rr (y8 a b q)) (h':=Fq nf x T G (y8 a b q)) (h:=⟨[(a.r,.list a.R)]++((a.n,.list (a.R++q.2.map V.int))::(nf,.list ((a.F++[b]).map .int))::Ē x),aj x.slots::a.G::G::T,a.n+1⟩) LS (z1 q hm hs q1 q2 q3) [1,0,0,0,0,0,0,0,0,0,0,0,0,0,0,0] [] (by kernel_rfl))
  ·exact Ã.g0 0 [ë (ĩ hb),Õ q1,į q2] 845550211564034 (Done.fb (z0 λ h=>q2 h.2.1) [] [] (by kernel_rfl))
 ·exact Ã.g0 0 [į q1] 1 (Done.fb (z0 λ h=>q1 h.1) [] [] (by kernel_rfl))
structure RM (x:Wd) (g:Int) (Å:List Int) (F0 rest:List Int) (a:RS) (R2:List Int):Prop where
 e:a.R=R2.map .int
 R:Rg x g Å a.F (rest++R2)
 b:R2.length<=2*(a.F.length - F0.length)
 l:F0.length<=a.F.length
theorem Rg.skip{F rest:List Int}{a:Int}(R:Rg x g Å F (a::rest))(h:¬(0<a/\ą x a<=g/\a∉F)):Rg x g Å F rest:=by
 have sk:∀c,c∈a::rest->0<c->ą x c<=g->c∈F\/c∈rest:=λ c hc U h2=>by
  rcases XE.mp hc with rfl|hc
  ·exact .inl (YF λ h3=>h ⟨U,h2,h3⟩)
  ·exact .inr hc
 exact⟨R.nd,R.ix,R.so,λ b hb c hc U h2=>(R.cl b hb c hc U h2).elim .inl λ h=>sk c h U h2,λ c hc U h2=>(R.sd c hc U h2).elim .inl λ h=>sk c h U h2,λ c hc=>R.rs c (.tail _ hc)⟩
theorem Rg.take{F r1 r2:List Int}{a:Int}{q:Nat×List Int}(R:Rg x g Å F (a::(r1++r2)))(hq:∀b∈q.2,Ix x b)(e:lz x a=q.2)(q1:0<a)(q2:ą x a<=g)(q3:a∉F):Rg x g Å (F++[a]) (r1++(r2++q.2)):=by
 have ha:=(R.rs a (.head _)).2 q1 q2
 have sk:∀c,c∈a::(r1++r2)->c∈F++[a]\/c∈r1++(r2++q.2):=λ c hc=>by
  rcases XE.mp hc with rfl|hc
  ·exact .inl (Xw _ (.head _))
  ·exact .inr (by rw[<-X4];exact Xo _ hc)
 refine⟨Yn.mpr ⟨R.nd,by simp,by rintro b hb c hc rfl;exact q3 (XH.mp hc▸hb)⟩,λ b hb=>?_,λ b hb=>?_,λ b hb c hc U h2=>?_,λ c hc U h2=>?_,λ c hc=>?_⟩
 ·rcases XC.mp hb with hb|hb
  ·exact R.ix b hb
  ·cases XH.mp hb;exact(R.rs a (.head _)).1
 ·rcases XC.mp hb with hb|hb
  ·exact R.so b hb
  ·cases XH.mp hb;exact ha
 ·rcases XC.mp hb with hb|hb
  ·exact(R.cl b hb c hc U h2).elim (λ h=>.inl (Xo _ h)) (sk c)
  ·cases XH.mp hb;rw[e]at hc;exact .inr (Xw _ (Xw _ hc))
 ·exact(R.sd c hc U h2).elim (λ h=>.inl (Xo _ h)) (sk c)
 ·rw[<-X4]at hc;rcases XC.mp hc with hc|hc
  ·exact R.rs c (.tail _ hc)
  ·exact⟨hq c hc,λ U h2=>.step ha (e▸hc) U h2⟩
theorem uc{l:List α}{i:Nat}{x:α}(h:l[i]?\x):l.drop i=x::l.drop (i+1):=by obtain⟨hi,e⟩:=Xv.mp h;rw[<-e];exact Yv hi
theorem rD(O:dK x){a:RS}{G:Ç}{F0 rest R2:List Int}{b:Int}(A:RM x g Å F0 (b::rest) a R2):Ã (d+0) Oy ((261,.int b)::Fp x g nf rr a) (Fq nf x T G a) (IZ (λ a'=>∃R3,RM x g Å F0 rest a' R3) (Fp x g nf rr) (Fq nf x T G)):=by
 have lF:=A.R.len O;have hO:=O.Lo;have lR:=A.b;refine rC O (A.R.rs b (.head _)).1 (by exact ln [_,_] [] (.c 1 (.v 0) (.v 1) (.c 1 (.v 1) (.k 300) .e)) 0 (.a (.v 0) (.k 1)) (.k 5000) rfl lF hO) (by rw[A.e,Xm];exact ln [_,_,_,_] [] (.c 2 (.v 0) (.v 1) (.c 2 (.v 1) (.k 300) (.c 1 (.v 2) (.m 2 (.v 3)) (.c 2 (.v 3) (.v 0) .e)))) 0 (.a (.v 2) (.k 1)) (.k 5000) rfl lF hO lR (aaA _ _)) (λ h=>⟨a,⟨R2,A.e,A.R.skip h,A.b,A.l⟩,rfl,rfl⟩) λ q hq e U h2 h3=>⟨y8 a b q,⟨R2++q.2,?_,A.R.take (O.two q hq).2 e U h2 h3,?_,?_⟩,rfl,rfl⟩
 ·show a.R++_=_;rw[A.e,XF]
 ·show(R2++q.2).length<=2*((a.F++[b]).length - F0.length);have z1:=(O.two q hq).1;have z2:=A.l;rw[Xr,Xr,Ys];exact ln [_,_,_,_,_,_] [] (.c 1 (.v 0) (.m 2 (.v 1)) (.c 1 (.v 2) (.k 2) (.c 2 (.a (.v 1) (.v 3)) (.v 4) (.c 2 (.a (.v 4) (.k 1)) (.a (.v 5) (.v 3)) .e)))) 0 (.a (.v 0) (.v 2)) (.m 2 (.v 5)) rfl lR z1 (XB (Yb (z2))) (su _ _)
 ·show F0.length<=(a.F++[b]).length;rw[Xr];exact Xp A.l (Ya _ _)
structure RN (x:Wd) (g:Int) (Å:List Int) (r0:Nat) (a:RS) (R:List Int):Prop where
 e:a.R=R.map .int
 m:(a.r,.list a.R)∈a.G
 m0:(r0,.list (Å.map .int))∈a.G
 k:Rg x g Å a.F R
 l:R.length<5000
def RO(x:Wd)(a:RS):Nat:=2*(x.gens.length - a.F.length)+min 1 a.R.length
theorem pq(O:dK x){a:RS}{R:List Int}(A:RN x g Å r0 a R)(h0:a.R≠[]):Ã (d+0) [.asg 101 (.list []),.Č 261 (.loc 273) none Oy,.asg 273 (.loc 101)] (LU x g nf a) (Ox nf x T a) (IZ (λ a'=>(∃R',RN x g Å r0 a' R')/\RO x a'<RO x a) (LU x g nf) (Ox nf x T)):=by
 have lF:=A.k.len O;have hO:=O.Lo;refine Ã.g0 (d:=d) 0 [] 1 (Done.st (j:=0) (S0:=S.Č 261 (E.loc 273) none Oy) (L:=Fp x g nf a.r ⟨a.F,a.n,[],[],a.n+1⟩) (h:=⟨(a.n,.list [])::(nf,.list (a.F.map .int))::Ē x,aj x.slots::a.G::T,a.n+1⟩) ?_ [] [] (by kernel_rfl));refine Ď.perm (h':=Fq nf x T a.G ⟨a.F,a.n,[],[],a.n+1⟩) ⟨.refl _,rfl⟩ ?_;refine Þ (Ó.loc rfl ?_);refine î (a0:=⟨a.F,a.n,[],[],a.n+1⟩) (Lf:=Fp x g nf a.r) (hf:=Fq nf x T a.G) (λ i b=>∃R2,RM x g Å a.F (R.drop i) b R2) R V.int (XJ (XN A.l (by decide))) (λ b=>Xw _ (Xw _ (Xw _ (Xo _ (A.e▸A.m))))) ⟨[],rfl,(XQ R).symm▸A.k,Zi _,XS _⟩ ?_ ?_
 ·rintro i b v ⟨R2,B⟩ hv;rw[uc hv]at B;exact rD O B
 ·rintro b ⟨R2,B⟩;have B3:=B.R;rw[aad]at B3;refine Į.g0 [] [] 0 (Done.Ĳ (Z:=ZB _) (fl:=.next) (L:=LU x g nf ⟨b.F,b.r,b.R,[(b.r,.list b.R)]++(b.G++a.G),b.n⟩) (h:=⟨[(b.r,.list b.R)]++((nf,.list (b.F.map .int))::Ē x),aj x.slots::b.G::a.G::T,b.n⟩) RK ⟨⟨b.F,b.r,b.R,[(b.r,.list b.R)]++(b.G++a.G),b.n⟩,⟨⟨R2,B.e,.head _,.tail _ (Xw _ A.m0),B3,?_⟩,?_⟩,rfl,rfl⟩ [] [] (by kernel_rfl))
  ·have z1:=B.b;have z2:=B.R.len O;exact ln [_,_,_,_] [] (.c 2 (.v 0) (.k 300) (.c 1 (.v 1) (.m 2 (.v 2)) (.c 2 (.v 3) (.v 0) (.c 2 (.v 2) (.v 3) .e)))) 0 (.a (.v 1) (.k 1)) (.k 5000) rfl hO z1 z2 (aaA _ _)
  ·have e1:b.R.length=R2.length:=by rw[B.e,Xm]
   have z1:=B.b;have z2:=B.R.len O;have z3:=B.l;have z4:=List.length_pos_iff.mpr h0;show 2*(x.gens.length - b.F.length)+min 1 b.R.length<2*(x.gens.length - a.F.length)+min 1 a.R.length;exact ln [_,_,_,_,_,_,_,_,_,_] [] (.c 1 (.v 0) (.v 1) (.c 1 (.v 1) (.m 2 (.v 2)) (.c 1 (.v 3) (.v 0) (.c 1 (.k 1) (.v 4) (.c 2 (.a (.v 2) (.v 5)) (.v 6) (.c 2 (.a (.v 7) (.v 6)) (.v 8) (.c 2 (.v 8) (.a (.v 9) (.v 5)) .e))))))) 0 (.a (.a (.m 2 (.v 7)) (.v 3)) (.k 1)) (.a (.m 2 (.v 9)) (.v 4)) rfl (XB e1) z1 (Nat.min_le_right _ _) (Nat.le_min.mpr ⟨ln [] [] .e 0 (.k 1) (.k 1) rfl,ln [_] [] (.c 1 (.a (.k 0) (.k 1)) (.v 0) .e) 0 (.k 1) (.v 0) rfl z4⟩) (XB (Yb (z3))) (XB (Yb (z2))) (su _ _)
theorem pv(O:dK x)(hs:∀a∈Å,Ix x a)(hz:Å.length<5000){Z:V->Hp->Prop}(z:∀n' (F:List Int),F.Nodup->(∀a∈F,Ix x a)->(∀a,a∈F↔LR x g (·∈Å) a)->Z (.ref n) ⟨(n,.list (F.map .int))::(r0,.list (Å.map .int))::Ē x,aj x.slots::T,n'⟩):
  Spec (d+1) 89 [.ref x.rw,.int g,.ref r0] ⟨(r0,.list (Å.map .int))::Ē x,aj x.slots::T,n⟩ Z:=by
 refine Spec.g0 (d:=d) 0 rfl rfl [] 1 (Done.st (j:=0) (L:=LU x g n ⟨[],r0,Å.map .int,[(r0,.list (Å.map .int))],n+1⟩) (h:=Ox n x T ⟨[],r0,Å.map .int,[(r0,.list (Å.map .int))],n+1⟩) (bu (c:=E.cmp qF.gt (E.bi 15 Bi.len [E.loc 273]) (E.const (V.int 0))) (b:=[S.asg 101 (E.list []),S.Č 261 (E.loc 273) none [S.ite (E.and [E.cmp qF.gt (E.loc 261) (E.const (V.int 0)),E.cmp qF.le (((E.loc 260).sub (E.const (V.str 267))).sub (E.loc 261)) (E.loc 77),E.cmp qF.ũ (E.loc 261) (E.loc 16)]) [S.expr ((E.loc 16).ì 0 [E.loc 261]),S.asg 101 (E.bin fo.add (E.loc 101) (((E.loc 260).sub (E.const (V.str 92))).sub (E.loc 261)))] []],S.asg 273 (E.loc 101)]) (a0:=⟨[],r0,Å.map .int,[(r0,.list (Å.map .int))],n+1⟩) (Lf:=LU x g n) (hf:=Ox n x T) (λ a=>∃R,RN x g Å r0 a R) (RO x) ⟨Å,rfl,.head _,.head _,⟨.nil,λ _ h=>nm h,λ _ h=>nm h,λ _ h=>nm h,λ a ha _ _=>.inr ha,λ a ha=>⟨hs a ha,λ U h2=>.ź ha U h2⟩⟩,hz⟩ ?_ ?_) [0,1,1,1,1,1,1,1,1,1,1,1,1,1] [1,0] (by kernel_rfl))
 ·have z1:=O.Lo;have z2:min 1 (Å.map V.int).length<=1:=Nat.min_le_left _ _;show 2*(x.gens.length - 0)+min 1 (Å.map V.int).length<i3;unfold i3;exact ln [_,_,_] [] (.c 2 (.v 0) (.k 300) (.c 1 (.v 1) (.k 1) (.c 2 (.v 2) (.v 0) .e))) 0 (.a (.a (.m 2 (.v 2)) (.v 1)) (.k 1)) (.k 10000) rfl z1 z2 (aaA _ _)
 rintro a ⟨R,A⟩;by_cases h0:a.R=[]
 ·refine .inl ⟨(XY (show ¬(0:Int)<a.R.length by rw[h0];decide))▸É.go (d:=d) 0 _ (in1 (Xw _ (Xo _ A.m))) [] 192 (by kernel_rfl),?_⟩;have eR:R=[]:=List.map_eq_nil_iff.mp (A.e▸h0);have K:=A.k;rw[eR]at K;refine Į.sub (h':=⟨(n,.list (a.F.map .int))::Ē x,aj x.slots::[(r0,.list (Å.map .int))]::T,a.n⟩) ⟨?_,rfl⟩ (Į.g0 [1] [] 0 (Done.fr (z a.n a.F K.nd K.ix λ b=>⟨K.so b,λ h=>?_⟩) [0,13,0,0,0,0,0,0,0,0,0,0,0,0,0] [] (by kernel_rfl)))
  ·exact((List.singleton_sublist.mpr A.m0).append (.refl T.flatten)).append_left _|>.append_left _
  ·induction h with
   |ź U h2 h3=>exact(K.sd _ U h2 h3).resolve_right λ h=>nm h
   |step hb U h2 h3 ih=>exact(K.cl _ ih _ U h2 h3).resolve_right λ h=>nm h
 ·exact .inr ⟨(XI (show(0:Int)<a.R.length from Int.natCast_pos.mpr (List.length_pos_iff.mpr h0)))▸É.go (d:=d) 0 _ (in1 (Xw _ (Xo _ A.m))) [] 192 (by kernel_rfl),pq O A h0⟩
end
end Mine.Z
namespace Mine.Z
theorem y9{x:Wd}{l:List Row}(e:l.map (λ r=>V.ref r.1)=x.rows.map λ r=>V.ref r.1):Ē (x.gv l)=Ē x:=by have:∀vs,vs=x.rows.map (λ r=>V.ref r.1)->((Ē x).set 10 (x.Ff,.list vs))=Ē x:=λ vs h=>h▸rfl;exact this _ e
section
variable{d n rf:Nat}{x:Wd}{T:List Ç}{k g:Int}{F:List Int}
def Kb(x:Wd)(k g:Int)(rf:Nat):LV:=[(260,.ref x.rw),(29,.int k),(77,.int g),(16,.ref rf)]
def LW(rf:Nat)(F:List Int)(x:Wd)(T:List Ç)(n:Nat)(rs:List Row):Hp:=⟨(rf,.list (F.map .int))::Ē x,ak rs::T,n⟩
theorem ud{r:Row}{l:List Row}(h:r∈l):(r.1,Ln r)∈ak l:=XX.mpr ⟨r,h,.head _⟩
theorem vC{rs:List Row}{i:Nat}{r:Row}(hr:rs[i]?\r)(hx:Ix x r.2.2){Z:LV->Hp->Prop}(z0:wk x k g F r=r->Z (Kb x k g rf) (LW rf F x T n rs))(z1:Z (Kb x k g rf) (LW rf F x T n (rs.set i (wk x k g F r)))):
  Ã (d+0) [.ite (.and [(.cmp .eq (.sub (.loc 12) (.const (.int 0))) (.loc 29)),(.cmp .le (.sub (.sub (.loc 260) (.const (.str 267))) (.sub (.loc 12) (.const (.int 1)))) (.loc 77)),(.cmp .ũ (.sub (.loc 12) (.const (.int 1))) (.loc 16))]) [.é (.loc 12) (.const (.int 1)) (.const (.int 0))] []] ((12,.ref r.1)::Kb x k g rf) (LW rf F x T n rs) Z:=by
 have R:=in1 (Xo T.flatten (ud (Xt hr)));by_cases q1:r.2.1=k
 ·by_cases q2:ą x r.2.2<=g
  ·by_cases q3:r.2.2∈F
   ·exact Ã.go 0 _ R [Õ q1,ë (ĩ hx),Õ q2,gf (ŭ r.2.2 F),eQ (vz q3)] 6666909225783476875210983672784158912 (Done.fb (z0 (by unfold wk;rw[XW λ h=>h.2.2 q3])) [] [] (by kernel_rfl))
   ·have e:wk x k g F r=(r.1,r.2.1,0):=by unfold wk;rw[XR ⟨q1,q2,q3⟩]
    rw[e]at z1;exact Ã.perm (Bu hr) (Ã.g0 0 [Õ q1,ë (ĩ hx),Õ q2,gf (ŭ r.2.2 F),eQ (vA q3)] 6666929448771958659575855303075364864 (Done.Ĳ (Z:=ZB Z) (fl:=.next) (L:=Kb x k g rf) (h:=⟨Hy (r.1,r.2.1,0)++((rf,.list (F.map .int))::Ē x),cut Hy rs i::T,n⟩) (gh hr) z1 [] [] (by kernel_rfl)))
  ·exact Ã.go 0 _ R [Õ q1,ë (ĩ hx),į q2] 3636314479573190907592896 (Done.fb (z0 (by unfold wk;rw[XW λ h=>q2 h.2.1])) [] [] (by kernel_rfl))
 ·exact Ã.go 0 _ R [į q1] 65728 (Done.fb (z0 (by unfold wk;rw[XW λ h=>q1 h.1])) [] [] (by kernel_rfl))
theorem ue(hx:∀r∈x.rows,Ix x r.2.2)(hz:x.rows.length<1000){Z:V->Hp->Prop}(z:Z .none ⟨(rf,.list (F.map .int))::Ē (x.gv (x.rows.map (wk x k g F))),ak (x.rows.map (wk x k g F))::T,n⟩):
  Spec (d+1) 90 [.ref x.rw,.int k,.int g,.ref rf] ⟨(rf,.list (F.map .int))::Ē x,ak x.rows::T,n⟩ Z:=by
 refine Spec.g0 (d:=d) 0 rfl rfl [] 1 (Done.st (S0:=sB 90 [0]) (j:=0) (L:=Kb x k g rf) (h:=LW rf F x T n x.rows) ?_ [] [] (by kernel_rfl));refine Þ (Ó.p0 (î (a0:=x.rows) (Lf:=λ _=>Kb x k g rf) (hf:=LW rf F x T n) (λ i rs=>rs=Ŏ (wk x k g F) x.rows i) x.rows (λ r=>.ref r.1) (XJ (đ hz)) (λ _=>mg 11 rfl) rfl ?_ ?_) 0 [] 1 (by kernel_rfl))
 ·rintro i _ r rfl hr;exact vC (Ů hr) (hx r (Xt hr)) (λ e=>⟨_,eV hr e,rfl,rfl⟩) ⟨_,aT hr,rfl,rfl⟩
 ·rintro _ rfl;rw[dr];have e:Ē (x.gv (x.rows.map (wk x k g F)))=Ē x:=y9 (X5 ..);rw[e]at z;exact Į.g0 [] [] 0 (Done.fn z [] [] (by kernel_rfl))
end
end Mine.Z
namespace Mine.Z
section
variable{d n nf rl:Nat}{x:Wd}{T:List Ç}{g:Int}
theorem du{c:Cell}{l:List Cell}(h:c∈l):(c.r,N9 c)∈bp l:=XX.mpr ⟨c,h,.head _⟩
def LX(x:Wd)(g:Int)(a:RS):LV:=[(260,.ref x.rw),(77,.int g),(272,.ref a.r)]
def LZ(x:Wd)(T:List Ç)(a:RS):Hp:=⟨(a.r,.list a.R)::Ē x,aj x.slots::a.G::T,a.n⟩
def w6(x:Wd)(g:Int)(i:Nat):List Int:=(x.Ì++x.cells.map (·.a))++((x.live.take i).filter λ a=>decide (g<ą x a)).flatMap (lz x)
theorem CM(O:dK x)(X:ri x)(i:Nat):(w6 x g i).length<=1300:=by have U:=j5 x O ((x.live.take i).filter λ a=>decide (g<ą x a)) (λ a ha=>X.live a (ZG (XG.mp ha).1));have h2:=XP (λ a=>decide (g<ą x a)) (x.live.take i);have h3:=X1 i x.live;have z1:=X.zl;have z2:=X.zf;have z3:=X.zc;unfold w6;simp only[Xr,Xm];exact ln [_,_,_,_,_,_,_] [] (.c 1 (.v 0) (.m 2 (.v 1)) (.c 2 (.v 1) (.v 2) (.c 2 (.v 2) (.v 3) (.c 2 (.v 3) (.k 300) (.c 1 (.a (.v 4) (.v 5)) (.k 600) (.c 1 (.v 6) (.k 10) .e)))))) 0 (.a (.a (.v 5) (.v 6)) (.v 0)) (.k 1300) rfl U h2 h3 z1 z2 z3
theorem rE(O:dK x)(X:ri x){a0:RS}(e0:a0.R=(w6 x g 0).map .int){Z:LV->Hp->Prop}(z:∀a,a.R=(ê x g).map .int->Z (LX x g a) (LZ x T a)):
  Ď (d+1) (.Č 261 (.sub (.loc 260) (.const (.str 264))) none [.ite (.cmp .gt (.sub (.sub (.loc 260) (.const (.str 267))) (.loc 261)) (.loc 77)) [.asg 272 (.bin .add (.loc 272) (.sub (.sub (.loc 260) (.const (.str 92))) (.loc 261)))] []]) (LX x g a0) (LZ x T a0) Z:=by
 refine Þ (Ó.p0 (î (a0:=a0) (Lf:=LX x g) (hf:=LZ x T) (λ i a=>a.R=(w6 x g i).map .int) x.live .int (Xp X.zl (by decide)) (λ _=>mg 7 rfl) e0 ?_ ?_) 1 [] 1 (by kernel_rfl))
 ·intro i a b e hb;have hm:=X.live b (Xt hb)
  have es:w6 x g (i+1)=w6 x g i++if g<ą x b then lz x b else []:=by
   unfold w6;rw[Ă hb,XZ,X4];by_cases q:g<ą x b
   ·rw[XI q,XR q];simp
   ·rw[XY q,XW q];simp
  by_cases q1:g<ą x b
  ·obtain⟨q,hq,yW,hs⟩:=cQ O hm;rw[XR q1,hs]at es;have e1:Ū (x.slots.map λ q=>V.ref q.1) b\(.ref q.1):=Ğ hm.1 hq
   have e3:a.R.length+(q.2.map V.int).length<=lim:=by rw[e,Xm,Xm];exact Xp (YD (CM O X i) (O.two q yW).1) (by decide)
   exact Ã.go (d:=d) 1 _ (in1 (Xo _ (ny yW))) [ë (ĩ hm),Õ q1,ë e1,Õ e3] 96341449272457092538533217828865 (Done.Ĳ (Z:=ZB _) (fl:=.next) (L:=LX x g ⟨[],a.n,a.R++q.2.map V.int,[(a.r,.list a.R)]++a.G,a.n+1⟩) (h':=LZ x T ⟨[],a.n,a.R++q.2.map V.int,[(a.r,.list a.R)]++a.G,a.n+1⟩) (h:=⟨[(a.r,.list a.R)]++((a.n,.list (a.R++q.2.map V.int))::Ē x),aj x.slots::a.G::T,a.n+1⟩) LS ⟨_,by rw[e,<-XF,es],rfl,rfl⟩ [1,0,0,0,0,0,0,0,0,0,0,0,0,0,0] [] (by kernel_rfl))
  ·rw[XW q1,XQ]at es;exact Ã.g0 (d:=d) 1 [ë (ĩ hm),į q1] 2203402108929 (Done.dm a (es▸e) [] [] (by kernel_rfl))
 ·intro a e;refine z a (e.trans ?_);unfold w6 ê;rw[X6]
theorem L_{f:Int->V}(l m:List Int):O.list (l.map f++m.map f)=.list ((l++m).map f):=Xq O.list (XF (f:=f) (l₁:=l) (l₂:=m)).symm
abbrev fap(l m:List Int):Fact:=fO (L_ (f:=V.int) l m)
def mid(x:Wd)(r1 r2:Nat)(g:Int)(F1:List Int):Wd:={x with rows:=x.rows.map (wk x 0 g F1),Œ:=r1,fin:=x.fin.filter (λ a=>!decide (a∈Î x g F1)),ŕ:=r2,Ì:=x.Ì++Î x g F1}
def CN(x:Wd)(r1 r2:Nat)(g:Int)(F1 F2:List Int):Wd:={x with rows:=(x.rows.map (wk x 0 g F1)).map (wk x 1 g F2),Œ:=r1,fin:=x.fin.filter (λ a=>!decide (a∈Î x g F1)),ŕ:=r2,Ì:=x.Ì++Î x g F1}
theorem Hz{r1 r2:Nat}{F1:List Int}(O:dK x)(X:ri x):ri (mid x r1 r2 g F1):=by
 have hlf:∀a∈Î x g F1,a∈x.fin:=λ a ha=>(XG.mp ha).1;refine⟨λ a ha=>X.fin a (XG.mp ha).1,λ a ha=>(XC.mp ha).elim (X.Ì a) λ h=>X.fin a (hlf a h),X.live,X.cells,λ q hq=>?_,X.zl,?_,X.zc,by show(x.rows.map _).length<=600;rw[Xm];exact X.zr⟩
 ·obtain⟨r,hr,rfl⟩:=Xx.mp hq;show Ix x (if _ then 0 else r.2.2);split
  ·exact⟨X9 _,Xs (Zi _) (X.rows r hr).2⟩
  ·exact X.rows r hr
 ·have h2:=Ł (λ a=>decide (ą x a<=g)&&!decide (a∈F1)) x.fin
  have h3:(x.fin.filter λ a=>!decide (a∈Î x g F1))=x.fin.filter λ a=>!(decide (ą x a<=g)&&!decide (a∈F1)):=by
   refine YS λ a ha=>?_
   have:decide (a∈Î x g F1)=(decide (ą x a<=g)&&!decide (a∈F1)):=by unfold Î;rw[Ze];simp only[XG,ha,true_and,YT]
   rw[this]
  show(x.fin.filter λ a=>!decide (a∈Î x g F1)).length+(x.Ì++Î x g F1).length<=600;rw[h3,Xr];have z2:(Î x g F1).length=(x.fin.filter λ a=>decide (ą x a<=g)&&!decide (a∈F1)).length:=rfl;have z3:=X.zf;exact ln [_,_,_,_,_] [] (.c 1 (.a (.v 0) (.v 1)) (.v 2) (.c 1 (.v 3) (.v 1) (.c 1 (.a (.v 2) (.v 4)) (.k 600) .e))) 0 (.a (.v 0) (.a (.v 4) (.v 3))) (.k 600) rfl (XB h2) (XB z2) z3
def BB(x:Wd)(g:Int)(nf:Nat):LV:=[(260,.ref x.rw),(77,.int g),(16,.ref nf)]
def Oz(nf:Nat)(F:List Int)(x:Wd)(T:List Ç)(n:Nat)(gs:List Int):Hp:=⟨(nf,.list (F.map .int))::Ē (x.LQ gs),T,n⟩
structure BuI (x:Wd) (F:List Int) (gs:List Int):Prop where
 len:gs.length=x.gens.length
 at_:∀a,Ix x a->gs.getD a.toNat 0=if a∈F then min 2 (ą x a+1)else ą x a
theorem vD{F:List Int}(nd:F.Nodup)(HA:∀a∈F,Ix x a)(hz:F.length<1000){Z:LV->Hp->Prop}(z:∀gs,rn x F gs->Z (BB x g nf) (Oz nf F x T n gs)):
  Ď (d+1) (.Č 261 (.loc 16) none [.é (.sub (.loc 260) (.const (.str 267))) (.loc 261) (.bi 277 .min [(.const (.int 2)),(.bin .add (.sub (.sub (.loc 260) (.const (.str 267))) (.loc 261)) (.const (.int 1)))])]) (BB x g nf) (Oz nf F x T n x.gens) Z:=by
 refine Þ (Ó.loc rfl (î (a0:=x.gens) (Lf:=λ _=>BB x g nf) (hf:=Oz nf F x T n) (λ i gs=>BuI x (F.take i) gs) F .int (XJ (đ hz)) (λ _=>.head _) ⟨rfl,λ a _=>(XW λ h=>nm h).symm▸rfl⟩ ?_ ?_))
 ·intro i gs a B ha;have hm:=HA a (Xt ha);have ht:F.take (i+1)=F.take i++[a]:=take_snoc ha
  have hn:a∉F.take i:=λ h=>by have:=nd;rw[<-YN (i+1) F,ht]at this;exact(Yn.mp (Yn.mp this).1).2.2 a h a (.head _) rfl
  have hl:a.toNat<gs.length:=B.len▸hm.2
  have e1:Ū (gs.map .int) a\(.int (ą x a)):=by refine Ğ (y:=ą x a) hm.1 ?_;have:=B.at_ a hm;rw[XW hn,XO,Xz hl]at this;rw[Xz hl];exact Xq some this
  have c1:0<=a/\a.toNat<(gs.map V.int).length:=⟨hm.1,by rw[Xm];exact hl⟩;have e2:O.list ((gs.map V.int).set a.toNat (.int (if ą x a+1<2 then ą x a+1 else 2)))=.list ((gs.set a.toNat (if ą x a+1<2 then ą x a+1 else 2)).map .int):=Xq O.list ZH.symm;refine Ã.g0 (d:=d) 1 [ë e1,Õ c1,fO e2] 930896492935960292105388033 (Done.dm (gs.set a.toNat (if ą x a+1<2 then ą x a+1 else 2)) ⟨by rw[Zu];exact B.len,λ b hb=>?_⟩ [] [] (by kernel_rfl));rw[ht,XO];by_cases q:a=b
  ·subst q;rw[Zq hl,XR (Xw _ (.head _))];exact Xi
  ·have wX:a.toNat≠b.toNat:=λ h=>q (by rw[<-Xy hm.1,<-Xy hb.1,h]);have hi:(b∈F.take i++[a])↔b∈F.take i:=⟨λ h=>(XC.mp h).elim id λ h=>absurd (XH.mp h).symm q,Xo _⟩;rw[aaj wX,<-XO,B.at_ b hb];simp only[hi]
 ·intro gs B;rw[X6]at B;exact z gs ⟨B.len,B.at_⟩
abbrev Ma:E:=(.and [(.cmp .le (.sub (.sub (.loc 260) (.const (.str 267))) (.loc 261)) (.loc 77)),(.cmp .ũ (.loc 261) (.loc 16))])
theorem vE{F:List Int}{a:Int}(HA:Ix x a):É (d+1) Ma ((261,.int a)::BB x g nf) ⟨(nf,.list (F.map .int))::Ē x,T,n⟩ (.bool (decide (ą x a<=g)&&!decide (a∈F))):=by
 by_cases q:ą x a<=g
 ·have e:(decide (ą x a<=g)&&!decide (a∈F))=!decide (a∈F):=by rw[XI q];rfl
  rw[e];exact É.g0 1 [ë (ĩ HA),Õ q,gf (ŭ a F)] 216174985515892737 (by kernel_rfl)
 ·have e:(decide (ą x a<=g)&&!decide (a∈F))=false:=by rw[XY q];rfl
  rw[e];exact É.g0 1 [ë (ĩ HA),į q] 2203402108929 (by kernel_rfl)
theorem vF{F:List Int}{a:Int}(HA:Ix x a):É (d+1) (.or [(.cmp .gt (.sub (.sub (.loc 260) (.const (.str 267))) (.loc 261)) (.loc 77)),(.cmp .isin (.loc 261) (.loc 16))]) ((261,.int a)::BB x g nf) ⟨(nf,.list (F.map .int))::Ē x,T,n⟩ (.bool (decide (g<ą x a)||decide (a∈F))):=by
 by_cases q:g<ą x a
 ·have e:(decide (g<ą x a)||decide (a∈F))=true:=by rw[XI q];rfl
  rw[e];exact É.g0 1 [ë (ĩ HA),Õ q] 2203402108929 (by kernel_rfl)
 ·have e:(decide (g<ą x a)||decide (a∈F))=decide (a∈F):=by rw[XY q];rfl
  rw[e];exact É.g0 1 [ë (ĩ HA),į q,gf (ŭ a F)] 216174985515892737 (by kernel_rfl)
theorem y_(x:Wd)(g:Int):O.list (x.Ì.map V.int++x.cells.map λ c=>V.int c.a)=.list ((w6 x g 0).map .int):=by unfold w6;rw[List.take_zero,List.filter_nil,aae,XQ,XF,X5];rfl
theorem za{c:Cell}{L:LV}{E:Ç}{l:List Cell}(hc:c∈l):É (d+1) (.sub (.loc 218) (.const (.int 2))) ((218,.ref c.r)::L) ⟨E,bp l::T,n⟩ (.int c.a):=É.go 1 _ (in1 (T:=(bp l::T).flatten) (Xo _ (du hc))) [] 192 (by kernel_rfl)
theorem l8{L:LV}:É (d+1) (.sub (.loc 260) (.const (.str 269))) ((260,.ref x.rw)::L) ⟨Ē x,T,n⟩ (.ref x.yG):=É.g0 1 [] 0 (by kernel_rfl)
theorem CP{F:List Int}:É (d+1) (.sub (.loc 260) (.const (.str 85))) (BB x g nf) ⟨(nf,.list (F.map .int))::Ē x,T,n⟩ (.ref x.Œ):=É.g0 1 [] 1 (by kernel_rfl)
def RQ(x:Wd)(g:Int)(rl r0:Nat):LV:=[(260,.ref x.rw),(77,.int g),(276,.ref rl),(272,.ref r0)]
theorem zb{F:List Int}{r0:Nat}:É (d+1) (.sub (.loc 260) (.const (.str 85))) (RQ x g rl r0) ⟨(rl,.list (F.map .int))::Ē x,T,n⟩ (.ref x.Œ):=É.g0 1 [] 1 (by kernel_rfl)
theorem rF{F:List Int}{r0:Nat}{a:Int}:É (d+1) (.cmp .ũ (.loc 261) (.loc 276)) ((261,.int a)::RQ x g rl r0) ⟨(rl,.list (F.map .int))::Ē x,T,n⟩ (.bool (!decide (a∈F))):=É.g0 1 [gf (ŭ a F)] 256 (by kernel_rfl)
theorem zd{F:List Int}:É (d+1) (.sub (.loc 260) (.const (.str 264))) (BB x g nf) ⟨(nf,.list (F.map .int))::Ē x,T,n⟩ (.ref x.wZ):=É.g0 1 [] 1 (by kernel_rfl)
theorem rn.cg{x y:Wd}{F gs:List Int}(e:x.gens=y.gens)(B:rn x F gs):rn y F gs:=by refine⟨e▸B.len,λ a ha=>?_⟩;have:=B.at_ a;unfold Ix ą at*;rw[e]at this;exact this ha
def HB(x:Wd)(r1 r2 r3:Nat)(g:Int)(F1 F2:List Int):Wd:={x with rows:=(x.rows.map (wk x 0 g F1)).map (wk x 1 g F2),Œ:=r1,fin:=x.fin.filter (λ a=>!decide (a∈Î x g F1)),ŕ:=r2,Ì:=x.Ì++Î x g F1,wZ:=r3,live:=x.live.filter (λ a=>decide (g<ą x a)||decide (a∈F2))}
def CQ(x:Wd)(r1 r2 r3:Nat)(g:Int)(F1 F2 gs:List Int):Wd:={x with rows:=(x.rows.map (wk x 0 g F1)).map (wk x 1 g F2),Œ:=r1,fin:=x.fin.filter (λ a=>!decide (a∈Î x g F1)),ŕ:=r2,Ì:=x.Ì++Î x g F1,wZ:=r3,live:=x.live.filter (λ a=>decide (g<ą x a)||decide (a∈F2)),gens:=gs}
theorem ze{r1 r2 r3:Nat}{F1 F2 gs:List Int}(f1:∀a,a∈F1↔LR x g (·∈ê x g) a)(f2:∀a,a∈F2↔LR (mid x r1 r2 g F1) g (·∈ê x g++Î x g F1) a)(ix:∀a∈F2,Ix x a)(B:rn (HB x r1 r2 r3 g F1 F2) F2 gs):tT x (CQ x r1 r2 r3 g F1 F2 gs) g F1 F2:=⟨f1,λ b=>(f2 b).trans ⟨LR.cg (x:=mid x r1 r2 g F1) (y:=x) (λ _=>rfl) (λ _=>rfl),LR.cg (x:=x) (y:=mid x r1 r2 g F1) (λ _=>rfl) (λ _=>rfl)⟩,ix,r1,r2,r3,gs,rfl,rn.cg (x:=HB x r1 r2 r3 g F1 F2) (y:=x) rfl B⟩
set_option maxHeartbeats 1000000 in
theorem cV(O:dK x)(X:ri x){Z:V->Hp->Prop}(z:∀n' r1 r2 r3 F1 F2 gs,tT x (CQ x r1 r2 r3 g F1 F2 gs) g F1 F2->Z .none ⟨Ē (CQ x r1 r2 r3 g F1 F2 gs),aj x.slots::ak (CQ x r1 r2 r3 g F1 F2 gs).rows::bp x.cells::T,n'⟩):
  Spec (d+2) 91 [.ref x.rw,.int g] ⟨Ē x,aj x.slots::ak x.rows::bp x.cells::T,n⟩ Z:=by
 have lO:=vl O X (g:=g)
 have e0:(x.Ì.map V.int).length+(x.cells.map λ c=>V.int c.a).length<=lim:=by rw[Xm,Xm];exact Xp (YD (Xp (YH _ _) X.zf) X.zc) (by decide)
 refine Spec.g0 (d:=d) 1 rfl rfl [] 0 (Done.ev (j:=1) (L:=[(260,.ref x.rw),(77,.int g)]) (h:=⟨Ē x,bp x.cells::aj x.slots::ak x.rows::T,n⟩) (comp_map x.cells (λ c=>.ref c.r) (λ c=>.int c.a) (r:=x.yG) l8 (Xp X.zc (by decide)) (mg 12 rfl) (λ c hc=>za hc) ?_) [] [2,0,0] (by kernel_rfl));refine á.g0 [] [Õ e0,fO (y_ x g)] 4328587274 (Done.st (j:=1) (L:=LX x g ⟨[],n+1,(w6 x g 0).map .int,[(n,.list (x.cells.map λ c=>.int c.a))],n+2⟩) (h:=LZ x (ak x.rows::bp x.cells::T) ⟨[],n+1,(w6 x g 0).map .int,[(n,.list (x.cells.map λ c=>.int c.a))],n+2⟩) (rE O X rfl λ a ea=>?_) [0,1,1,1,1,1,1,1,1,1,1,1,1,1] [2,0,1,0] (by kernel_rfl));refine Į.sub (h':=⟨(a.r,.list a.R)::Ē x,aj x.slots::ak x.rows::bp x.cells::T,a.n⟩) ⟨(ZN _ _).append_left _|>.append_left _,rfl⟩ ?_;refine Į.g0 [] [] 1 (Done.call (f:=89) (vs:=[V.ref x.rw,V.int g,V.ref a.r]) (j:=1) (h:=⟨(a.r,.list a.R)::Ē x,aj x.slots::ak x.rows::bp x.cells::T,a.n⟩) ?_ [] [] (by kernel_rfl));rw[ea];refine pv O lO.1 (Xs lO.2 (by decide)) λ n2 F1 nd1 ix1 f1=>?_;refine á.g0 [] [] 1 (Done.ā (j:=1) (ue (k:=0) (g:=g) (n:=n2) (x:=x) (rf:=a.n) (F:=F1) X.rows (Xs X.zr (by decide)) ?_) [0,1,1,1,1,1,1,1,1,1,1,1,1,1] [2] rfl (by kernel_rfl));refine á.g0 [] [] 0 (Done.ev (j:=1) (L:=BB x g a.n) (h:=⟨(a.n,.list (F1.map .int))::Ē (x.gv (x.rows.map (wk x 0 g F1))),[(a.r,.list ((ê x g).map .int))]::ak (x.rows.map (wk x 0 g F1))::aj x.slots::bp x.cells::T,n2⟩) (cK x.fin (λ a=>decide (ą x a<=g)&&!decide (a∈F1)) (CP (x:=x.gv (x.rows.map (wk x 0 g F1)))) (Xp (Xp (Ya _ _) X.zf) (by decide)) (mg 9 rfl) (λ a ha=>vE (x:=x.gv (x.rows.map (wk x 0 g F1))) (X.fin a ha)) ?_) [] [1,0,0,0] (by kernel_rfl));have lf:=Xp (Xp (Ya _ _) X.zf) (by decide:600<=lim);refine á.g0 [] [] 0 (Done.ev (j:=1) (L:=RQ x g n2 a.r) (h:=⟨(n2,.list ((Î x g F1).map .int))::Ē (x.gv (x.rows.map (wk x 0 g F1))),[(a.n,.list (F1.map .int))]::[(a.r,.list ((ê x g).map .int))]::ak (x.rows.map (wk x 0 g F1))::aj x.slots::bp x.cells::T,n2+1⟩) (cK x.fin (λ a=>!decide (a∈Î x g F1)) (zb (x:=x.gv (x.rows.map (wk x 0 g F1)))) lf (mg 9 rfl) (λ a ha=>rF (x:=x.gv (x.rows.map (wk x 0 g F1)))) ?_) [0,1,1,1,1,1,1,1,1,1,1,1,1,1] [] (by kernel_rfl));have ll:(Î x g F1).length<=x.fin.length:=XP _ _
 have c1:(x.Ì.map V.int).length+((Î x g F1).map V.int).length<=lim:=by rw[Xm,Xm];exact Xp (YD (XS _) ll) (aau _ _▸Xp X.zf (by decide))
 have c2:((ê x g).map V.int).length+((Î x g F1).map V.int).length<=lim:=by rw[Xm,Xm];exact Xp (YD lO.2 (Xp ll (Xp (Ya _ _) X.zf))) (by decide)
 refine á.g0 [1] [Õ c1,fap x.Ì (Î x g F1),Õ c2,fap (ê x g) (Î x g F1)] 5798455790308139072905685138506334368448905218 (Done.call (f:=89) (vs:=[V.ref x.rw,V.int g,V.ref (n2+3)]) (j:=1) (h:=⟨(n2+3,.list ((ê x g++Î x g F1).map .int))::Ē (mid x (n2+1) (n2+2) g F1),aj x.slots::[(n2,.list ((Î x g F1).map .int)),(x.Œ,.list (x.fin.map .int)),(x.ŕ,.list (x.Ì.map .int)),(a.r,.list ((ê x g).map .int))]::[(a.n,.list (F1.map .int))]::ak (x.rows.map (wk x 0 g F1))::bp x.cells::T,n2+4⟩) ?_ [0,3,3,3,3,3,3,3,3,1,0,3,3,3] [3,0,0,0,0] (by kernel_rfl));have O8:dK (mid x (n2+1) (n2+2) g F1):=⟨O.len,O.Lo,O.two⟩;have X8:=Hz (r1:=n2+1) (r2:=n2+2) (g:=g) (F1:=F1) O X;refine pv O8 (λ b hb=>(XC.mp hb).elim (lO.1 b) λ h=>X.fin b (XG.mp h).1) (by rw[Xr];exact Xs (YD lO.2 (Xp ll (Xp (Ya _ _) X.zf))) (by decide)) λ n3 F2 Ue RT f2=>?_;refine á.g0 [] [] 1 (Done.ā (j:=1) (ue (k:=1) (g:=g) (n:=n3) (x:=mid x (n2+1) (n2+2) g F1) (rf:=n2+4) (F:=F2) X8.rows (Xs X8.zr (by decide)) ?_) [0,1,1,1,1,1,1,1,1,1,1,1,1,1] [4] rfl (by kernel_rfl));refine á.g0 [] [] 0 (Done.ev (j:=1) (L:=BB x g (n2+4)) (h:=⟨(n2+4,.list (F2.map .int))::Ē (CN x (n2+1) (n2+2) g F1 F2),ak ((x.rows.map (wk x 0 g F1)).map (wk x 1 g F2))::aj x.slots::bp x.cells::[(n2+3,.list ((ê x g++Î x g F1).map .int))]::[(n2,.list ((Î x g F1).map .int)),(x.Œ,.list (x.fin.map .int)),(x.ŕ,.list (x.Ì.map .int)),(a.r,.list ((ê x g).map .int))]::[(a.n,.list (F1.map .int))]::T,n3⟩) (cK x.live (λ a=>decide (g<ą x a)||decide (a∈F2)) (zd (x:=CN x (n2+1) (n2+2) g F1 F2)) (Xp X.zl (by decide)) (mg 7 rfl) (λ a ha=>vF (x:=CN x (n2+1) (n2+2) g F1 F2) (X.live a ha)) ?_) [] [0,1,3,0,0,0] (by kernel_rfl));refine á.g0 [] [] 4294967298 (Done.st (S0:=sB 91 [10]) (j:=1) (L:=BB x g (n2+4)) (h:=Oz (n2+4) F2 (HB x (n2+1) (n2+2) n3 g F1 F2) ([(x.wZ,.list (x.live.map .int))]::ak ((x.rows.map (wk x 0 g F1)).map (wk x 1 g F2))::aj x.slots::bp x.cells::[(n2+3,.list ((ê x g++Î x g F1).map .int))]::[(n2,.list ((Î x g F1).map .int)),(x.Œ,.list (x.fin.map .int)),(x.ŕ,.list (x.Ì.map .int)),(a.r,.list ((ê x g).map .int))]::[(a.n,.list (F1.map .int))]::T) (n3+1) x.gens) ?_ [1,1,1,1,1,1,1,0,1,1,1,1,1,1] [] (by kernel_rfl));refine vD (x:=(CN x (n2+1) (n2+2) g F1 F2).LN n3 (x.live.filter λ a=>decide (g<ą x a)||decide (a∈F2))) Ue RT (Xs (Xp (Fg (x:=x) Ue RT) O.Lo) (by decide)) λ gs B=>?_;exact Į.g0 [0,3,3,3] [] 0 (Done.fn (z (n3+1) _ _ _ F1 F2 gs (ze f1 f2 RT B)) [1,1,1,1,1,1,1,1,1,1,1,1,1] [1,0,0] (by kernel_rfl))
end
end Mine.Z
namespace Mine.Z
variable{m':Mc}{vs:List V}{p':HP}
def tA(m:Mc)(x:Wd)(F:List Ç):List Ç:=cT m.p.À::cW m.rows::cF m.q.à::cR (Æ m.q)::gu m.q.hv m.fd (m.rows.map (·.1))::aj x.slots::ak x.rows::bp x.cells::F
def hA(m:Mc)(x:Wd)(F:List Ç)(n:Nat):Hp:=⟨cS m.q++(cH m.h m.p++Ē x),tA m x F,n⟩
structure Gd (m:Mc) (x:Wd):Prop where
 I:Ka m
 S:ĳ m x
 J:x.J=m.q.J
 om:0<=x.at_
 kg:1<=m.q.à.length
 cz:4<=x.cells.length/\x.cells.length<=5
def Ĕ(m m':Mc):Mc:={m' with q:={m'.q with J:=m.q.J,c:=m.q.c,sc:=m.q.sc}}
def Ë(x x':Wd):Wd:={x' with rw:=x.rw,J:=x.J,bW:=x.bW,Fe:=x.Fe,rk:=x.rk}
def zg(f:bV):bV:={f with as:=[],ls:=[]}
def oo(c:Cell):Cell:={c with a:=0}
def Wd.Ö(x:Wd)(r:Nat):Wd:={x with J:=r}
theorem Gd.Ö{m:Mc}{x:Wd}(D:Gd m x):∃y:Wd,x=y.Ö m.q.J:=⟨x,by rw[<-D.J];rfl⟩
theorem Ű{m:Mc}(h:1<=m.q.à.length):Ū (m.q.à.map λ x=>V.ref x.f) 0\(.ref (f0 m)):=by
 unfold f0;cases e:m.q.à with
 |nil=>rw[e]at h;exact absurd h (by decide)
 |cons a l=>rfl
structure Dn (m:Mc) (x:Wd) (k:Nat) (m':Mc) (x':Wd):Prop where
 D:Gd m' x'
 fs:m'.q.à.map zg=m.q.à.map zg
 ce:x'.cells.map oo=x.cells.map oo
 ph:ġ x'<=ġ x+k
 at_:x.at_<=x'.at_
 ru:x.runs<=x'.runs
 e1:m'=Ĕ m m'
 e2:x'=Ë x x'
theorem Dn.mono{m:Mc}{x:Wd}{k:Nat}{x':Wd}(D:Dn m x 0 m' x'):Dn m x k m' x':={D with ph:=Xp D.ph (Ya _ _)}
theorem Dn.uf{m:Mc}{x:Wd}{x':Wd}(D:Dn m x 1 m' x'):Dn m x 2 m' x':={D with ph:=Xp D.ph (Zj _)}
theorem Dn.trans{m:Mc}{x:Wd}{j k:Nat}{m1 m2:Mc}{x1 x2:Wd}(a:Dn m x j m1 x1)(b:Dn m1 x1 k m2 x2):Dn m x (j+k) m2 x2:=by
 have f:∀m',Ĕ m1 m'=Ĕ m m':=λ m'=>by rw[a.e1];rfl
 have g:∀x',Ë x1 x'=Ë x x':=λ x'=>by rw[a.e2];rfl
 exact⟨b.D,b.fs^a.fs,b.ce^a.ce,Xp b.ph (aaQ ..▸YP a.ph k),YZ a.at_ b.at_,YZ a.ru b.ru,(f m2)▸b.e1,(g x2)▸b.e2⟩
theorem Dn.use{m:Mc}{x:Wd}{k:Nat}{P:Mc->Wd->Prop}(h:∀m' x',Dn m x k (Ĕ m m') (Ë x x')->P (Ĕ m m') (Ë x x'))(m':Mc)(x':Wd)(D:Dn m x k m' x'):P m' x':=by have:=h m' x';rw[<-D.e1,<-D.e2]at this;exact this D
section
variable{d n:Nat}{m:Mc}{x:Wd}{F:List Ç}
theorem Gd.CR(D:Gd m x)(h:ġ x<=252):dK x/\ri x:=by have S:=D.S;obtain⟨L1,L2⟩:=S.len;obtain⟨c1,c2⟩:=D.cz;have h:=eU h;exact⟨S.Rn (by have:=S.m0;exact li [_] [_] (.c 1 (.v 0) (.k 252) (.i 1 (.v 0) (.n (.v 0)) .e)) 0 (.v 0) (.k 290) rfl h.1 (XU _)),λ a ha=>S.Fh (.inr (S.o_ a ha).1),λ a ha=>S.Fh (.inr (S.og a ha).1),λ a ha=>S.Fh (.inr ha),λ c hc=>S.Fh (S.gZ c hc).2.1,λ r hr=>S.Fh (S.Ck r hr).2,by exact ln [_,_] [] (.c 1 (.v 0) (.v 1) (.c 1 (.v 1) (.k 252) .e)) 0 (.v 0) (.k 300) rfl L1 h.1,by exact ln [_,_] [] (.c 1 (.v 0) (.k 252) (.c 1 (.v 1) (.k 252) .e)) 0 (.a (.v 0) (.v 1)) (.k 600) rfl h.2.2.1 h.2.2.2.1,by exact Xp c2 (by decide),by exact ln [_] [] (.c 1 (.v 0) (.k 252) .e) 0 (.v 0) (.k 600) rfl h.2.1⟩
theorem Done.HC{r:Rt}{b:Bool}{Z:V->Hp->Prop}{h h':Hp}(hb:b=true)(P:Ô h h')(z:Z (.bool true) h')(ix jx:List Nat)(e:vL r ix jx []=vR r (.fin (.ret (.bool b)) h) []):Done d r (ZF Z):=Done.Ĳ (Z:=ZF Z) (fl:=.ret (.bool b)) (L:=[]) P (hb▸z) ix jx e
theorem á.OA{r:Rt}{Z:Fl->LV->Hp->Prop}{v:V}{h:Hp}(ux:List Nat)(T':List Ç)(hT:(ō ux h).T=T')(R:List mR)(hR:∀c∈R,c∈T'.flatten)(Q:List Fact)(k:Nat)(D:Done d (K_ r.core v (ō ux h) R Q k) Z):á d r Z v h:=á.go ux R (hT▸hR) Q k D
theorem Spec.eq{f:Nat}{h h':Hp}{Z:V->Hp->Prop}(e:h'=h)(S:Spec d f vs h' Z):Spec d f vs h Z:=e▸S
theorem Spec.nd{f:Nat}{vs:List V}{h:Hp}{Z:V->Hp->Prop}(k:((h.E++h.T.flatten).map Prod.fst).Nodup->Spec d f vs h Z):Spec d f vs h Z:=λ s W=>k W.1.nd s W
theorem HD{h:Hp}{S:Ç}(N:((h.E++h.T.flatten).map Prod.fst).Nodup)(k:S∈h.T):(S.map Prod.fst).Nodup:=by obtain⟨a,b,e⟩:=List.append_of_mem k;rw[e,Y3,Yj,XF,XF,XF]at N;exact(Yn.mp (Yn.mp (Yn.mp N).2.1).2.1).1
theorem cX(N:(((hA m x F n).E++(hA m x F n).T.flatten).map Prod.fst).Nodup):((Æ m.q).map (·.1)).Nodup:=by
 have:=HD N (S:=cR (Æ m.q)) (mg 3 rfl)
 have e:∀l:List (Nat×List Int),(cR l).map Prod.fst=l.map (·.1):=λ l=>by
  induction l with
  |nil=>rfl
  |cons a l ih=>exact Xq (a.1::·) ih
 exact e _▸this
theorem HE(D:Gd m x){hd rr:Nat}{å ms:List Int}{g:Int}(N:((Æ m.q).map (·.1)).Nodup)(C:iT m.p p' (Æ m.q) g å ms)(hg:0<=g){x':Wd}{F1 F2:List Int}(L:tT x x' g F1 F2):Dn m x 0 (lH m hd rr p' å ms g) x':=by
 have S':=yN D.S D.I.O N (λ r hr=>(D.I.rws r hr).1) hg (CK (hd:=hd) (rr:=rr) C) L;refine Ks L.e λ r1 r2 r3 cU hx B=>?_
 have U:ġ x'<=ġ x:=by
  have h2:=Ł (λ a=>decide (ą x a<=g)&&!decide (a∈F1)) x.fin
  have h3:(x.fin.filter λ a=>!decide (a∈Î x g F1))=x.fin.filter λ a=>!(decide (ą x a<=g)&&!decide (a∈F1)):=by
   refine YS λ a ha=>?_
   have:decide (a∈Î x g F1)=(decide (ą x a<=g)&&!decide (a∈F1)):=by unfold Î;rw[Ze];simp only[XG,ha,true_and,YT]
   rw[this]
  have h4:(x.fin.filter λ a=>!decide (a∈Î x g F1)).length+(x.Ì++Î x g F1).length=x.fin.length+x.Ì.length:=by rw[h3,Xr];unfold Î;exact Yq (ln [_,_,_,_] [] (.c 1 (.a (.v 0) (.v 1)) (.v 2) .e) 0 (.a (.v 0) (.a (.v 3) (.v 1))) (.a (.v 2) (.v 3)) rfl (XB h2)) (ln [_,_,_,_] [] (.c 1 (.v 0) (.a (.v 1) (.v 2)) .e) 0 (.a (.v 0) (.v 3)) (.a (.v 1) (.a (.v 3) (.v 2))) rfl (XB h2.symm))
  rw[hx];unfold ġ ji;simp only[Xm];exact ln [_,_,_,_,_,_,_,_,_] [] (.c 1 (.a (.v 0) (.v 1)) (.a (.v 2) (.v 3)) .e) 0 (.a (.a (.a (.a (.a (.a (.v 4) (.v 5)) (.v 0)) (.v 1)) (.v 6)) (.v 7)) (.m 7 (.v 8))) (.a (.a (.a (.a (.a (.a (.v 4) (.v 5)) (.v 2)) (.v 3)) (.v 6)) (.v 7)) (.m 7 (.v 8))) rfl (XB h4)
 have h2:1<=(m.q.à.map (Fc (Ķ m.p g ms))).length:=by rw[Xm];exact D.kg
 have h3:(m.q.à.map (Fc (Ķ m.p g ms))).map zg=m.q.à.map zg:=by rw[X5];rfl
 subst hx;exact⟨⟨y4 D.I C,S',D.J,D.om,h2,D.cz⟩,h3,rfl,U,X9 _,X9 _,rfl,rfl⟩
end
end Mine.Z
namespace Mine.Z
section
variable{d n:Nat}{m:Mc}{x:Wd}{F:List Ç}
theorem pw(D:Gd m x)(h:ġ x<=252):(m.q.bP.map V.int).length<lim/\(x.bP.map V.int).length<lim:=by have:=eU h;have e:=D.S.bP;rw[Xm,Xm,<-e];exact⟨Xs this.2.2.2.2.1 (by decide),Xs this.2.2.2.2.1 (by decide)⟩
def RU(m:Mc)(t:Int):Mc:={m with q:={m.q with bP:=m.q.bP++[t]}}
def Mb(x:Wd)(t:Int):Wd:={x with bP:=x.bP++[t]}
theorem zh(D:Gd m x)(t:Int):Dn m x 1 (RU m t) (Mb x t):=by refine⟨⟨{D.I with},Co D.S t,D.J,D.om,D.kg,D.cz⟩,rfl,rfl,?_,X9 _,X9 _,rfl,rfl⟩;unfold ġ Mb ji;simp only[Xr,Ys];exact ln [_,_,_,_,_,_,_] [] .e 0 (.a (.a (.a (.a (.a (.a (.v 0) (.v 1)) (.v 2)) (.v 3)) (.a (.v 4) (.k 1))) (.v 5)) (.m 7 (.v 6))) (.a (.a (.a (.a (.a (.a (.a (.v 0) (.v 1)) (.v 2)) (.v 3)) (.v 4)) (.v 5)) (.m 7 (.v 6))) (.k 1)) rfl
abbrev fi{a b:Int}(h:a=b):Fact:=ë (Xq (λ z=>some (V.int z)) h)
theorem HG(D:Gd m x)(h:ġ x<=252){g:Int}{Z:V->Hp->Prop}(z:∀m' x' n',Dn m x 1 m' x'->Z (.bool true) (hA m' x' F n')):Spec (d+12) 98 [.ref x.rw,.int g] (hA m x F n) Z:=by
 obtain⟨x,rfl⟩:=D.Ö;have f0:=Ű D.kg;by_cases q:g<0
 ·have l:=pw D h;exact Spec.g0 11 rfl rfl [ë f0,Õ q,Õ l.1,Õ l.2,fs .int m.q.bP 32,fs .int x.bP 32] 842173013609413661627387601327740676821434059998777644804328295203687186185381580559163010868058266368 (Done.fr (z _ _ (n+1) (zh D 32)) [1,1,1,1,1,1,1,1,1,1,1,1,1,1,1,1,1,1,1,1,1,1,1,1,1,1,1,1,1,1,1,1,1,1,1,1,1,1,1] [] (by kernel_rfl))
 ·have hg:0<=g:=Yc.mp q;refine Spec.nd λ N=>?_;have N:=cX N;obtain⟨O,X⟩:=D.CR h;by_cases q2:2<g
  ·refine Spec.g0 11 rfl rfl [ë f0,į q,Õ q2] 1625818389322458026364731107611391480669475145620460989848320 (Done.yt (j:=9) (ů (g:=2) (n:=n+1) D.I λ v hd rr p' å ms n1 C=>?_) [1,1,1,1,1,1,1,1,1,1,1,1,1,1,1,1,1,1,1,1,1,1,1,1,1,1] [1,1,1,1,1] rfl (by kernel_rfl));refine á.g0 [5] [į q,fi (XR q2:(if 2<g then (2:Int)else g)=2)] 66049 (Done.lW (j:=11) (cV (g:=2) (n:=n1) (d:=d+9) O X λ n2 r1 r2 r3 F1 F2 gs L=>?_) [27,27,27,27,27,27,27,27,27,27,27,27,27] [6,6,6] rfl (by kernel_rfl));exact á.g0 [3] [] 0 (Done.fr (z _ _ n2 (HE (hd:=hd) (rr:=rr) D N C (by decide) L).mono) [13,13,13,13,13,13,13,13,13,13,13,13,13,13,13,13,13,13,13,13,13,13,13,13,13,13,0,0,0,0,0,0,0,0,0,0,0,0,0] [3,3,3,3,3,0,0,0] (by kernel_rfl))
  ·refine Spec.g0 11 rfl rfl [ë f0,į q,į q2] 1625818389322458026364731107611391480669475145620460989848320 (Done.yt (j:=9) (ů (g:=g) (n:=n+1) D.I λ v hd rr p' å ms n1 C=>?_) [1,1,1,1,1,1,1,1,1,1,1,1,1,1,1,1,1,1,1,1,1,1,1,1,1,1] [1,1,1,1,1] rfl (by kernel_rfl));refine á.g0 [5] [į q,fi (XW q2:(if 2<g then (2:Int)else g)=g)] 66049 (Done.lW (j:=11) (cV (g:=g) (n:=n1) (d:=d+9) O X λ n2 r1 r2 r3 F1 F2 gs L=>?_) [27,27,27,27,27,27,27,27,27,27,27,27,27] [6,6,6] rfl (by kernel_rfl));exact á.g0 [3] [] 0 (Done.fr (z _ _ n2 (HE (hd:=hd) (rr:=rr) D N C hg L).mono) [13,13,13,13,13,13,13,13,13,13,13,13,13,13,13,13,13,13,13,13,13,13,13,13,13,13,0,0,0,0,0,0,0,0,0,0,0,0,0] [3,3,3,3,3,0,0,0] (by kernel_rfl))
end
end Mine.Z
namespace Mine.Z
variable{α:Type}{rl:List (Nat×List Int)}
def pz(m:Mc)(l:Nat)(vs:List Int):Mc:={m with q:=i7 m.q l vs}
def nA(x:Wd)(k:Nat)(c:Cell)(a:Int):Wd:={x with cells:=x.cells.set k {c with a:=a}}
section
variable{d n k:Nat}{m:Mc}{x:Wd}{F:List Ç}{c:Cell}{vs:List Int}{a:Int}
theorem aX(hc:x.cells[k]?\c)(f:Cell->α)(hf:f {c with a:=a}=f c):(x.cells.set k {c with a:=a}).map f=x.cells.map f:=by
 rw[ZH,hf];refine Zh λ j=>?_;rw[Y1];split
 ·rename_i h;subst h;rw[X3,hc,Xm,XR (Xv.mp hc).1];rfl
 ·rfl
theorem kh(S:ĳ m x)(N:((Æ m.q).map (·.1)).Nodup)(hz:(c.l,vs)∈Æ m.q)(hj:c.i.toNat<vs.length)(w:Int):Æ (i7 m.q c.l (vs.set c.i.toNat w))=(Æ m.q).map λ z=>if z.1=c.l then (z.1,vs.set c.i.toNat w)else z:=
 vo λ z BC e h=>by have:=aQ N z BC _ hz e;rw[this]at h;rw[show vs=[]from h]at hj;exact absurd hj (YQ _)
theorem CS(S:ĳ m x)(N:((Æ m.q).map (·.1)).Nodup)(hc:x.cells[k]?\c)(c2:(c.l,vs)∈Æ m.q)(hj:c.i.toNat<vs.length)(ha:Kn x a):ĳ (pz m c.l (vs.set c.i.toNat (W m.p.À a))) (nA x k c a):=by
 have RV:=(Xv.mp hc).1;have pB:=kh S N c2 hj (W m.p.À a)
 have RX:∀c'∈x.cells.set k {c with a:=a},∃Fs∈x.cells,c'.l=Fs.l/\c'.i=Fs.i/\((c'=Fs/\¬(c'.l=c.l/\c'.i=c.i))\/(Fs=c/\c'.a=a)):=by
  intro c' pC;obtain⟨j,Kc⟩:=YW pC;rw[Y1]at Kc;by_cases h:k=j
  ·rw[XR h,XR RV]at Kc;cases Kc;exact⟨c,Xt hc,rfl,rfl,.inr ⟨rfl,rfl⟩⟩
  ·rw[XW h]at Kc;refine⟨c',Xt Kc,rfl,rfl,.inl ⟨rfl,λ hh=>?_⟩⟩;have pos:=aaF.mp S.pos;obtain⟨Ug,e1⟩:=Xv.mp Kc;obtain⟨_,e2⟩:=Xv.mp hc;rcases Nat.lt_or_gt_of_ne h with gk|gk
   ·exact pos k j RV Ug gk (by rw[e1,e2];exact⟨hh.1.symm,hh.2.symm⟩)
   ·exact pos j k Ug RV gk (by rw[e1,e2];exact hh)
 refine {S with gZ:=?_,o7:=?_,pos:=?_}
 ·intro c' pC;obtain⟨Fs,hm,e1,e2,h⟩:=RX c' pC;obtain⟨d0,d1,us,d2,d3⟩:=S.gZ Fs hm;show 0<=c'.i/\Kn x c'.a/\∃aw,(c'.l,aw)∈Æ (i7 m.q c.l _)/\aw[c'.i.toNat]?\(W m.p.À c'.a);rw[pB];rcases h with⟨rfl,h⟩|⟨rfl,h⟩
  ·by_cases hl:c'.l=c.l
   ·obtain rfl:us=vs:=Xq Prod.snd (aQ N _ d2 _ c2 hl);refine⟨d0,d1,_,Xx.mpr ⟨_,d2,XR hl⟩,?_⟩;have:=(S.gZ c (Xt hc)).1;rw[aaj λ h2=>h ⟨hl,by exact Yw (li [_,_] [_,_] (.c 1 (.v 0) (.v 1) (.i 1 (.n (.v 1)) (.v 0) (.i 1 (.v 1) (.n (.v 0)) .e))) 0 (.v 1) (.v 0) rfl (XB h2.symm) (Xu (Xy (li [] [_] (.i 1 (.k 0) (.v 0) .e) 0 (.k 0) (.v 0) rfl this))) (XU _)) (li [_,_] [_,_] (.c 1 (.v 0) (.v 1) (.i 1 (.v 0) (.n (.v 0)) (.i 1 (.n (.v 1)) (.v 1) .e))) 0 (.v 0) (.v 1) rfl (XB h2) (XU _) (Xu (Xy (li [] [_] (.i 1 (.k 0) (.v 0) .e) 0 (.k 0) (.v 0) rfl d0))))⟩];exact d3
   ·exact⟨d0,d1,us,Xx.mpr ⟨_,d2,XW hl⟩,d3⟩
  ·rw[e1,e2,h];exact⟨d0,ha,_,Xx.mpr ⟨_,c2,XR rfl⟩,by rw[Y1,XR rfl,XR hj]⟩
 ·intro z hz j Uh;have hz:z∈Æ (i7 m.q c.l _):=hz;rw[pB]at hz;obtain⟨y,hy,rfl⟩:=Xx.mp hz
  have Ui:(if y.1=c.l then (y.1,vs.set c.i.toNat (W m.p.À a))else y).1=y.1/\(if y.1=c.l then (y.1,vs.set c.i.toNat (W m.p.À a))else y).2.length=y.2.length:=by
   split
   ·rename_i h;rw[aQ N y hy _ c2 h];exact⟨rfl,Zu⟩
   ·exact⟨rfl,rfl⟩
  rw[Ui.2]at Uh;rw[Ui.1];obtain⟨c',pC,e1,e2⟩:=S.o7 y hy j Uh;obtain⟨Fs,U,h2⟩:=Xx.mp (aX (a:=a) hc oo rfl▸Xx.mpr ⟨c',pC,rfl⟩:oo c'∈(x.cells.set k {c with a:=a}).map oo);exact⟨Fs,U,(Xq Cell.l h2)^e1,(Xq Cell.i h2)^e2⟩
 ·have:∀l:List Cell,l.Pairwise (λ c c'=>¬(c.l=c'.l/\c.i=c'.i))↔(l.map oo).Pairwise (λ c c'=>¬(c.l=c'.l/\c.i=c'.i)):=λ l=>by rw[aaK];rfl
  exact(this _).mpr (aX (a:=a) hc oo rfl▸(this _).mp S.pos)
theorem HH(D:Gd m x)(N:((Æ m.q).map (·.1)).Nodup)(hc:x.cells[k]?\c)(c2:(c.l,vs)∈Æ m.q)(hj:c.i.toNat<vs.length)(ha:Kn x a):Dn m x 0 (pz m c.l (vs.set c.i.toNat (W m.p.À a))) (nA x k c a):=by
 refine⟨⟨{D.I with t8:=?_,nr:=?_},CS D.S N hc c2 hj ha,D.J,D.om,?_,?_⟩,?_,aX hc oo rfl,XS _,X9 _,X9 _,rfl,rfl⟩
 ·intro z hz;have hz:z∈Æ (i7 m.q c.l _):=hz;rw[kh D.S N c2 hj]at hz;obtain⟨y,hy,rfl⟩:=Xx.mp hz;obtain⟨r1,r2⟩:=D.I.t8 y hy;split
  ·rename_i h;rw[aQ N y hy _ c2 h]at r1 r2;exact⟨Zu.symm▸r1,λ v hv=>(ZM hv).elim (r2 v) λ e=>e▸D.S.nm ha⟩
  ·exact⟨r1,r2⟩
 ·show(List.map _ _).length<=3;rw[Xm];exact D.I.nr
 ·show 1<=(List.map _ _).length;rw[Xm];exact D.kg
 ·show 4<=(List.set _ _ _).length/\(List.set _ _ _).length<=5;rw[Zu];exact D.cz
 ·show(List.map _ (List.map _ _))=_;rw[X5];rfl
theorem Ô.front(jx:List Nat){E:Ç}{T:List Ç}{n:Nat}:Ô ⟨E,T,n⟩ ⟨E,Mine.Z.front jx T,n⟩:=⟨(Ŭ jx T).append_left _,rfl⟩
def Fu(m:Mc)(x:Wd)(F:List Ç):List Ç:=cT m.p.À::cW m.rows::cF m.q.à::gu m.q.hv m.fd (m.rows.map (·.1))::aj x.slots::ak x.rows::F
theorem RY{E:Ç}{i:Nat}{cs:List Cell}{q:Nat×List Int}(hc:cs[k]?\c)(hi:rl[i]?\q):Ô ⟨E,cR rl::bp cs::F,n⟩ ⟨oj q++(eW c++E),cut oj rl i::cut eW cs k::F,n⟩:=(Ô.front [1]).trans ((Bu (f:=eW) (F:=cR rl::F) hc)^((Ô.front [1])^(Bu hi)))
theorem HI{E:Ç}{i:Nat}{cs:List Cell}{q q':Nat×List Int}{c':Cell}(hc:cs[k]?\c)(hi:rl[i]?\q):Ô ⟨oj q'++(eW c'++E),cut oj rl i::cut eW cs k::F,n⟩ ⟨E,cR (rl.set i q')::bp (cs.set k c')::F,n⟩:=(gh (f:=oj) (l:=rl) (y:=q') (F:=cut eW cs k::F) hi).trans ((Ô.front [1])^((gh (f:=eW) (l:=cs) (y:=c') (F:=cR (rl.set i q')::F) hc)^(Ô.front [1])))
theorem kj{q:Nat×List Int}{v:List Int}:∀{L:List (Nat×List Int)} {i:Nat},(L.map (·.1)).Nodup->L[i]?\q->(L.map λ z=>if z.1=q.1 then (z.1,v)else z)=L.set i (q.1,v)
 |[],_,_,h=>ns h
 |y::L,0,N,h=>by cases h;rw[Yd,XR rfl];refine Xq (_::·) ((Yt λ z hz=>XW λ e=>?_)^(List.map_id _));exact(X0.mp N).1 (Xx.mpr ⟨z,hz,e⟩)
 |y::L,i+1,N,h=>by have hm:q∈L:=Xt (i:=i) h;rw[Yd,XW λ e=>(X0.mp N).1 (Xx.mpr ⟨q,hm,e.symm⟩),kj (X0.mp N).2 h];rfl
theorem HJ{i:Nat}{w:Int}(S:ĳ m x)(N:((Æ m.q).map (·.1)).Nodup)(hc:x.cells[k]?\c)(hi:(Æ m.q)[i]?\(c.l,vs))(hj:c.i.toNat<vs.length):
  hA (pz m c.l (vs.set c.i.toNat w)) (nA x k c a) F n=⟨cS m.q++(cH m.h m.p++Ē x),cT m.p.À::cW m.rows::cF m.q.à::cR ((Æ m.q).set i (c.l,vs.set c.i.toNat w))::gu m.q.hv m.fd (m.rows.map (·.1))::aj x.slots::ak x.rows::bp (x.cells.set k {c with a:=a})::F,n⟩:=by
 have e1:cS (i7 m.q c.l (vs.set c.i.toNat w))=cS m.q:=by show _::(_,O.list (List.map _ (List.map _ _)))::_=_;rw[X5];rfl
 have e2:cF (i7 m.q c.l (vs.set c.i.toNat w)).à=cF m.q.à:=by show List.flatMap _ (List.map _ _)=_;rw[ZJ];rfl
 have e3:Ē (nA x k c a)=Ē x:=by have:∀l:List V,l=x.cells.map (λ c=>V.ref c.r)->(Ē x).set 12 (x.yG,.list l)=Ē x:=λ l h=>h▸rfl;exact this _ (aX hc _ rfl)
 have e4:=(kh S N (Xt hi) hj w)^(kj N hi);unfold hA tA;rw[e3];show Hp.mk (cS (i7 m.q c.l _)++_) (_::_::cF (i7 m.q c.l _).à::cR (Æ (i7 m.q c.l _))::_) n=_;rw[e1,e2,e4];rfl
theorem ĕ(S:ĳ m x)(wh:Wh m x)(ha:Kn x a):(è (š x.wh) (.int a)).join\(.int (W m.p.À a)):=by
 have hm:(a,W m.p.À a)∈ņ m.p.À:=by
  rcases ha with rfl|h
  ·rw[By];exact .head _
  ·obtain⟨t,ht,rfl,e⟩:=S.get h;rw[e];exact .tail _ (Xx.mpr ⟨t,ht,rfl⟩)
 rw[wh,jg,Option.join_some];have hf:=aP (ņ m.p.À) a;rw[XI (Xx.mpr ⟨_,hm,rfl⟩)]at hf;have:=h9 hm (Hf S);unfold mv at this;cases q:(ņ m.p.À).find? λ q=>decide (q.1=a)with
 |none=>rw[q]at hf;exact ft hf
 |some z=>rw[q]at this;exact Xq (λ z=>some (V.int z)) this
theorem km{k:Int}(D:Gd m x)(wh:Wh m x)(hk:0<=k)(RI:k<x.cells.length)(ha:Kn x a){Z:V->Hp->Prop}(z:∀vs,Dn m x 0 (pz m (eF x k).l vs) (nA x k.toNat (eF x k) a)->Z .none (hA (pz m (eF x k).l vs) (nA x k.toNat (eF x k) a) F n)):
  Spec (d+2) 92 [.ref x.rw,.int k,.int a] (hA m x F n) Z:=by
 refine Spec.nd λ N=>?_;have N:=cX N;obtain⟨OB,hc⟩:=m8 hk RI;generalize eF x k=c at*;obtain⟨c0,c1,vs,c2,c3⟩:=D.S.gZ c OB;obtain⟨i,hi⟩:=YW c2;have hj:=(Xv.mp c3).1;have z:=z _ (HH D N hc c2 hj ha);rw[HJ D.S N hc hi hj]at z;have wf:=ĕ D.S wh ha;generalize W m.p.À a=w at*;have f1:Ū (x.cells.map λ c=>V.ref c.r) k\(.ref c.r):=Ğ hk hc;have f2:0<=c.i/\c.i.toNat<(vs.map val).length:=⟨c0,by rw[Xm];exact hj⟩;have f3:O.list ((vs.map val).set c.i.toNat (val w))=.list ((vs.set c.i.toNat w).map val):=Xq O.list ZH.symm;refine Spec.perm ((Ô.front [3,6])^(RY (F:=Fu m x F) hc hi)) ?_;exact Spec.g0 (d:=d) 1 rfl rfl [ë f1,ë wf,Õ f2,fO f3] 5798455088480949674245059266957421558760472604 (Done.Ĳ (Z:=ZF Z) (fl:=.next) (L:=[]) (h:=⟨oj (c.l,vs.set c.i.toNat w)++(eW {c with a:=a}++(cS m.q++(cH m.h m.p++Ē x))),cut oj (Æ m.q) i::cut eW x.cells k.toNat::Fu m x F,n⟩) ((HI hc hi)^(Ô.front [2,2,2,0,1,1,1])) z [] [] (by kernel_rfl))
end
end Mine.Z
namespace Mine.Z
section
variable{d n:Nat}{m:Mc}{x:Wd}{F:List Ç}{a:Int}
def RZ(m:Mc)(w:Int)(r1 r2:Nat):Mc:={m with p:={m.p with Œ:=r1,ŕ:=r2,fin:=m.p.fin.filter (λ b=>!decide (b=w)),Ì:=m.p.Ì.filter (λ b=>!decide (b=w))}}
def Md(x:Wd)(a:Int)(r1 r2:Nat):Wd:={x with Œ:=r1,fin:=x.fin.filter (λ b=>!decide (b=a)),ŕ:=r2,Ì:=x.Ì.filter (λ b=>!decide (b=a))}
def R4(m:Mc)(w:Int):Mc:={m with p:={m.p with fin:=m.p.fin++[w]}}
def Me(x:Wd)(a:Int):Wd:={x with fin:=x.fin++[a]}
theorem HK(D:Gd m x)(ha:a∈x.live)(r1 r2 r3 r4:Nat):Dn m x 1 (RZ m (W m.p.À a) r1 r2) (Md x a r3 r4):=by
 have l1:=XP (λ b=>!decide (b=a)) x.fin;have l2:=XP (λ b=>!decide (b=a)) x.Ì;refine⟨⟨⟨{D.I.O with},D.I.hv,D.I.rws,D.I.t8,λ b hb=>D.I.fin b (XG.mp hb).1,λ b hb=>D.I.Ì b (XG.mp hb).1,D.I.nr,D.I.rz,?_⟩,yR D.S D.I.O ha r1 r2 r3 r4,D.J,D.om,D.kg,D.cz⟩,rfl,rfl,?_,X9 _,X9 _,rfl,rfl⟩
 ·exact Xs (YD (XP _ _) (XP _ _)) D.I.fz
 ·unfold ġ Md ji;simp only;exact ln [_,_,_,_,_,_,_,_,_] [] (.c 1 (.v 0) (.v 1) (.c 1 (.v 2) (.v 3) .e)) 0 (.a (.a (.a (.a (.a (.a (.v 4) (.v 5)) (.v 0)) (.v 2)) (.v 6)) (.v 7)) (.m 7 (.v 8))) (.a (.a (.a (.a (.a (.a (.a (.v 4) (.v 5)) (.v 1)) (.v 3)) (.v 6)) (.v 7)) (.m 7 (.v 8))) (.k 1)) rfl l1 l2
theorem HL(D:Gd m x)(h:ġ x<=252)(ha:a∈x.live)(hk:lB x a≠1):Dn m x 1 (R4 m (W m.p.À a)) (Me x a):=by
 have ph:=eU h;refine⟨⟨⟨{D.I.O with},D.I.hv,D.I.rws,D.I.t8,λ b hb=>(XC.mp hb).elim (D.I.fin b) λ e=>XH.mp e▸D.S.nm (.inr ha),D.I.Ì,D.I.nr,D.I.rz,?_⟩,Cn D.S ha hk,D.J,D.om,D.kg,D.cz⟩,rfl,rfl,?_,X9 _,X9 _,rfl,rfl⟩
 ·show(m.p.fin++[_]).length+m.p.Ì.length<1000;rw[Xr,D.S.fin,D.S.Ì,Xm,Xm,Ys];exact ln [_,_] [] (.c 1 (.v 0) (.k 252) (.c 1 (.v 1) (.k 252) .e)) 0 (.a (.a (.a (.v 0) (.k 1)) (.v 1)) (.k 1)) (.k 1000) rfl ph.2.2.1 ph.2.2.2.1
 ·unfold ġ Me ji;simp only[Xr,Ys];exact ln [_,_,_,_,_,_,_] [] .e 0 (.a (.a (.a (.a (.a (.a (.v 0) (.v 1)) (.a (.v 2) (.k 1))) (.v 3)) (.v 4)) (.v 5)) (.m 7 (.v 6))) (.a (.a (.a (.a (.a (.a (.a (.v 0) (.v 1)) (.v 2)) (.v 3)) (.v 4)) (.v 5)) (.m 7 (.v 6))) (.k 1)) rfl
theorem vG(D:Gd m x)(wh:Wh m x)(h:ġ x<=252){k:Int}(hk:k=35\/k=36){Z:V->Hp->Prop}(z:∀m' x' n',Dn m x 1 m' x'->Z (.bool true) (hA m' x' F n')):Spec (d+7) 97 [.ref x.rw,.int 0,.int k] (hA m x F n) Z:=by
 have f0:=Ű D.kg;have wf:=ĕ D.S wh (.inl rfl);rw[By]at wf;have l:=pw D h;obtain⟨x,rfl⟩:=D.Ö;have fin:=z _ _ (n+1) (zh D 31);rcases hk with rfl|rfl
 ·exact Spec.g0 6 rfl rfl [ë wf,ë f0,Õ l.1,Õ l.2,fs .int m.q.bP 31,fs .int x.bP 31] 60684961124365488088736552640611885098355884333654365586677846792472683191319478413659397452154884902466851042565822976 (Done.fr fin [1,1,1,1,1,1,1,1,1,1,1,1,1,1,1,1,1,1,1,1,1,1,1,1,1,1,1,1,1,1,1,1,1,1,1,1,1,1,1] [] (by kernel_rfl))
 ·have e:(è (gX m.p.À) (.int 0)).map (λ q=>q.getD .none)\V.none:=by
   rw[bw];cases q:m.p.À.find? λ x=>decide (x.ad=0)with
   |none=>rfl
   |some t=>exact absurd (ai q).2 (Yz (Yo (by decide) (D.I.O.T.ù t (ai q).1).1))
  exact Spec.g0 6 rfl rfl [ë wf,ë f0,Õ l.1,Õ l.2,fs .int m.q.bP 31,fs .int x.bP 31,ë e] 4372812292906967169997436755975201417405736959678703935194185841598667046687180226448519471275130805104746161708965024220040775730207232 (Done.fr fin [1,1,1,1,1,1,1,1,1,1,1,1,1,1,1,1,1,1,1,1,1,1,1,1,1,1,1,1,1,1,1,1,1,1,1,1,1,1,1] [] (by kernel_rfl))
def Mf(x:Wd)(a k v:Int):LV:=[(292,.int v),(260,.ref x.rw),(261,.int a),(11,.int k)]
theorem ug{T:List Ç}{E:Ç}{k v b:Int}:É (d+6) (.cmp .ne (.loc 294) (.loc 261)) ((294,.int b)::Mf x a k v) ⟨E,T,n⟩ (.bool (!decide (b=a))):=É.g0 6 [] 0 (by kernel_rfl)
theorem Mg{T:List Ç}{k v:Int}:É (d+6) (.sub (.loc 260) (.const (.str 85))) (Mf x a k v) ⟨Ē x,T,n⟩ (.ref x.Œ):=É.g0 6 [] 0 (by kernel_rfl)
theorem Mh{T:List Ç}{k v:Int}:É (d+6) (.sub (.loc 260) (.const (.str 86))) (Mf x a k v) ⟨Ē x,T,n⟩ (.ref x.ŕ):=É.g0 6 [] 0 (by kernel_rfl)
theorem HM(D:Gd m x)(wh:Wh m x)(h:ġ x<=252)(ha:a∈x.live){Z:V->Hp->Prop}(z:∀m' x' n',Dn m x 1 m' x'->Z (.bool true) (hA m' x' F n')):Spec (d+7) 97 [.ref x.rw,.int a,.int 35] (hA m x F n) Z:=by have f0:=Ű D.kg;have wf:=ĕ D.S wh (.inr ha);have w0:=D.S.Rw D.I.O ha;have a0:¬a=0:=Yz (D.S.rg a ha).1;have dn:=HK D ha;have pb:=eU h;have l1:x.fin.length<=lim:=Xp pb.2.2.1 (by decide);have l2:x.Ì.length<=lim:=Xp pb.2.2.2.1 (by decide);have fz:=D.I.fz;obtain⟨x,rfl⟩:=D.Ö;generalize W m.p.À a=w at*;refine Spec.g0 6 rfl rfl [ë wf,ë f0,į w0] 497323236410244255545159849700786253262355083542160864340710569474088920624444473350656 (Done.lV (j:=4) (pj (h:=m.q.c 75) (a:=w) (n:=n+1) (d:=d+3) fz ?_) [21,21,21,21,21,21] [] rfl (by kernel_rfl));refine á.g0 [0] [į a0] 1 (Done.JZ (j:=6) (L:=Mf (x.Ö m.q.J) a 35 (-1)) (E:=Ē (x.Ö m.q.J)) (n:=n+3) (cK (x.Ö m.q.J).fin (λ b=>!decide (b=a)) Mg l1 (mg 8 rfl) (λ _ _=>ug) ?_) [27,27,27,27,27,27,27,27,27,27,27,27,27] [] rfl (by kernel_rfl));refine á.g0 [0] [] 1 (Done.JZ (j:=6) (L:=Mf (x.Ö m.q.J) a 35 (-1)) (E:=Ē ((x.Ö m.q.J).LM (n+3) ((x.Ö m.q.J).fin.filter (λ b=>!decide (b=a))))) (n:=n+4) (cK (x.Ö m.q.J).Ì (λ b=>!decide (b=a)) (Mh (x:=(x.Ö m.q.J).LM (n+3) ((x.Ö m.q.J).fin.filter (λ b=>!decide (b=a))))) l2 (mg 9 rfl) (λ _ _=>ug) ?_) [1,1,1,1,1,1,1,1,0,1,1,1,1] [] rfl (by kernel_rfl));exact á.g0 [0] [] 1 (Done.fr (z _ _ (n+5) (dn (n+1) (n+2) (n+3) (n+4))) [22,22,22,22,22,22,22,22,22,22,22,22,22,22,22,22,22,22,22,22,15,15,15,15,15,15,1,1,1,1,1,1,1,1,1,0,1,1,1] [] (by kernel_rfl))
theorem az{l:List È}{t:È}(h:t∈l)(b:Bool):(bif b then (t.t,lX t)else (t.sl,yw t))∈cT l:=XX.mpr ⟨t,h,by cases b;exact mg 1 rfl;exact .head _⟩
theorem HN{k:Int}(U:0<=k)(h2:k<=3):(è [(.int 16,.int 1),(.int 18,.int 1),(.int 19,.int 1)] (.int (16+k))).map Option.isSome\(!decide (k=1)):=by
 have:k=0\/k=1\/k=2\/k=3:=by exact Kp (U) (li [] [_] (.i 1 (.v 0) (.k 3) .e) 0 (.a (.v 0) (.k 1)) (.k 4) rfl h2)
 rcases this with rfl|rfl|rfl|rfl<;>rfl
theorem Dn.refl(D:Gd m x)(k:Nat):Dn m x k m x:=⟨D,rfl,rfl,Ya _ _,X9 _,X9 _,rfl,rfl⟩
theorem kq(S:ĳ m x)(h:a∈x.live):Ū (x.sorts.map V.int) a\(.int (lB x a)):=Ğ (Z1 (S.rg a h).1) (S.J9 h).1
theorem HO(D:Gd m x)(wh:Wh m x)(h:ġ x<=252)(ha:a∈x.live){Z:V->Hp->Prop}(z:∀m' x' n',Dn m x 1 m' x'->Z (.bool true) (hA m' x' F n')):Spec (d+7) 97 [.ref x.rw,.int a,.int 36] (hA m x F n) Z:=by
 have f0:=Ű D.kg;have wf:=ĕ D.S wh (.inr ha);have a0:¬a=0:=Yz (D.S.rg a ha).1;have so:=kq D.S ha;have dn:=HL D h ha;have kb:=(D.S.J9 ha).2;have pb:=eU h;have l1:(x.fin.map V.int).length<lim:=by rw[Xm];exact Xs pb.2.2.1 (by decide)
 have l2:(m.p.fin.map V.int).length<lim:=by rw[Xm,D.S.fin,Xm];exact Xs pb.2.2.1 (by decide)
 obtain⟨t,ht,rfl,e⟩:=D.S.get ha;have g:=ax (Ņ D.I.O.T ht);have R:=in1 (T:=(tA m x F).flatten) (Xo _ (az ht true));have kd:=HN kb.1 kb.2;rw[<-(D.S.th t ht).1]at kd;rw[e]at wf dn;obtain⟨x,rfl⟩:=D.Ö;by_cases hk:lB (x.Ö m.q.J) t.sr=1
 ·rw[vz hk]at kd;exact Spec.go 6 rfl rfl _ R [ë wf,ë f0,ë g,gf kd,į a0,ë so,eQ (vz hk)] 304295961442653511745821604470575699457899741838458836193558726545210665190002690032273178129277401069638838505779364160042179072 (Done.fr (z _ _ (n+1) (Dn.refl D 1)) [1,1,1,1,1,1,1,1,1,1,1,1,1,1,1,1,1,1,1,1,1,1,1,1,1,1,1,1,1,1,1,1,1,1,1,1,1,1,1] [] (by kernel_rfl))
 ·rw[vA hk]at kd;exact Spec.go 6 rfl rfl _ R [ë wf,ë f0,ë g,gf kd,Õ l2,fs .int m.p.fin t.ad,į a0,ë so,eQ (vA hk),Õ l1,fs .int x.fin t.sr] 635727393596435617372821525232717670227297442940906634030006244552848788077962349518033266268369695274400892062828229592921189506797589375212713761169449872743471616 (Done.fr (z _ _ (n+1) (dn hk)) [1,1,1,1,1,1,1,1,1,1,1,1,1,1,1,1,1,1,1,1,1,1,1,1,1,1,1,1,1,1,1,1,1,1,1,1,1,1,1] [] (by kernel_rfl))
end
end Mine.Z
namespace Mine.Z
section
variable{d n:Nat}{m:Mc}{x:Wd}{F:List Ç}{a y:Int}
theorem uh(D:Gd m x)(wh:Wh m x)(h:ġ x<=252)(ha:Kn x a){k:Int}(hk:k=35\/k=36){Z:V->Hp->Prop}(z:∀m' x' n',Dn m x 1 m' x'->Z (.bool true) (hA m' x' F n')):Spec (d+7) 97 [.ref x.rw,.int a,.int k] (hA m x F n) Z:=by
 rcases ha with rfl|ha
 ·exact vG D wh h hk z
 ·rcases hk with rfl|rfl
  ·exact HM D wh h ha z
  ·exact HO D wh h ha z
abbrev nC(x:Wd):Int:=(x.cells.map λ c=>V.ref c.r).length
structure Pre (x:Wd) (y:Int):Prop where
 n0:0<nC x/\nC x<1073741824
 y0:0<=y.fmod (nC x)
 y1:y.fmod (nC x)<x.cells.length
 c:Ū (x.cells.map λ c=>V.ref c.r) (y.fmod (nC x))\(.ref (eF x (y.fmod (nC x))).r)
 mem:eF x (y.fmod (nC x))∈x.cells
theorem Gd.pre(D:Gd m x)(y:Int):Pre x y:=by
 have e:nC x=x.cells.length:=Xq Int.ofNat (Xm ..);have c:=D.cz;have n0:0<nC x/\nC x<1073741824:=by rw[e];exact⟨li [_] [] (.c 1 (.k 4) (.v 0) .e) 0 (.a (.k 0) (.k 1)) (.n (.v 0)) rfl c.1,li [_] [] (.c 1 (.v 0) (.k 5) .e) 0 (.a (.n (.v 0)) (.k 1)) (.k 1073741824) rfl c.2⟩
 have y0:=Yl y n0.1;have y1:y.fmod (nC x)<x.cells.length:=e▸Yr y n0.1;have q:=m8 y0 y1;exact⟨n0,y0,y1,Ğ y0 q.2,q.1⟩
theorem Pre.R(P:Pre x y):∀q∈[((eF x (y.fmod (nC x))).r,N9 (eF x (y.fmod (nC x))))],q∈(tA m x F).flatten:=in1 (Y5.mpr ⟨bp x.cells,mg 7 rfl,du P.mem⟩)
theorem Mi(D:Gd m x)(wh:Wh m x){Z:V->Hp->Prop}(z:∀m' x' n',Dn m x 2 m' x'->Z (.bool true) (hA m' x' F n')):Spec (d+13) 99 [.ref x.rw,.int 2,.int y] (hA m x F n) Z:=by have P:=D.pre y;have P2:=D.pre (y.fdiv (nC x));refine Spec.go 12 rfl rfl _ P.R [Õ P.n0,ë P.c] 341611594996183665753690059133734092826 (Done.call (j:=12) (km (F:=F) (n:=n) (d:=d+10) D wh P2.y0 P2.y1 (D.S.gZ _ P.mem).2.1 λ vs dn=>?_) [] [] (by kernel_rfl));exact á.g0 [] [] 0 (Done.fr (z _ _ n dn.mono) [] [] (by kernel_rfl))
theorem Mj(D:Gd m x)(wh:Wh m x){Z:V->Hp->Prop}(z:∀m' x' n',Dn m x 2 m' x'->Z (.bool true) (hA m' x' F n')):Spec (d+13) 99 [.ref x.rw,.int 3,.int y] (hA m x F n) Z:=by have P:=D.pre y;refine Spec.go 12 rfl rfl _ P.R [Õ P.n0,ë P.c] 87452568298760645396504685754606115880986 (Done.call (j:=12) (km (F:=F) (n:=n) (d:=d+10) D wh P.y0 P.y1 (.inl rfl) λ vs dn=>?_) [] [] (by kernel_rfl));exact á.g0 [] [] 0 (Done.fr (z _ _ n dn.mono) [] [] (by kernel_rfl))
theorem Mk(D:Gd m x)(h:ġ x<=252){Z:V->Hp->Prop}(z:∀m' x' n',Dn m x 0 m' x'->Z (.bool true) (hA m' x' F n')):Spec (d+13) 99 [.ref x.rw,.int 5,.int y] (hA m x F n) Z:=by refine Spec.nd λ N0=>?_;have N:=cX N0;have f0:=Ű D.kg;have P:=D.pre y;obtain⟨O,X⟩:=D.CR h;obtain⟨x,rfl⟩:=D.Ö;refine Spec.go 12 rfl rfl _ P.R [Õ P.n0,ë P.c,ë f0] 32594071483987353764384134324622116893580902737553829907014812674843600743315980205229604890 (Done.yt (j:=10) (ů (g:=2) (n:=n+1) (d:=d+1) D.I λ v hd rr p' å ms n1 C=>?_) [1,1,1,1,1,1,1,1,1,1,1,1,1,1,1,1,1,1,1,1,1,1,1,1,1,1] [1,1,1,1,1] rfl (by kernel_rfl));refine á.g0 [5] [] 1 (Done.lW (j:=12) (cV (g:=2) (n:=n1) (d:=d+10) O X λ n2 r1 r2 r3 F1 F2 gs L=>?_) [27,27,27,27,27,27,27,27,27,27,27,27,27] [6,6,6] rfl (by kernel_rfl));exact á.g0 [3] [] 0 (Done.fr (z _ _ n2 (HE (hd:=hd) (rr:=rr) D N C (by decide) L)) [13,13,13,13,13,13,13,13,13,13,13,13,13,13,13,13,13,13,13,13,13,13,13,13,13,13,0,0,0,0,0,0,0,0,0,0,0,0,0] [3,3,3,3,3,0,0,0] (by kernel_rfl))
theorem zi(y:Int):y.fmod 7<1000/\∃g,Ū [.int 0,.int (-1),.int 1,.int 2,.int 3,.int 2147483647,.int (-2147483648)] (y.fmod 7)\(.int g):=by
 have U:=Yl y (show(0:Int)<7 by decide);have h2:=Yr y (show(0:Int)<7 by decide);generalize y.fmod 7=j at*;refine⟨Int.lt_trans h2 (by decide),?_⟩;have:j=0\/j=1\/j=2\/j=3\/j=4\/j=5\/j=6:=by exact Tc (U) (h2)
 rcases this with rfl|rfl|rfl|rfl|rfl|rfl|rfl<;>exact⟨_,rfl⟩
theorem Ml(D:Gd m x)(h:ġ x<=252){Z:V->Hp->Prop}(z:∀m' x' n',Dn m x 2 m' x'->Z (.bool true) (hA m' x' F n')):Spec (d+13) 99 [.ref x.rw,.int 6,.int y] (hA m x F n) Z:=by have P:=D.pre y;obtain⟨c7,g,eg⟩:=zi y;refine Spec.go 12 rfl rfl _ P.R [Õ P.n0,ë P.c,Õ c7,ë eg] 24904174972328164081764319700604336756575251133362077722 (Done.call (j:=12) (HG (F:=F) (n:=n) D h (g:=g) λ m' x' n' dn=>?_) [] [] (by kernel_rfl));exact á.g0 [] [] 0 (Done.fr (z _ _ (n') dn.uf) [] [] (by kernel_rfl))
theorem zj(D:Gd m x)(wh:Wh m x)(h:ġ x<=252){op:Int}(ho:op=7\/op=8){Z:V->Hp->Prop}(z:∀m' x' n',Dn m x 2 m' x'->Z (.bool true) (hA m' x' F n')):Spec (d+13) 99 [.ref x.rw,.int op,.int y] (hA m x F n) Z:=by
 have P:=D.pre y;have hk:=(D.S.gZ _ P.mem).2.1;rcases ho with rfl|rfl
 ·refine Spec.go 12 rfl rfl _ P.R [Õ P.n0,ë P.c] 374144419156711147060222777461785864676560416538650 (Done.call (j:=12) (uh (F:=F) (n:=n) (d:=d+5) D wh h hk (.inl rfl) λ m' x' n' dn=>?_) [] [] (by kernel_rfl));exact á.g0 [] [] 0 (Done.fr (z _ _ (n') dn.uf) [] [] (by kernel_rfl))
 ·refine Spec.go 12 rfl rfl _ P.R [Õ P.n0,ë P.c] 95780971304118053647396768657180741387815836822011930 (Done.call (j:=12) (uh (F:=F) (n:=n) (d:=d+5) D wh h hk (.inr rfl) λ m' x' n' dn=>?_) [] [] (by kernel_rfl));exact á.g0 [] [] 0 (Done.fr (z _ _ (n') dn.uf) [] [] (by kernel_rfl))
theorem Mm(D:Gd m x){Z:V->Hp->Prop}(w:∀{Z:V->Hp->Prop},(∀m' x' n',Dn m x 0 m' x'->Z (.bool true) (hA m' x' F n'))->Spec (d+12) 95 [.ref x.rw,.ref (m.q.c 1037)] (hA m x F n) Z)(z:∀m' x' n',Dn m x 0 m' x'->Z (.bool true) (hA m' x' F n')):Spec (d+13) 99 [.ref x.rw,.int 9,.int y] (hA m x F n) Z:=by have P:=D.pre y;obtain⟨x,rfl⟩:=D.Ö;refine Spec.go 12 rfl rfl _ P.R [Õ P.n0,ë P.c] 1766848328525884989787682875969015796945035097605670567518060723088392218 (Done.call (j:=12) (w λ m' x' n' dn=>?_) [] [] (by kernel_rfl));exact á.g0 [] [] 0 (Done.fr (z _ _ (n') dn) [] [] (by kernel_rfl))
def l9(q:Sh)(hd:Nat):Sh:={q with hv:=.ref hd}
theorem CT{A B E:Ç}{F:List Ç}{n:Nat}:Ô ⟨A++(B++E),F,n⟩ ⟨E,A::B::F,n⟩:=by refine⟨ę λ a=>?_,rfl⟩;simp only[Yj,YE];exact nq [_,_,_,_] [] (.a (.a (.v 0) (.a (.v 1) (.v 2))) (.v 3)) (.a (.v 2) (.a (.v 0) (.a (.v 1) (.v 3)))) rfl
theorem zk{A E:Ç}{F:List Ç}{n:Nat}:Ô ⟨E,A::F,n⟩ ⟨A++E,F,n⟩:=by refine⟨ę λ a=>?_,rfl⟩;simp only[Yj,YE];exact nq [_,_,_] [] (.a (.v 0) (.a (.v 1) (.v 2))) (.a (.a (.v 1) (.v 0)) (.v 2)) rfl
theorem Mn{q:Sh}{fd ks:List Nat}{ar:Nat}{w z:Int}{sv fv:V}(hv:(q.hv=.none/\ks=[])\/∃hd rr,q.hv=.ref hd/\fd=[rr])(hz:z=0\/z=1)(hl:ks.length<1000)
  {Z:V->Hp->Prop} (k:∀hd rr r n',Z (.tup [.int 1,.int ((ks++[r]).map V.ref).length]) ⟨cS (l9 q hd),aU hd rr (ks++[r])::[(r,i6 (r,if z=0 then 1 else 2,w))]::F,n'⟩):
  Spec (d+2) 84 [sv,.ref q.J,fv,.ref ar] ⟨(ar,.list [val w,.tup [.int 1,.int z]])::cS q,gu q.hv fd ks::F,n⟩ Z:=by
 have l1:(ks.map V.ref).length<lim:=by rw[Xm];exact XN hl (by decide)
 rcases hv with⟨e1,rfl⟩|⟨hd,rr,e1,rfl⟩
 ·have er:cS q=cS {q with hv:=.none}:=by rw[<-e1]
  rw[er,e1];rcases hz with rfl|rfl
  ·exact Spec.g0 (d:=d) 1 rfl rfl [] 414590015514601923895581607048367726477901086082167176362459137 (Done.Ĳ (Z:=ZF Z) (fl:=.ret (.tup [.int 1,.int ((List.map V.ref [n+2]).length:Int)])) (L:=[]) (h:=⟨aU n (n+1) ([]++[n+2])++([(n+2,i6 (n+2,1,w))]++cS (l9 q n)),gu .none fd []::F,n+3⟩) (Ô.trans (b:=⟨aU n (n+1) ([]++[n+2])++([(n+2,i6 (n+2,1,w))]++cS (l9 q n)),F,n+3⟩) ⟨.refl _,rfl⟩ CT) (k n (n+1) (n+2) (n+3)) [2,1,0,1,1,1,1,1,1,1,1,1,1,1,1,1,1,1,1,1,1,1,1] [] (by kernel_rfl))
  ·exact Spec.g0 (d:=d) 1 rfl rfl [] 414590015514601923895581607048367726477901086082167176362459137 (Done.Ĳ (Z:=ZF Z) (fl:=.ret (.tup [.int 1,.int ((List.map V.ref [n+2]).length:Int)])) (L:=[]) (h:=⟨aU n (n+1) ([]++[n+2])++([(n+2,i6 (n+2,2,w))]++cS (l9 q n)),gu .none fd []::F,n+3⟩) (Ô.trans (b:=⟨aU n (n+1) ([]++[n+2])++([(n+2,i6 (n+2,2,w))]++cS (l9 q n)),F,n+3⟩) ⟨.refl _,rfl⟩ CT) (k n (n+1) (n+2) (n+3)) [2,1,0,1,1,1,1,1,1,1,1,1,1,1,1,1,1,1,1,1,1,1,1] [] (by kernel_rfl))
 ·have er:cS q=cS (l9 q hd):=by unfold l9;rw[<-e1]
  rw[er,e1];refine Spec.perm (h':=⟨aU hd rr ks++((ar,.list [val w,.tup [.int 1,.int z]])::cS (l9 q hd)),F,n⟩) zk ?_;rcases hz with rfl|rfl
  ·exact Spec.g0 (d:=d) 1 rfl rfl [Õ l1,fs V.ref ks n] 11440456854364088401467946795588027496083357699 (Done.Ĳ (Z:=ZF Z) (fl:=.ret (.tup [.int 1,.int ((ks++[n]).map V.ref).length])) (L:=[]) (h:=⟨aU hd rr (ks++[n])++([(n,i6 (n,1,w))]++cS (l9 q hd)),F,n+1⟩) CT (k hd rr n (n+1)) [1,1,0,1,1,1,1,1,1,1,1,1,1,1,1,1,1,1,1,1,1,1,1] [] (by kernel_rfl))
  ·exact Spec.g0 (d:=d) 1 rfl rfl [Õ l1,fs V.ref ks n] 11440456854364088401467946795588027496083357699 (Done.Ĳ (Z:=ZF Z) (fl:=.ret (.tup [.int 1,.int ((ks++[n]).map V.ref).length])) (L:=[]) (h:=⟨aU hd rr (ks++[n])++([(n,i6 (n,2,w))]++cS (l9 q hd)),F,n+1⟩) CT (k hd rr n (n+1)) [1,1,0,1,1,1,1,1,1,1,1,1,1,1,1,1,1,1,1,1,1,1,1] [] (by kernel_rfl))
def HQ(m:Mc)(hd rr r:Nat)(z w:Int):Mc:={m with q:=l9 m.q hd,rows:=m.rows++[(r,if z=0 then 1 else 2,w)],fd:=[rr]}
def vH(x:Wd)(r:Nat)(z a:Int):Wd:={x with rows:=x.rows++[(r,z,a)]}
theorem HR(D:Gd m x)(h:ġ x<=252)(ha:Kn x a){z:Int}(hz:z=0\/z=1)(hd rr r r':Nat):Dn m x 1 (HQ m hd rr r z (W m.p.À a)) (vH x r' z a):=by
 have ph:=eU h;have e:=Xq List.length D.S.rows;rw[Xm,Xm]at e;refine⟨⟨⟨D.I.O,.inr ⟨hd,rr,rfl,rfl⟩,λ q hq=>?_,D.I.t8,D.I.fin,D.I.Ì,D.I.nr,?_,D.I.fz⟩,Cp D.S ha hz r r' _ _,D.J,D.om,D.kg,D.cz⟩,rfl,rfl,?_,X9 _,X9 _,rfl,rfl⟩
 ·refine(XC.mp hq).elim (D.I.rws q) λ e=>?_;rw[XH.mp e];exact⟨by rcases hz with rfl|rfl;exact .inl rfl;exact .inr rfl,D.S.nm ha⟩
 ·show(m.rows++[_]).length<1000;rw[Xr,e,Ys];exact ln [_] [] (.c 1 (.v 0) (.k 252) .e) 0 (.a (.a (.v 0) (.k 1)) (.k 1)) (.k 1000) rfl ph.2.1
 ·unfold ġ vH ji;simp only[Xr,Ys];exact ln [_,_,_,_,_,_,_] [] .e 0 (.a (.a (.a (.a (.a (.a (.v 0) (.a (.v 1) (.k 1))) (.v 2)) (.v 3)) (.v 4)) (.v 5)) (.m 7 (.v 6))) (.a (.a (.a (.a (.a (.a (.a (.v 0) (.v 1)) (.v 2)) (.v 3)) (.v 4)) (.v 5)) (.m 7 (.v 6))) (.k 1)) rfl
theorem CU{A B C E T1 T2 T3 T4 T6 T7 T8:Ç}{F:List Ç}{n:Nat}:Ô ⟨A++E,B::C::T1::T2::T3::T4::T6::T7::T8::F,n⟩ ⟨E,T1::(T2++C)::T3::T4::B::T6::(T7++A)::T8::F,n⟩:=by refine⟨ę λ a=>?_,rfl⟩;simp only[Yj,YE];exact nq [_,_,_,_,_,_,_,_,_,_,_,_] [] (.a (.a (.v 0) (.v 1)) (.a (.v 2) (.a (.v 3) (.a (.v 4) (.a (.v 5) (.a (.v 6) (.a (.v 7) (.a (.v 8) (.a (.v 9) (.a (.v 10) (.v 11))))))))))) (.a (.v 1) (.a (.v 4) (.a (.a (.v 5) (.v 3)) (.a (.v 6) (.a (.v 7) (.a (.v 2) (.a (.v 8) (.a (.a (.v 9) (.v 0)) (.a (.v 10) (.v 11)))))))))) rfl
theorem HS{hd rr r r' n':Nat}{z w:Int}:hA (HQ m hd rr r z w) (vH x r' z a) F n'=⟨cS (l9 m.q hd)++(cH m.h m.p++Ē (vH x r' z a)),cT m.p.À::(cW m.rows++[(r,i6 (r,if z=0 then 1 else 2,w))])::cF m.q.à::cR (Æ m.q)::aU hd rr (m.rows.map (·.1)++[r])::aj x.slots::(ak x.rows++[(r',Ln (r',z,a))])::bp x.cells::F,n'⟩:=by
 have e1:cW (m.rows++[(r,if z=0 then 1 else 2,w)])=cW m.rows++[(r,i6 (r,if z=0 then 1 else 2,w))]:=by unfold cW;rw[XZ];rfl
 have e2:ak (x.rows++[(r',z,a)])=ak x.rows++[(r',Ln (r',z,a))]:=by unfold ak;rw[XZ];rfl
 have e3:(m.rows++[((r,if z=0 then 1 else 2,w):Row)]).map (·.1)=m.rows.map (·.1)++[r]:=by rw[XF];rfl
 unfold hA tA HQ vH;dsimp only;rw[e1,e2,e3];rfl
abbrev ui(m:Mc):List Nat:=m.rows.map (·.1)
abbrev zM(x:Wd)(y:Int):Int:=(y.fdiv (nC x)).fmod 2
theorem HT(D:Gd m x)(wh:Wh m x)(h:ġ x<=252){Z:V->Hp->Prop}(z:∀m' x' n',Dn m x 2 m' x'->Z (.bool true) (hA m' x' F n')):Spec (d+13) 99 [.ref x.rw,.int 10,.int y] (hA m x F n) Z:=by
 have ph:=eU h;have f0:=Ű D.kg;have P:=D.pre y;have hk:=(D.S.gZ _ P.mem).2.1;have wf:=ĕ D.S wh hk;have e:=Xq List.length D.S.rows;rw[Xm,Xm]at e;have l1:(x.rows.map λ r=>V.ref r.1).length<lim:=by rw[Xm];exact Xs ph.2.1 (by decide)
 have hz:zM x y=0\/zM x y=1:=by have U:=Yl (y.fdiv (nC x)) (show(0:Int)<2 by decide);have h2:=Yr (y.fdiv (nC x)) (show(0:Int)<2 by decide);unfold zM;generalize (y.fdiv (nC x)).fmod 2=v at*;exact Tb (U) (h2)
 have dn:=HR D h hk hz;have hl:(m.rows.map (·.1)).length<1000:=by rw[Xm];exact D.I.rz
 have hv:(m.q.hv=.none/\m.rows.map (·.1)=[])\/∃hd rr,m.q.hv=.ref hd/\m.fd=[rr]:=D.I.hv.imp (λ h=>⟨h.1,by rw[h.2];rfl⟩) id;have c1:=P.c;have R:=P.R (m:=m) (F:=F);generalize eF x (y.fmod (nC x))=c at*;have n0:=P.n0;obtain⟨x,rfl⟩:=D.Ö;generalize W m.p.À c.a=w at*;refine Spec.go 12 rfl rfl _ R [Õ n0,ë c1,ë f0,Õ l1,fs (λ r:Row=>V.ref r.1) x.rows (n,zM (x.Ö m.q.J) y,c.a),ë wf] 48194500970301078100550356268752034574091235325002050354667287324754677044863380183403147924952347037654458933758295083265629607639606362138 (Done.ā (j:=11) (Mn (sv:=V.ref (m.q.c 1038)) (fv:=V.ref (Mine.Z.f0 m)) (n:=n+2) (d:=d+9) (q:=m.q) (fd:=m.fd) (ks:=m.rows.map (·.1)) (ar:=n+1) (w:=w) (z:=zM (x.Ö m.q.J) y) hv hz hl λ hd rr r n'=>?_) [0,1,1,1,1,1,1,1,1,1,1,1,1,1,1,1,1,1,1,1,1] [5] rfl (by kernel_rfl));have fin:=z _ _ n' (dn hd rr r n).uf;rw[HS]at fin;refine á.g0 [2] [] 620757019 (Done.HC (b:=decide ((1:Int)=1)&&(decide ((((ui m++[r]).map V.ref).length:Int)=(((x.rows++[((n,zM (x.Ö m.q.J) y,c.a):Row)]).map λ r:Row=>V.ref r.1).length:Int))&&true)) (h:=⟨[(n,Ln (n,zM (x.Ö m.q.J) y,c.a))]++(cS (l9 m.q hd)++(cH m.h m.p++Ē (vH (x.Ö m.q.J) n (zM (x.Ö m.q.J) y) c.a))),aU hd rr (m.rows.map (·.1)++[r])::[(r,i6 (r,if zM (x.Ö m.q.J) y=0 then 1 else 2,w))]::cT m.p.À::cW m.rows::cF m.q.à::cR (Æ m.q)::aj x.slots::ak x.rows::bp x.cells::F,n'⟩) ?_ CU fin [20,0,0,0,0,0,0,0,0,0,0,0,0,0,0,0,0,0,0,0,0,0,0,0,0,0,0,0,0,0,0,0,0,0,0,0,0,0,0,0] [] (by kernel_rfl))
 have e3:((m.rows.map (·.1)++[r]).map V.ref).length=((x.rows++[((n,zM (x.Ö m.q.J) y,c.a):Row)]).map λ r=>V.ref r.1).length:=by simp only[Xm,Xr,Ys];exact Xq (·+1) e
 rw[e3];simp
theorem Fv{q:Sh}{fd:List Nat}{rows:List Row}{ar:Nat}{i:Int}{sv fv:V}(hv:(q.hv=.none/\rows=[])\/∃hd rr,q.hv=.ref hd/\fd=[rr])
  {Z:V->Hp->Prop} (k:Z (val (yI rows i)) ⟨cS q,gu q.hv fd (rows.map (·.1))::cW rows::F,n⟩):
  Spec (d+2) 85 [sv,.ref q.J,fv,.ref ar] ⟨(ar,.list [.tup [.int 1,.int i]])::cS q,gu q.hv fd (rows.map (·.1))::cW rows::F,n⟩ Z:=by
 rcases hv with⟨e1,rfl⟩|⟨hd,rr,e1,rfl⟩
 ·have er:cS q=cS {q with hv:=.none}:=by rw[<-e1]
  have et:yI [] i=0:=by unfold yI;split<;>rfl
  rw[er,e1,et]at k;rw[er,e1];exact Spec.g0 (d:=d) 1 rfl rfl [] 1 (Done.fr k [1,1,1,1,1,1,1,1,1,1,1,1,1,1,1,1,1,1,1,1] [] (by kernel_rfl))
 ·have er:cS q=cS (l9 q hd):=by unfold l9;rw[<-e1]
  rw[er,e1]at k;rw[er,e1];refine Spec.perm (h':=⟨aU hd rr (rows.map (·.1))++((ar,.list [.tup [.int 1,.int i]])::cS (l9 q hd)),cW rows::F,n⟩) zk ?_;have k':∀t,yI rows i=t->ZF Z (.ret (val t)) [] ⟨cS (l9 q hd),aU hd rr (rows.map (·.1))::cW rows::F,n⟩:=λ t e=>e▸k;by_cases q1:i<1
  ·exact Spec.g0 (d:=d) 1 rfl rfl [Õ q1] 18446744073743302659 (Done.Ĳ (Z:=ZF Z) (L:=[]) (fl:=.ret (val 0)) (h:=⟨aU hd rr (rows.map (·.1))++cS (l9 q hd),cW rows::F,n⟩) zk.symm (k' 0 (XR (.inl q1))) [0,0,1,1,1,1,1,1,1,1,1,1,1,1,1,1,1,1,1,1,1,1] [] (by kernel_rfl))
  ·by_cases q2:((rows.map (·.1)).map V.ref).length<i
   ·exact Spec.g0 (d:=d) 1 rfl rfl [į q1,Õ q2] 620178963909048840367570947 (Done.Ĳ (Z:=ZF Z) (L:=[]) (fl:=.ret (val 0)) (h:=⟨aU hd rr (rows.map (·.1))++cS (l9 q hd),cW rows::F,n⟩) zk.symm (k' 0 (XR (.inr (by rw[Xm,Xm]at q2;exact q2)))) [0,0,1,1,1,1,1,1,1,1,1,1,1,1,1,1,1,1,1,1,1,1] [] (by kernel_rfl))
   ·have q3:(i - 1).toNat<rows.length:=by rw[Xm,Xm]at q2;exact ln [_,_] [_] (.i 1 (.v 0) (.n (.v 0)) (.i 1 (.n (.v 1)) (.s (.v 0) (.k 1)) .e)) 0 (.a (.v 1) (.k 1)) (.v 0) rfl (Yc.mp q2) (Xu (Xy (li [] [_] (.i 1 (.k 1) (.v 0) .e) 0 (.k 0) (.s (.v 0) (.k 1)) rfl (Yc.mp q1))))
    have hr:rows[(i - 1).toNat]?=some rows[(i - 1).toNat]:=Xz q3
    have et:yI rows i=rows[(i - 1).toNat].2.2:=by unfold yI;rw[XW (by rw[Xm,Xm]at q2;exact not_or.mpr ⟨by exact λ q0=>lL [] [_] (.i 1 (.k 1) (.v 0) (.i 1 (.a (.v 0) (.k 1)) (.k 1) .e)) rfl (Yc.mp q1) q0,by exact λ q0=>lL [_] [_] (.i 1 (.v 0) (.n (.v 0)) (.i 1 (.a (.n (.v 0)) (.k 1)) (.v 0) .e)) rfl (Yc.mp q2) q0⟩),XO,hr];rfl
    generalize rows[(i - 1).toNat]=r at*;have c:Ū ((rows.map (·.1)).map V.ref) (i - 1)\(.ref r.1):=Ğ (f:=V.ref) (by exact li [] [_] (.i 1 (.k 1) (.v 0) .e) 0 (.k 0) (.s (.v 0) (.k 1)) rfl (Yc.mp q1)) (by rw[X3,hr];rfl);exact Spec.go (d:=d) 1 rfl rfl _ (in1 (T:=(cW rows::F).flatten) (Xo _ (XX.mpr ⟨r,Xt hr,.head _⟩))) [į q1,į q2,ë c] 4281743333345252007484092604344505259580915715 (Done.Ĳ (Z:=ZF Z) (L:=[]) (fl:=.ret (val r.2.2)) (h:=⟨aU hd rr (rows.map (·.1))++cS (l9 q hd),cW rows::F,n⟩) zk.symm (k' _ et) [0,0,1,1,1,1,1,1,1,1,1,1,1,1,1,1,1,1,1,1,1,1] [] (by kernel_rfl))
theorem Uj(x:Wd):O.list ([.int 0,.int 0]++x.rows.map λ r=>V.int r.2.2)=.list (([0,0]++x.rows.map λ r:Row=>r.2.2).map .int):=by rw[XF,X5];rfl
theorem Uk(x:Wd):O.list ((([0,0]++x.rows.map λ r:Row=>r.2.2):List Int).map V.int++[.int 0])=.list ((yS x).map .int):=tL (f:=V.int) _ 0
theorem CV{L:LV}{E:Ç}{T:List Ç}{l:List Row}{r:Row}(hr:r∈l):É (d+1) (.sub (.loc 12) (.const (.int 1))) ((12,.ref r.1)::L) ⟨E,ak l::T,n⟩ (.int r.2.2):=É.go 1 _ (in1 (T:=(ak l::T).flatten) (Xo _ (ud hr))) [] 192 (by kernel_rfl)
theorem zm{L:LV}{T:List Ç}:É (d+1) (.sub (.loc 260) (.const (.str 4))) ((260,.ref x.rw)::L) ⟨Ē x,T,n⟩ (.ref x.Ff):=É.g0 1 [] 0 (by kernel_rfl)
theorem uj{L:LV}(hz:x.rows.length<=lim){T:List Ç}{Z:V->Hp->Prop}(z:Z (.ref n) ⟨(n,.list (x.rows.map λ r=>V.int r.2.2))::Ē x,ak x.rows::T,n+1⟩):Ó (d+1) (.comp (.sub (.loc 12) (.const (.int 1))) 12 (.sub (.loc 260) (.const (.str 4))) none []) ((260,.ref x.rw)::L) ⟨Ē x,ak x.rows::T,n⟩ Z:=comp_map x.rows (λ r=>.ref r.1) (λ r=>.int r.2.2) zm hz (mg 10 rfl) (λ r hr=>CV hr) z
abbrev nR(x:Wd):Int:=((x.rows.map λ r=>V.ref r.1).length:Int)+3
abbrev jR(x:Wd)(y:Int):Int:=(y.fdiv (nC x)).fmod (nR x)
set_option maxHeartbeats 1000000 in
theorem HU(D:Gd m x)(wh:Wh m x)(h:ġ x<=252){Z:V->Hp->Prop}(z:∀m' x' n',Dn m x 2 m' x'->Z (.bool true) (hA m' x' F n')):Spec (d+13) 99 [.ref x.rw,.int 11,.int y] (hA m x F n) Z:=by
 have ph:=eU h;have f0:=Ű D.kg;have P:=D.pre y;have lr:(x.rows.map λ r=>V.ref r.1).length=x.rows.length:=Xm ..;have hz:x.rows.length<=lim:=Xp ph.2.1 (by decide);have hv:=D.I.hv;have n3:0<nR x/\nR x<1073741824:=by unfold nR;rw[lr];exact⟨li [_] [] .e 0 (.a (.k 0) (.k 1)) (.a (.n (.v 0)) (.k 3)) rfl,li [_] [] (.c 1 (.v 0) (.k 252) .e) 0 (.a (.a (.n (.v 0)) (.k 3)) (.k 1)) (.k 1073741824) rfl ph.2.1⟩
 have j0:=Yl (y.fdiv (nC x)) n3.1;have j1:=Yr (y.fdiv (nC x)) n3.1
 obtain⟨b,hb⟩:∃b,(yS x)[(jR x y).toNat]?\b:=⟨_,Xz (by rw[m7];unfold nR at j1;rw[lr]at j1;show(Int.fmod _ _).toNat<_;unfold nR;rw[lr];exact(aaR (Y0 _)).mpr j1)⟩
 have tg:=yT D.S hb;rw[Xy j0]at tg;have e3:Ū ((yS x).map .int) (jR x y)\(.int b):=Ğ j0 hb
 have c1:([V.int 0,.int 0]:List V).length+(x.rows.map λ r=>V.int r.2.2).length<=lim:=by rw[Xm];exact Xp (YD (XS 2) ph.2.1) (by decide)
 have c2:((([0,0]++x.rows.map λ r:Row=>r.2.2):List Int).map V.int).length+[V.int 0].length<=lim:=by rw[Xm,Xr,Xm];exact Xp (YP (YD (XS 2) ph.2.1) 1) (by decide)
 obtain⟨x,rfl⟩:=D.Ö;refine Spec.go 12 rfl rfl _ P.R [Õ P.n0,ë P.c,Õ n3,ë f0] 40018867345561885495895164184092299189489326222889932106196144835652119958090760222016574674062028630735420167028762 (Done.call2 (j:=11) (Fv (sv:=V.ref (m.q.c 1039)) (fv:=V.ref (Mine.Z.f0 m)) (ar:=n) (n:=n+1) (d:=d+9) (q:=m.q) (fd:=m.fd) (rows:=m.rows) (i:=jR (x.Ö m.q.J) y - 1) hv ?_) [0,0,0,0,0,0,0,0,0,0,0,0,0,0,0,0,0,0,0,0,0] [5,2] rfl (by kernel_rfl));refine á.g0 [2] [Õ P.n0] 1 (Done.NY (j:=12) (L:=[(260,.ref (x.Ö m.q.J).rw)]) (E:=Ē (x.Ö m.q.J)) (s0:=ak (x.Ö m.q.J).rows) (n:=n+2) (uj (d:=d+11) hz ?_) [27,27,27,27,27,27,27,27,27,27,27,27,27] [7] rfl (by kernel_rfl));refine á.g0 [1] [Õ c1,fO (Uj (x.Ö m.q.J)),Õ c2,fO (Uk (x.Ö m.q.J)),ë e3] 1232537941103782811205646 (Done.o4 (j:=12) (km (n:=n+6) (d:=d+10) D wh P.y0 P.y1 tg.2 λ vs dn=>?_) [18,18,18,18,18,18,18,18,18,18,18,18,18,18,18,18,18,18,18,18,18,18,18,18,18,18,4,4,4,4,4,4,4,4,4,4,4,4,4] [4,3,3,3,2,2,1,1] rfl (by kernel_rfl));obtain⟨cm,hc⟩:=m8 P.y0 P.y1;have wf:=ĕ D.S wh tg.2;have pc:=(Xq (λ z=>Ū z (y.fmod (nC (x.Ö m.q.J)))) (aX (a:=b) hc (λ c=>V.ref c.r) rfl))^P.c;have R:=in1 (T:=(tA (pz m (eF (x.Ö m.q.J) (y.fmod (nC (x.Ö m.q.J)))).l vs) (nA (x.Ö m.q.J) (y.fmod (nC (x.Ö m.q.J))).toNat (eF (x.Ö m.q.J) (y.fmod (nC (x.Ö m.q.J)))) b) F).flatten) (Y5.mpr ⟨_,mg 7 rfl,du (Xt (Zq (a:={eF (x.Ö m.q.J) (y.fmod (nC (x.Ö m.q.J)))with a:=b}) (Xv.mp hc).1))⟩);refine á.OA [8] (tA (pz m (eF (x.Ö m.q.J) (y.fmod (nC (x.Ö m.q.J)))).l vs) (nA (x.Ö m.q.J) (y.fmod (nC (x.Ö m.q.J))).toNat (eF (x.Ö m.q.J) (y.fmod (nC (x.Ö m.q.J)))) b) F) (by kernel_rfl) _ R [Õ P.n0,ë pc,ë wf] 15579505105090235191332244490813466 (Done.HC (b:=decide ((4:Int)=4)&&(decide (yI m.rows (jR (x.Ö m.q.J) y - 1)=W m.p.À b)&&true)) (h:=hA (pz m (eF (x.Ö m.q.J) (y.fmod (nC (x.Ö m.q.J)))).l vs) (nA (x.Ö m.q.J) (y.fmod (nC (x.Ö m.q.J))).toNat (eF (x.Ö m.q.J) (y.fmod (nC (x.Ö m.q.J)))) b) F (n+6)) ?_ ⟨.refl _,rfl⟩ (z _ _ (n+6) dn.mono) [0,0,0,0,0,0,0,0,0,0,0,0,0,0,0,0,0,0,0,0,0,0,0,0,0,0,0,0,0,0,0,0,0,0,0,0,0,0,0] [] (by kernel_rfl));rw[tg.1];simp
end
end Mine.Z
namespace Mine.Z
section
variable{d n:Nat}{m:Mc}{x:Wd}{F:List Ç}{p:HP}{t:È}{i b:Int}
variable{j:Nat}{α:Type}
def stC(ä:List Int)(t:È)(b:Int):List Int:=if 0<t.gn/\b≠0 then ly ä (t.ad/4)else ä
def HV(p:HP)(t:È)(i b:Int):HP:={p with À:=eD p.À t i b,ä:=stC p.ä t b}
theorem CW(O:dp p)(ht:t∈p.À)(hb:Nm p.À b):dp (HV p t i b):=by
 have cin:∀c∈p.ä,c∈stC p.ä t b:=λ c hc=>by unfold stC;split;exact cO.mpr (.inr hc);exact hc
 refine⟨?_,?_,?_,?_,?_,?_,?_,?_⟩
 ·intro j y hy;obtain⟨z,hz,rfl,_⟩:=tP (show(eD p.À t i b)[j]?\y from hy);have:=O.lay j z hz;split
  ·rw[(Ę z i b).2.2.1];exact this
  ·exact this
 ·show(eD p.À t i b).length<300;unfold eD;rw[Xm];exact O.small
 ·show(eD p.À t i b).Pairwise λ x y=>y.gn<=x.gn;have h:=O.gens;rw[<-aaK (f:=λ z:È=>z.gn) (R:=λ a b=>b<=a)]at h ⊢;rw[dq (λ z:È=>z.gn) _ _ _ _ (λ y=>(Ę y i b).2.2.2.2.1)];exact h
 ·intro y hy;obtain⟨z,hz,e3,e4,_⟩:=jh hy;rw[e4];exact O.o6 z hz
 ·intro y hy;show Nm (eD p.À t i b) y.a0/\Nm (eD p.À t i b) y.a1;rw[h_,h_];obtain⟨z,hz,e3,e4,⟨rfl,_⟩|⟨rfl,_⟩⟩:=jh hy
  ·exact O.refs y hz
  ·unfold ė;split
   ·exact⟨hb,(O.refs z hz).2⟩
   ·exact⟨(O.refs z hz).1,hb⟩
 ·show p.top=16+4*((eD p.À t i b).length:Int);unfold eD;rw[Xm];exact O.top
 ·show mX (stC p.ä t b);unfold stC;split
  ·have:=O.T.ù t ht;exact O.C.add (by exact⟨li [] [_,_] (.i 1 (.k 16) (.v 0) (.i 1 (.a (.v 0) (.k 1)) (.a (.m 4 (.v 1)) (.k 4)) .e)) 3 (.k 0) (.v 1) rfl this.1 (Zl (by decide)),li [] [_,_] (.i 1 (.a (.v 0) (.k 1)) (.k 10000) (.i 1 (.m 4 (.v 1)) (.v 0) .e)) 3 (.a (.v 1) (.k 1)) (.k 5000) rfl this.2.1 (Y6 (by decide))⟩)
  ·exact O.C
 ·intro y hy hp Mo;have qJ:yr (eD p.À t i b) y.gn y.a0=true\/yr (eD p.À t i b) y.gn y.a1=true:=Mo;rw[m5,m5]at qJ;clear Mo;show y.ad/4∈stC p.ä t b;obtain⟨z,hz,e3,e4,⟨rfl,_⟩|⟨rfl,h⟩⟩:=jh hy
  ·exact cin _ (O.o7 y hz hp qJ)
  ·obtain rfl:=O.T.inj hz ht h;rw[e4]at qJ hp;rw[e3];by_cases hc:0<z.gn/\b≠0
   ·unfold stC;rw[XR hc];exact cO.mpr (.inl rfl)
   ·have vh:b=0:=YF λ h=>hc ⟨hp,h⟩;refine cin _ (O.o7 z hz hp ?_);have y0:yr p.À z.gn b=false:=by subst vh;rfl
    by_cases Ul:i=0
    ·simp only[ė,Ul,abk,m5,y0]at qJ;exact .inr (by simpa using qJ)
    ·simp only[ė,Ul,aax,m5,y0]at qJ;exact .inl (by simpa using qJ)
theorem CX(O:dp p)(hj:p.À[j]?\t):eD p.À t i b=p.À.set j (ė t i b):=by
 refine Zh λ k=>?_;unfold eD;rw[X3,Y1];by_cases e:j=k
 ·subst e;rw[XR rfl,XR (Xv.mp hj).1,hj,Zf,XR rfl]
 ·rw[XW e];cases hk:p.À[k]? with
  |none=>rfl
  |some y=>
   rw[Zf,XW λ h=>e ?_];have U:=O.lay j t hj;have h2:=O.lay k y hk;exact Yq (ln [_,_] [_,_] (.i 1 (.v 0) (.v 1) (.i 1 (.a (.k 16) (.m 4 (.n (.v 0)))) (.v 0) (.i 1 (.v 1) (.a (.k 16) (.m 4 (.n (.v 1)))) .e))) 3 (.v 0) (.v 1) rfl (Xu h.symm) (Xu U.symm) (Xu h2)) (ln [_,_] [_,_] (.i 1 (.v 0) (.v 1) (.i 1 (.v 1) (.a (.k 16) (.m 4 (.n (.v 0)))) (.i 1 (.a (.k 16) (.m 4 (.n (.v 1)))) (.v 0) .e))) 3 (.v 1) (.v 0) rfl (Xu h) (Xu U) (Xu h2.symm))
theorem CY{h:Nat}(O:dp p)(ht:t∈p.À)(hi:i=0\/i=1){Z:V->Hp->Prop}(z:Z .none ⟨cH h (HV p t i b),cT (eD p.À t i b)::F,n⟩):Spec (d+2) 36 [.ref h,.ref t.t,.int i,val b] ⟨cH h p,cT p.À::F,n⟩ Z:=by
 obtain⟨j,hj⟩:=YW ht;have q:=Ę t i b;have eT:lX (ė t i b)=lX t:=by unfold lX;rw[q.2.1,q.2.2.1,q.2.2.2.1,q.2.2.2.2.1,q.2.2.2.2.2]
 have eC:oh (ė t i b)=[(t.t,lX t),(t.sl,yw (ė t i b))]:=by unfold oh;rw[eT,q.1,q.2.1]
 have rg:=O.T.ù t ht
 have eH:cH h (HV p t i b)=cH h {p with ä:=stC p.ä t b}:=by have e1:eA (eD p.À t i b)=eA p.À:=dq (λ y=>V.ref y.t) _ _ _ _ (λ y=>by rw[(Ę y i b).1]);have e2:gX (eD p.À t i b)=gX p.À:=dq (λ y=>(V.int y.ad,V.ref y.t)) _ _ _ _ (λ y=>by rw[(Ę y i b).1,(Ę y i b).2.2.1]);unfold cH HV;dsimp only;rw[e1,e2];rfl
 have c1:0<=i/\i.toNat<[val t.a0,val t.a1].length:=by
  rcases hi with rfl|rfl
  ·exact⟨by decide,XN (aak 0) (aak 1)⟩
  ·exact⟨by decide,aak 1⟩
 have e1:Mine.O.list ([val t.a0,val t.a1].set i.toNat (val b))=yw (ė t i b):=by rcases hi with rfl|rfl<;>rfl
 rw[eH,CX O hj]at z;have fin:∀ä,stC p.ä t b=ä->ZF Z .next [] ⟨cH h {p with ä:=ä},(p.À.set j (ė t i b)).flatMap oh::F,n⟩:=λ ä e=>e▸z
 refine Spec.perm (Bu (f:=oh) hj) ?_;have P:∀ä,Ô ⟨[(t.t,lX t),(t.sl,yw (ė t i b))]++cH h {p with ä:=ä},cut oh p.À j::F,n⟩ ⟨cH h {p with ä:=ä},(p.À.set j (ė t i b)).flatMap oh::F,n⟩:=λ ä=>eC▸gh (f:=oh) hj;by_cases q1:0<t.gn
 ·by_cases q2:b=0
  ·exact Spec.g0 (d:=d) 1 rfl rfl [Õ c1,fO e1,Õ q1,eQ (vz q2)] 316912650057057353672744304896 (Done.Ĳ (Z:=ZF Z) (fl:=.next) (L:=[]) (h:=⟨[(t.t,lX t),(t.sl,yw (ė t i b))]++cH h {p with ä:=p.ä},cut oh p.À j::F,n⟩) (P _) (fin _ (XW λ h=>h.2 q2)) [] [] (by kernel_rfl))
  ·have ew:(t.ad+2+i).fdiv 4=t.ad/4:=by rw[ZD _ (by decide)];exact W5 rg.2.2 hi
   have c2:(2:Int)=2/\16<=t.ad+2+i/\t.ad+2+i<2^62:=have hi:=Kq hi;⟨rfl,by exact li [] [_,_] (.i 1 (.k 16) (.v 0) (.i 1 (.k 0) (.v 1) .e)) 0 (.k 16) (.a (.a (.v 0) (.k 2)) (.v 1)) rfl rg.1 c1.1,by exact li [] [_,_] (.i 1 (.a (.v 0) (.k 1)) (.k 10000) (.i 1 (.v 1) (.k 1) .e)) 0 (.a (.a (.a (.v 0) (.k 2)) (.v 1)) (.k 1)) (.k 4611686018427387904) rfl rg.2.1 hi.2⟩;have c3:ó (.int ((t.ad+2+i).fdiv 4))=true/\(bU p.ä).length<lim:=⟨rfl,by rw[bU,Xm];exact Xs O.C.len (by decide)⟩;have e2:=yB (t.ad/4) p.ä;rw[<-ew]at e2;have fin:=fin _ (XR ⟨q1,q2⟩);rw[<-ew]at fin;exact Spec.g0 (d:=d) 1 rfl rfl [Õ c1,fO e1,Õ q1,eQ (vA q2),Õ c2,Õ c3,Bt e2] 2627808600552768130685364427772465419692534468247808 (Done.Ĳ (Z:=ZF Z) (fl:=.next) (L:=[]) (h:=⟨[(t.t,lX t),(t.sl,yw (ė t i b))]++cH h {p with ä:=ly p.ä ((t.ad+2+i).fdiv 4)},cut oh p.À j::F,n⟩) (P _) fin [] [] (by kernel_rfl))
 ·exact Spec.g0 (d:=d) 1 rfl rfl [Õ c1,fO e1,į q1] 3298568503552 (Done.Ĳ (Z:=ZF Z) (fl:=.next) (L:=[]) (h:=⟨[(t.t,lX t),(t.sl,yw (ė t i b))]++cH h {p with ä:=p.ä},cut oh p.À j::F,n⟩) (P _) (fin _ (XW λ h=>q1 h.1)) [] [] (by kernel_rfl))
def stM(m:Mc)(t:È)(i w:Int):Mc:={m with p:=HV m.p t i w}
def R5(x:Wd)(k:Nat)(q:Nat×List Int):Wd:={x with slots:=x.slots.set k q}
theorem zo(D:Gd m x)(ht:t∈m.p.À)(hi:i=0\/i=1)(hb:Kn x b){q:Nat×List Int}(hq:x.slots[t.sr.toNat]?\q):Dn m x 0 (stM m t i (W m.p.À b)) (R5 x t.sr.toNat (q.1,q.2.set i.toNat b)):=⟨⟨⟨CW D.I.O ht (D.S.nm hb),D.I.hv,λ r hr=>⟨(D.I.rws r hr).1,h_.mpr (D.I.rws r hr).2⟩,λ z hz=>⟨(D.I.t8 z hz).1,λ a ha=>h_.mpr ((D.I.t8 z hz).2 a ha)⟩,λ a ha=>h_.mpr (D.I.fin a ha),λ a ha=>h_.mpr (D.I.Ì a ha),D.I.nr,D.I.rz,D.I.fz⟩,vp D.S D.I.O ht hi hb hq _,D.J,D.om,D.kg,D.cz⟩,rfl,rfl,XS _,X9 _,X9 _,rfl,rfl⟩
theorem vJ{k:Nat}{q:Nat×List Int}{l:List Int}(hq:x.slots[k]?\q)(f:Nat×List Int->α)(hf:f (q.1,l)=f q):(x.slots.set k (q.1,l)).map f=x.slots.map f:=by
 rw[ZH,hf];refine Zh λ j=>?_;rw[Y1];split
 ·rename_i h;subst h;rw[X3,hq,Xm,XR (Xv.mp hq).1];rfl
 ·rfl
theorem Mp{k:Nat}{q:Nat×List Int}{l:List Int}{w:Int}(hq:x.slots[k]?\q):hA (stM m t i w) (R5 x k (q.1,l)) F n=⟨cS m.q++(cH m.h (HV m.p t i w)++Ē x),cT (eD m.p.À t i w)::cW m.rows::cF m.q.à::cR (Æ m.q)::gu m.q.hv m.fd (m.rows.map (·.1))::aj (x.slots.set k (q.1,l))::ak x.rows::bp x.cells::F,n⟩:=by
 have e:Ē (R5 x k (q.1,l))=Ē x:=by have:∀v:List V,v=x.slots.map (λ q=>V.ref q.1)->(Ē x).set 5 (x.G_,Mine.O.list v)=Ē x:=λ v h=>h▸rfl;exact this _ (vJ hq _ rfl)
 unfold hA tA;rw[e];rfl
theorem Mq{y:Int}(D:Gd m x)(wh:Wh m x)(h:ġ x<=252){Z:V->Hp->Prop}(z:∀m' x' n',Dn m x 2 m' x'->Z (.bool true) (hA m' x' F n')):Spec (d+13) 99 [.ref x.rw,.int 4,.int y] (hA m x F n) Z:=by
 have P:=D.pre y;by_cases q1:0<(eF x (y.fmod (nC x))).a
 ·have P2:=D.pre ((y.fdiv (nC x)).fdiv 2);have ka:=(D.S.gZ _ P.mem).2.1;have kb:=(D.S.gZ _ P2.mem).2.1;have Um:=ĕ D.S wh ka;have wfb:=ĕ D.S wh kb
  have hz:zM x y=0\/zM x y=1:=by have U:=Yl (y.fdiv (nC x)) (show(0:Int)<2 by decide);have h2:=Yr (y.fdiv (nC x)) (show(0:Int)<2 by decide);unfold zM;generalize (y.fdiv (nC x)).fmod 2=v at*;exact Tb (U) (h2)
  obtain⟨t,ht,es,ew⟩:=D.S.get (ka.resolve_left (Yz q1));have ix:=D.S.Fh ka;obtain⟨O,X⟩:=D.CR h;obtain⟨q,hq,yW,hs⟩:=cQ O ix;have dn:=zo D ht hz kb (q:=q) (es▸hq);have g:(è (gX m.p.À) (.int t.ad)).join\(.ref t.t):=by rw[bw,Ņ D.I.O.T ht];rfl
  have f1:Ū (x.slots.map λ q=>V.ref q.1) (eF x (y.fmod (nC x))).a\(.ref q.1):=Ğ (Z1 q1) hq
  have f2:0<=zM x y/\(zM x y).toNat<(q.2.map V.int).length:=by
   obtain⟨_,_,b0,b1,e3,_⟩:=D.S.th t ht;rw[es,hs]at e3;rw[e3];rcases hz with e|e<;>rw[e]
   ·exact⟨by decide,XN (aak 0) (aak 1)⟩
   ·exact⟨by decide,aak 1⟩
  have f3:Mine.O.list ((q.2.map V.int).set (zM x y).toNat (.int (eF x (((y.fdiv (nC x)).fdiv 2).fmod (nC x))).a))=.list ((q.2.set (zM x y).toNat (eF x (((y.fdiv (nC x)).fdiv 2).fmod (nC x))).a).map .int):=Xq Mine.O.list ZH.symm;have hO:=D.I.O;rw[ew]at Um;rw[es]at dn;obtain⟨x,rfl⟩:=D.Ö;have R:=inc (T:=(cut BA x.slots (eF (x.Ö m.q.J) (y.fmod (nC (x.Ö m.q.J)))).a.toNat::cT m.p.À::cW m.rows::cF m.q.à::cR (Æ m.q)::gu m.q.hv m.fd (m.rows.map (·.1))::ak x.rows::bp x.cells::F).flatten) (Y5.mpr ⟨_,mg 7 rfl,du P.mem⟩) (in1 (Y5.mpr ⟨_,mg 7 rfl,du P2.mem⟩));refine Spec.perm ((Ô.front [5])^(Bu (f:=BA) hq)) ?_;refine Spec.go (d:=d) 12 rfl rfl _ R [Õ P.n0,ë P.c,Õ q1,ë P2.c,ë Um,ë g,ë wfb] 44507664063209868305522675329862852415623773786549424459901797412560765245847508652038183525111464976342559961664830422000861211 (Done.ā (j:=12) (CY (h:=m.q.c 75) (n:=n) (d:=d+10) (i:=zM (x.Ö m.q.J) y) (b:=W m.p.À (eF (x.Ö m.q.J) (((y.fdiv (nC (x.Ö m.q.J))).fdiv 2).fmod (nC (x.Ö m.q.J)))).a) hO ht hz ?_) [21,21,21,21,21,21] [2] rfl (by kernel_rfl));have fin:=z _ _ n dn.mono;rw[Mp hq]at fin;exact á.g0 [1] [ë f1,Õ f2,fO f3] 55486036263896612891 (Done.Ĳ (Z:=ZF Z) (fl:=.ret (.bool true)) (L:=[]) (h:=⟨BA (q.1,q.2.set (zM (x.Ö m.q.J) y).toNat (eF (x.Ö m.q.J) (((y.fdiv (nC (x.Ö m.q.J))).fdiv 2).fmod (nC (x.Ö m.q.J)))).a)++(cS m.q++(cH m.h (HV m.p t (zM (x.Ö m.q.J) y) (W m.p.À (eF (x.Ö m.q.J) (((y.fdiv (nC (x.Ö m.q.J))).fdiv 2).fmod (nC (x.Ö m.q.J)))).a))++Ē (x.Ö m.q.J))),cut BA x.slots (eF (x.Ö m.q.J) (y.fmod (nC (x.Ö m.q.J)))).a.toNat::cT (eD m.p.À t (zM (x.Ö m.q.J) y) (W m.p.À (eF (x.Ö m.q.J) (((y.fdiv (nC (x.Ö m.q.J))).fdiv 2).fmod (nC (x.Ö m.q.J)))).a))::cW m.rows::cF m.q.à::cR (Æ m.q)::gu m.q.hv m.fd (ui m)::ak x.rows::bp x.cells::F,n⟩) ((gh (f:=BA) hq)^(Ô.front [1,1,1,1,1,0])) fin [6,6,6,6,6,6,6,6,6,6,6,6,6,6,6,6,6,6,6,6,6,0,0,0,0,0,0,0,0,0,0,0,0,0,0,0,0,0,0,0] [1,0,0,0,0,0,0,0] (by kernel_rfl))
 ·exact Spec.go 12 rfl rfl _ P.R [Õ P.n0,ë P.c,į q1] 261336857795360200226289110152239671935002 (Done.fr (z _ _ n (Dn.refl D 2)) [] [] (by kernel_rfl))
end
end Mine.Z
namespace Mine.Z
section
variable{d n:Nat}{m:Mc}{x:Wd}{F:List Ç}{p:HP}{T:È}{k b0 b1:Int}{fn fx:List Int}
variable{Ts:List Ç}
def vK(p:HP)(T:È)(fn:List Int):HP:={p with À:=p.À++[T],top:=p.top+4,à:=p.à+4,eu:=p.eu+1,fin:=fn}
def CZ(m:Mc)(T:È)(fn:List Int):Mc:={m with p:=vK m.p T fn}
def pD(x:Wd)(r:Nat)(k b0 b1 ad:Int)(fx:List Int):Wd:={x with made:=x.made+1,sorts:=x.sorts++[k],gens:=x.gens++[0],slots:=x.slots++[(r,[b0,b1])],live:=x.live++[x.made+1],wh:=x.wh++[(x.made+1,ad)],fin:=fx}
structure R6 (m:Mc) (x:Wd) (T:È) (k b0 b1:Int):Prop where
 ad:T.ad=m.p.top
 kd:T.kd=16+k
 gn:T.gn=0
 sr:T.sr=x.made+1
 a0:T.a0=W m.p.À b0
 a1:T.a1=W m.p.À b1
theorem Mr(O:dp p)(hz:p.À.length<299)(ad:T.ad=p.top)(gn:T.gn=0)(h0:Nm p.À T.a0)(U:Nm p.À T.a1):dp (vK p T fn):=by
 have nm:∀a,Nm p.À a->Nm (p.À++[T]) a:=λ a h=>h.imp id fun⟨x,hx,e⟩=>⟨x,Xo _ hx,e⟩;have hg:=O.o6;have el:(p.À++[T]).length=p.À.length+1:=Xr;refine⟨?_,?_,?_,?_,?_,?_,O.C,?_⟩
 ·intro i y hy;have hy:(p.À++[T])[i]?\y:=hy;rw[List.getElem?_append]at hy;split at hy
  ·exact O.lay i y hy
  ·rename_i gk;have h2:i - p.À.length<1:=(Xv.mp hy).1;have h3:i - p.À.length=0:=abd.mp h2;rw[h3]at hy;cases hy;have:=O.top;rw[ad];exact Yw (li [_,_] [_] (.c 4 (.v 0) (.v 1) (.i 1 (.v 0) (.a (.k 16) (.m 4 (.n (.v 0)))) .e)) 0 (.v 0) (.a (.k 16) (.m 4 (.n (.v 1)))) rfl (Yg gk) (Xu this)) (li [_,_,_] [_] (.c 4 (.a (.v 0) (.k 1)) (.k 1) (.i 1 (.a (.k 16) (.m 4 (.n (.v 1)))) (.v 0) (.c 4 (.v 2) (.a (.v 0) (.v 1)) .e))) 0 (.a (.k 16) (.m 4 (.n (.v 2)))) (.v 0) rfl h2 (Xu this.symm) (su _ _))
 ·show(p.À++[T]).length<300;rw[el];exact Z_ hz
 ·refine List.pairwise_append.mpr ⟨O.gens,aaW _ _,λ a ha b hb=>?_⟩;rw[XH.mp hb,gn];exact(hg a ha).1
 ·intro y hy;rcases XC.mp hy with hy|hy
  ·exact hg y hy
  ·rw[XH.mp hy,gn];exact by decide
 ·intro y hy;rcases XC.mp hy with hy|hy
  ·exact⟨nm _ (O.refs y hy).1,nm _ (O.refs y hy).2⟩
  ·rw[XH.mp hy];exact⟨nm _ h0,nm _ U⟩
 ·show p.top+4=16+4*((p.À++[T]).length:Int);have:=O.top;rw[el];exact Yw (li [_] [_] (.i 1 (.v 0) (.a (.k 16) (.m 4 (.n (.v 0)))) .e) 0 (.a (.v 0) (.k 4)) (.a (.k 16) (.m 4 (.n (.a (.v 0) (.k 1))))) rfl (Xu this)) (li [_] [_] (.i 1 (.a (.k 16) (.m 4 (.n (.v 0)))) (.v 0) .e) 0 (.a (.k 16) (.m 4 (.n (.a (.v 0) (.k 1))))) (.a (.v 0) (.k 4)) rfl (Xu this.symm))
 ·intro y hy hp qJ;rcases XC.mp hy with hy|hy
  ·refine O.o7 y hy hp ?_;have qJ:yr (p.À++[T]) y.gn y.a0=true\/yr (p.À++[T]) y.gn y.a1=true:=qJ;rw[yJ (O.refs y hy).1,yJ (O.refs y hy).2]at qJ;exact qJ
  ·rw[XH.mp hy,gn]at hp;exact absurd hp (by decide)
theorem HW(D:Gd m x)(h:ġ x<=252)(hk:0<=k/\k<=3)(h0:Kn x b0)(U:Kn x b1)(t:R6 m x T k b0 b1)(r:Nat)(hf:fn=if k=1 then m.p.fin else m.p.fin++[T.ad])(hx:fx=if k=1 then x.fin else x.fin++[x.made+1]):Dn m x 2 (CZ m T fn) (pD x r k b0 b1 T.ad fx):=by
 subst hf hx;have ph:=eU h;have S:=D.S;obtain⟨L1,L2⟩:=S.len;have S':=yQ (r:=r) S D.I.O hk h0 U t.kd t.gn t.sr t.a0 t.a1 (m.p.top+4) (m.p.à+4) (x.wh++[(x.made+1,T.ad)]);have nm:∀a,Nm m.p.À a->Nm (m.p.À++[T]) a:=λ a h=>h.imp id fun⟨x,hx,e⟩=>⟨x,Xo _ hx,e⟩;have lf:(if k=1 then m.p.fin else m.p.fin++[T.ad]).length<=m.p.fin.length+1:=by split;exact Zj _;rw[Xr];exact XS _
 have lx:(if k=1 then x.fin else x.fin++[x.made+1]).length<=x.fin.length+1:=by split;exact Zj _;rw[Xr];exact XS _
 refine⟨⟨⟨Mr D.I.O (by exact ln [_,_,_] [] (.c 1 (.v 0) (.k 252) (.c 1 (.v 1) (.v 0) (.c 1 (.v 2) (.v 1) .e))) 0 (.a (.v 2) (.k 1)) (.k 299) rfl ph.1 L1 (XB L2)) t.ad t.gn (t.a0▸S.nm h0) (t.a1▸S.nm U),D.I.hv,λ r hr=>⟨(D.I.rws r hr).1,nm _ (D.I.rws r hr).2⟩,λ z hz=>⟨(D.I.t8 z hz).1,λ a ha=>nm _ ((D.I.t8 z hz).2 a ha)⟩,λ a ha=>?_,λ a ha=>nm _ (D.I.Ì a ha),D.I.nr,D.I.rz,?_⟩,S',D.J,D.om,D.kg,D.cz⟩,rfl,rfl,?_,X9 _,X9 _,rfl,rfl⟩
 ·have ha:a∈(if k=1 then m.p.fin else m.p.fin++[T.ad]):=ha;split at ha
  ·exact nm _ (D.I.fin a ha)
  ·rcases XC.mp ha with ha|ha
   ·exact nm _ (D.I.fin a ha)
   ·exact .inr ⟨T,Xw _ (.head _),(XH.mp ha).symm⟩
 ·refine Xs (YP lf _) ?_;show _+1+m.p.Ì.length<1000;rw[S.fin,S.Ì,Xm,Xm];exact ln [_,_] [] (.c 1 (.v 0) (.k 252) (.c 1 (.v 1) (.k 252) .e)) 0 (.a (.a (.a (.v 0) (.k 1)) (.v 1)) (.k 1)) (.k 1000) rfl ph.2.2.1 ph.2.2.2.1
 ·have:=S.m0;unfold ġ pD ji;dsimp only;exact ln [_,_,_,_,_,_,_,_,_] [_] (.c 1 (.v 0) (.a (.v 1) (.k 1)) (.i 1 (.n (.v 2)) (.a (.v 0) (.k 1)) (.i 1 (.v 0) (.n (.v 3)) .e))) 0 (.a (.a (.a (.a (.a (.a (.v 2) (.v 4)) (.v 0)) (.v 5)) (.v 6)) (.v 7)) (.m 7 (.v 8))) (.a (.a (.a (.a (.a (.a (.a (.v 3) (.v 4)) (.v 1)) (.v 5)) (.v 6)) (.v 7)) (.m 7 (.v 8))) (.k 2)) rfl lx (Xu (Xy (li [] [_] (.i 1 (.k 0) (.v 0) .e) 0 (.k 0) (.a (.v 0) (.k 1)) rfl this))) (XU _)
theorem HX(S:ĳ m x)(wh:Wh m x)(t:R6 m x T k b0 b1)(r:Nat):Wh (CZ m T fn) (pD x r k b0 b1 T.ad fx):=by show x.wh++[(x.made+1,T.ad)]=ņ (m.p.À++[T]);unfold ņ;rw[XF,wh,ņ,<-t.sr];rfl
theorem HY{L:LV}{c:mR}{b w:Int}(wf:(è (š x.wh) (.int b)).join\(.int w)):É (d+2) (.Ñ 268 87 [.loc 260,.loc 261]) ((261,.int b)::(260,.ref x.rw)::L) ⟨c::Ē x,Ts,n⟩ (val w):=É.g0 2 [ë wf] 281509336449280 (by kernel_rfl)
theorem uk{A B E T1 T2 T3 T4 T5 T6:Ç}{F:List Ç}{n:Nat}:Ô ⟨A++(B++E),T1::T2::T3::T4::T5::T6::F,n⟩ ⟨E,(T1++A)::T2::T3::T4::T5::(T6++B)::F,n⟩:=by refine⟨ę λ a=>?_,rfl⟩;simp only[Yj,YE];exact nq [_,_,_,_,_,_,_,_,_,_] [] (.a (.a (.v 0) (.a (.v 1) (.v 2))) (.a (.v 3) (.a (.v 4) (.a (.v 5) (.a (.v 6) (.a (.v 7) (.a (.v 8) (.v 9)))))))) (.a (.v 2) (.a (.a (.v 3) (.v 0)) (.a (.v 4) (.a (.v 5) (.a (.v 6) (.a (.v 7) (.a (.a (.v 8) (.v 1)) (.v 9)))))))) rfl
theorem zp{r:Nat}:hA (CZ m T fn) (pD x r k b0 b1 T.ad fx) F n=⟨cS m.q++(cH m.h (vK m.p T fn)++Ē (pD x r k b0 b1 T.ad fx)),(cT m.p.À++oh T)::cW m.rows::cF m.q.à::cR (Æ m.q)::gu m.q.hv m.fd (ui m)::(aj x.slots++BA (r,[b0,b1]))::ak x.rows::bp x.cells::F,n⟩:=by
 have e1:cT (m.p.À++[T])=cT m.p.À++oh T:=by unfold cT;rw[XZ];simp
 have e2:aj (x.slots++[(r,[b0,b1])])=aj x.slots++BA (r,[b0,b1]):=by unfold aj;rw[XZ];simp
 unfold hA tA CZ vK pD;dsimp only;rw[e1,e2]
structure MkF (m:Mc) (x:Wd) (y b0 b1:Int):Prop where
 n1:0<nC x+1/\nC x+1<1073741824
 k0:0<=y.fmod 4/\y.fmod 4<=3
 kk:Ū [.int 16,.int 17,.int 18,.int 19] (y.fmod 4)\(.int (16+y.fmod 4))
 e0:Ū (x.cells.map λ c=>V.int c.a) ((y.fdiv 4).fmod (nC x))\(.int b0)
 c1:[V.int 0].length+(x.cells.map λ c=>V.int c.a).length<=lim
 e1:Ū ([V.int 0]++x.cells.map λ c=>V.int c.a) (((y.fdiv 4).fdiv (nC x)).fmod (nC x+1))\(.int b1)
 h0:Kn x b0
 U:Kn x b1
theorem mkF(D:Gd m x)(y:Int):∃b0 b1,MkF m x y b0 b1:=by
 have e:nC x=x.cells.length:=Xq Int.ofNat (Xm ..);have cz:=D.cz;have P0:=(D.pre 0).n0;have n1:0<nC x+1/\nC x+1<1073741824:=by rw[e]at*;exact⟨li [_] [] (.c 1 (.k 4) (.v 0) .e) 0 (.a (.k 0) (.k 1)) (.a (.n (.v 0)) (.k 1)) rfl cz.1,li [_] [] (.c 1 (.v 0) (.k 5) .e) 0 (.a (.a (.n (.v 0)) (.k 1)) (.k 1)) (.k 1073741824) rfl cz.2⟩
 have z1:=Yl (y.fdiv 4) P0.1;have z2:=Yr (y.fdiv 4) P0.1;have z3:=Yl ((y.fdiv 4).fdiv (nC x)) n1.1;have z4:=Yr ((y.fdiv 4).fdiv (nC x)) n1.1;have k1:=Yl y (show(0:Int)<4 by decide);have k2:=Yr y (show(0:Int)<4 by decide)
 have hh:∀a∈0::x.cells.map (·.a),Kn x a:=λ a ha=>by
  rcases XE.mp ha with rfl|ha
  ·exact .inl rfl
  ·obtain⟨c,hc,rfl⟩:=Xx.mp ha;exact(D.S.gZ c hc).2.1
 have hl:(x.cells.map (·.a)).length=x.cells.length:=Xm _;obtain⟨b0,vh⟩:∃b,(x.cells.map (·.a))[((y.fdiv 4).fmod (nC x)).toNat]?\b:=⟨_,Xz (by rw[hl];exact(aaR (Ye (by decide) cz.1)).mpr (e▸z2))⟩;obtain⟨b1,J6⟩:∃b,(0::x.cells.map (·.a))[(((y.fdiv 4).fdiv (nC x)).fmod (nC x+1)).toNat]?\b:=⟨_,Xz (by rw[Yi,hl];exact(aaR (Y0 _)).mpr (e▸z4))⟩;refine⟨b0,b1,n1,⟨k1,by exact li [] [_] (.i 1 (.a (.v 0) (.k 1)) (.k 4) .e) 0 (.v 0) (.k 3) rfl k2⟩,?_,?_,?_,?_,hh _ (XM _ (Xt vh)),hh _ (Xt J6)⟩
 ·generalize y.fmod 4=j at*;have:j=0\/j=1\/j=2\/j=3:=by exact Kp (k1) (k2)
  rcases this with rfl|rfl|rfl|rfl<;>rfl
 ·have:=Ğ (f:=V.int) z1 vh;rw[X5]at this;exact this
 ·rw[Xm];exact Xp (aaq cz.2 1) (by decide)
 ·have:=Ğ (f:=V.int) z3 J6;rw[Yd,X5]at this;exact this
set_option maxHeartbeats 0 in
theorem um{y:Int}(D:Gd m x)(wh:Wh m x)(h:ġ x<=252){Z:V->Hp->Prop}(z:∀m' x' n',Dn m x 2 m' x'->Z (.bool true) (hA m' x' F n')):Spec (d+12) 93 [.ref x.rw,.int y] (hA m x F n) Z:=by
 obtain⟨b0,b1,K⟩:=mkF D y;have ph:=eU h;have P:=D.pre 0;have wf0:=ĕ D.S wh K.h0;have wf1:=ĕ D.S wh K.U;have to:R6 m x ⟨n+5,n+4,m.p.top,16+y.fmod 4,0,m.p.eu+1,W m.p.À b0,W m.p.À b1⟩ (y.fmod 4) b0 b1:=⟨rfl,rfl,rfl,by rw[<-D.S.eu],rfl,rfl⟩;have dn:=λ fn fx=>HW (fn:=fn) (fx:=fx) D h K.k0 K.h0 K.U to (n+3);have w7:=λ fn fx=>HX (fn:=fn) (fx:=fx) D.S wh to (n+3);obtain⟨x,rfl⟩:=D.Ö;refine Spec.g0 (d:=d) 11 rfl rfl [] 637534234 (Done.NY (j:=11) (L:=[(260,.ref (x.Ö m.q.J).rw)]) (E:=Ē (x.Ö m.q.J)) (s0:=bp (x.Ö m.q.J).cells) (n:=n) (comp_map (x.Ö m.q.J).cells (λ c=>.ref c.r) (λ c=>.int c.a) (r:=(x.Ö m.q.J).yG) (l8 (d:=d+10)) (Xp D.cz.2 (by decide)) (mg 12 rfl) (λ c hc=>za hc) ?_) [26,26,26,26,26,26,26,26,26,26,26,26,26] [8] rfl (by kernel_rfl));refine á.g0 [1] [Õ P.n0,ë K.e0,Õ K.c1,Õ K.n1,ë K.e1,ë K.kk] 8803263768615765727398486599868028738499978067969 (Done.JZ (j:=11) (L:=[(260,.ref (x.Ö m.q.J).rw),(92,.ref (n+3))]) (E:=(n+3,.list [.int b0,.int b1])::Ē (x.Ö m.q.J)) (n:=n+4) (comp_map [b0,b1] .int (λ b=>val (W m.p.À b)) (r:=n+3) (É.loc (y:=92) (d:=d+11) rfl) (show 2<=lim by decide) (.head _) (λ b hb=>HY (d:=d+9) ?_) ?_) [0,3,3,3,3,3,3,3,3,3,3,3,3,3] [] rfl (by kernel_rfl))
 ·rcases XE.mp hb with rfl|hb
  ·exact wf0
  ·rw[XH.mp hb];exact wf1
 have hm0:=D.S.m0;obtain⟨L1,L2⟩:=D.S.len;have lg:=D.S.lg;have ls:=D.S.ls;have lk:=D.S.lk;have lw:(x.Ö m.q.J).wh.length<1000:=by rw[wh];simp only[ņ,Yi,Xm];exact ln [_,_,_] [] (.c 1 (.v 0) (.k 252) (.c 1 (.v 1) (.v 0) (.c 1 (.v 2) (.v 1) .e))) 0 (.a (.a (.v 2) (.k 1)) (.k 1)) (.k 1000) rfl ph.1 L1 (XB L2)
 have lt:∀{α β:Type} (f:α->β) (l:List α),l.length<1000->(l.map f).length<lim:=λ f l h=>by rw[Xm];exact đ h
 have c1:=lt (λ x:È=>V.ref x.t) m.p.À (by exact ln [_,_,_] [] (.c 1 (.v 0) (.k 252) (.c 1 (.v 1) (.v 0) (.c 1 (.v 2) (.v 1) .e))) 0 (.a (.v 2) (.k 1)) (.k 1000) rfl ph.1 L1 (XB L2));have c2:ó (.int m.p.top)=true/\(gX m.p.À).length<lim:=⟨rfl,lt (λ x:È=>(V.int x.ad,V.ref x.t)) m.p.À (by exact ln [_,_,_] [] (.c 1 (.v 0) (.k 252) (.c 1 (.v 1) (.v 0) (.c 1 (.v 2) (.v 1) .e))) 0 (.a (.v 2) (.k 1)) (.k 1000) rfl ph.1 L1 (XB L2))⟩
 have e2:putK (gX m.p.À) (.int m.p.top) (.ref (n+5))\(gX (m.p.À++[⟨n+5,n+4,m.p.top,16+y.fmod 4,0,m.p.eu+1,W m.p.À b0,W m.p.À b1⟩])):=jY (x:=⟨n+5,n+4,m.p.top,16+y.fmod 4,0,m.p.eu+1,W m.p.À b0,W m.p.À b1⟩) λ t ht e=>by obtain⟨i,hi⟩:=YW ht;have z1:=D.I.O.lay i t hi;have z2:=D.I.O.top;have z3:=(Xv.mp hi).1;have e:t.ad=m.p.top:=e;exact lL [_,_] [_,_] (.i 1 (.v 0) (.a (.k 16) (.m 4 (.n (.v 0)))) (.i 1 (.a (.k 16) (.m 4 (.n (.v 1)))) (.v 1) (.c 4 (.a (.v 0) (.k 1)) (.v 1) (.i 1 (.v 1) (.v 0) .e)))) rfl (Xu z1) (Xu z2.symm) z3 (Xu e.symm)
 have c3:=lt V.int (x.Ö m.q.J).sorts (by exact ln [_,_,_] [_] (.c 1 (.v 0) (.k 252) (.i 1 (.n (.v 1)) (.a (.v 0) (.k 1)) (.c 1 (.v 2) (.v 1) (.i 1 (.v 0) (.n (.v 0)) .e)))) 0 (.a (.v 2) (.k 1)) (.k 1000) rfl ph.1 (Xu lg) (XB lk) (XU _));have c4:=lt V.int (x.Ö m.q.J).gens (by exact ln [_,_] [_] (.c 1 (.v 0) (.k 252) (.i 1 (.n (.v 1)) (.a (.v 0) (.k 1)) (.i 1 (.v 0) (.n (.v 0)) .e))) 0 (.a (.v 1) (.k 1)) (.k 1000) rfl ph.1 (Xu lg) (XU _));have c5:=lt (λ q:Nat×List Int=>V.ref q.1) (x.Ö m.q.J).slots (by exact ln [_,_,_] [_] (.c 1 (.v 0) (.k 252) (.i 1 (.n (.v 1)) (.a (.v 0) (.k 1)) (.c 1 (.v 2) (.v 1) (.i 1 (.v 0) (.n (.v 0)) .e)))) 0 (.a (.v 2) (.k 1)) (.k 1000) rfl ph.1 (Xu lg) (XB ls) (XU _));have c6:=lt V.int (x.Ö m.q.J).live (by exact ln [_,_] [] (.c 1 (.v 0) (.k 252) (.c 1 (.v 1) (.v 0) .e)) 0 (.a (.v 1) (.k 1)) (.k 1000) rfl ph.1 L1);have c7:ó (.int ((x.Ö m.q.J).made+1))=true/\(š (x.Ö m.q.J).wh).length<lim:=⟨rfl,lt (λ q:Int×Int=>(V.int q.1,V.int q.2)) _ lw⟩
 have e7:putK (š (x.Ö m.q.J).wh) (.int ((x.Ö m.q.J).made+1)) (.int m.p.top)\(š ((x.Ö m.q.J).wh++[((x.Ö m.q.J).made+1,m.p.top)])):=eS (by
  rw[wh,gm D.S];intro h;rcases XE.mp h with h|h
  ·exact lL [] [_] (.i 1 (.k 0) (.v 0) (.i 1 (.a (.v 0) (.k 1)) (.k 0) .e)) rfl hm0 (Xu h)
  ·have:=D.S.rg _ h;exact lL [] [_] (.i 1 (.a (.v 0) (.k 1)) (.v 0) .e) rfl this.2)
 have c8:=lt V.int (x.Ö m.q.J).fin (by exact ln [_] [] (.c 1 (.v 0) (.k 252) .e) 0 (.a (.v 0) (.k 1)) (.k 1000) rfl ph.2.2.1);have c9:=lt V.int m.p.fin (by rw[D.S.fin,Xm];exact ln [_] [] (.c 1 (.v 0) (.k 252) .e) 0 (.a (.v 0) (.k 1)) (.k 1000) rfl ph.2.2.1);by_cases q1:y.fmod 4=1
 ·have dn:=dn m.p.fin x.fin (XR q1).symm (XR q1).symm;refine á.g0 [0] [Õ c1,fs (λ x:È=>V.ref x.t) m.p.À ⟨n+5,n+4,m.p.top,16+y.fmod 4,0,m.p.eu+1,W m.p.À b0,W m.p.À b1⟩,Õ c2,Bt e2,Õ c3,fs .int x.sorts (y.fmod 4),Õ c4,fs .int x.gens 0,Õ c5,fs (λ q:Nat×List Int=>V.ref q.1) x.slots (n+3,[b0,b1]),Õ c6,fs .int x.live (x.made+1),Õ c7,Bt e7,eQ (vz q1),Õ P.n0,Õ K.n1] 2063650888977881451724918835514224697191133046768194784170252106746441057741922643078224249783203809144214603316721154494255117634975430606026273851819171011605307850803324413444234044692141202306485511284114425304258665073868232328318750602533598673898908280944600576 (Done.o4 (j:=11) (E:=oh ⟨n+5,n+4,m.p.top,16+y.fmod 4,0,m.p.eu+1,W m.p.À b0,W m.p.À b1⟩++(BA (n+3,[b0,b1])++(cS m.q++(cH m.h (vK m.p ⟨n+5,n+4,m.p.top,16+y.fmod 4,0,m.p.eu+1,W m.p.À b0,W m.p.À b1⟩ m.p.fin)++Ē (pD (x.Ö m.q.J) (n+3) (y.fmod 4) b0 b1 m.p.top x.fin))))) (s0:=cT m.p.À) (s1:=cW m.rows) (s2:=cF m.q.à) (s3:=cR (Æ m.q)) (s4:=gu m.q.hv m.fd (ui m)) (s5:=aj x.slots) (s6:=ak x.rows) (s7:=bp x.cells) (n:=n+6) (Spec.perm uk (Spec.eq (zp (m:=m) (x:=x.Ö m.q.J) (T:=⟨n+5,n+4,m.p.top,16+y.fmod 4,0,m.p.eu+1,W m.p.À b0,W m.p.À b1⟩) (fn:=m.p.fin) (fx:=x.fin)) (km (d:=d+9) dn.D (w7 _ _) (dn.D.pre (((y.fdiv 4).fdiv (nC x)).fdiv (nC x+1))).y0 (dn.D.pre (((y.fdiv 4).fdiv (nC x)).fdiv (nC x+1))).y1 (.inr (Xw _ (.head _))) λ vs R7=>?_))) [0,0,0,16,16,16,16,16,16,16,16,16,16,16,16,16,16,16,16,16,16,16,16,16,16,16,16,16,16,0,0,0,0,0,0,0,0,0,0,0,0,0] [2,2,2,2,2,2,2,1] rfl (by kernel_rfl));exact á.g0 [8] [] 0 (Done.fr (z _ _ (n+6) (dn^R7)) [0,0,0,0,0,0,0,0,0,0,0,0,0,0,0,0,0,0,0,0,0,0,0,0,0,0,0,0,0,0,0,0,0,0,0,0,0,0,0] [] (by kernel_rfl))
 ·have dn:=dn (m.p.fin++[m.p.top]) (x.fin++[x.made+1]) (XW q1).symm (XW q1).symm;refine á.g0 [0] [Õ c1,fs (λ x:È=>V.ref x.t) m.p.À ⟨n+5,n+4,m.p.top,16+y.fmod 4,0,m.p.eu+1,W m.p.À b0,W m.p.À b1⟩,Õ c2,Bt e2,Õ c3,fs .int x.sorts (y.fmod 4),Õ c4,fs .int x.gens 0,Õ c5,fs (λ q:Nat×List Int=>V.ref q.1) x.slots (n+3,[b0,b1]),Õ c6,fs .int x.live (x.made+1),Õ c7,Bt e7,eQ (vA q1),Õ c9,fs .int m.p.fin m.p.top,Õ c8,fs .int x.fin (x.made+1),Õ P.n0,Õ K.n1] 772103463920757222881729189128881519805170462774136833565275045260841163242018672363096533515603353963053030882310721362343849098308216853196605408545543462624249320044374112086882693565136496623974372795467720101361818698648919690889176219014864221826438868480080703335895449553711185402042150907378838278051043747328 (Done.o4 (j:=11) (E:=oh ⟨n+5,n+4,m.p.top,16+y.fmod 4,0,m.p.eu+1,W m.p.À b0,W m.p.À b1⟩++(BA (n+3,[b0,b1])++(cS m.q++(cH m.h (vK m.p ⟨n+5,n+4,m.p.top,16+y.fmod 4,0,m.p.eu+1,W m.p.À b0,W m.p.À b1⟩ (m.p.fin++[m.p.top]))++Ē (pD (x.Ö m.q.J) (n+3) (y.fmod 4) b0 b1 m.p.top (x.fin++[x.made+1])))))) (s0:=cT m.p.À) (s1:=cW m.rows) (s2:=cF m.q.à) (s3:=cR (Æ m.q)) (s4:=gu m.q.hv m.fd (ui m)) (s5:=aj x.slots) (s6:=ak x.rows) (s7:=bp x.cells) (n:=n+6) (Spec.perm uk (Spec.eq (zp (m:=m) (x:=x.Ö m.q.J) (T:=⟨n+5,n+4,m.p.top,16+y.fmod 4,0,m.p.eu+1,W m.p.À b0,W m.p.À b1⟩) (fn:=m.p.fin++[m.p.top]) (fx:=x.fin++[x.made+1])) (km (d:=d+9) dn.D (w7 _ _) (dn.D.pre (((y.fdiv 4).fdiv (nC x)).fdiv (nC x+1))).y0 (dn.D.pre (((y.fdiv 4).fdiv (nC x)).fdiv (nC x+1))).y1 (.inr (Xw _ (.head _))) λ vs R7=>?_))) [0,0,0,16,16,16,16,16,16,16,16,16,16,16,16,16,16,16,16,16,16,16,16,16,16,16,16,16,16,0,0,0,0,0,0,0,0,0,0,0,0,0] [2,2,2,2,2,2,2,1] rfl (by kernel_rfl));exact á.g0 [8] [] 0 (Done.fr (z _ _ (n+6) (dn^R7)) [0,0,0,0,0,0,0,0,0,0,0,0,0,0,0,0,0,0,0,0,0,0,0,0,0,0,0,0,0,0,0,0,0,0,0,0,0,0,0] [] (by kernel_rfl))
end
end Mine.Z
namespace Mine.Z
section
variable{d n:Nat}{m:Mc}{x:Wd}{F:List Ç}
variable{α:Type}{Ts:List Ç}
def kx(x:Wd)(r:Nat)(l:List (Int×Int)):Wd:={x with Ha:=r,wh:=l}
def w8(m:Mc)(x:Wd):LV:=[(260,.ref x.rw),(169,.ref m.q.J)]
theorem gw(D:Gd m x)(r:Nat):Dn m x 0 m (kx x r (ņ m.p.À)):=⟨⟨D.I,{D.S with},D.J,D.om,D.kg,D.cz⟩,rfl,rfl,XS _,X9 _,X9 _,rfl,rfl⟩
theorem pE{l l':List V}(e:l=l')(h:∀v∈l',dh sE 5 v v\true):(if l.length=l'.length then ŋ (dh sE 5) l l' else some false)\true:=by subst e;rw[XR rfl];exact aS _ h
theorem Ms{a b d:α}{P:Prop}(h:b∈[a,d])(k:b=a->P)(k':b=d->P):P:=(XE.mp h).elim k λ h=>k' (XH.mp h)
theorem rG(n:Nat)(a:Int):dh sE (n+1) (.int a) (.int a)\true:=Xq some (XI rfl)
theorem zq{f:α->Int}{l:List α}(v:V)(hv:v∈l.map λ b=>V.int (f b)):dh sE 5 v v\true:=(Xx.mp hv).elim λ a h=>h.2▸rG 4 (f a)
theorem Fw{f:α->Int}{l:List α}(v:V)(hv:v∈l.map λ b=>val (f b)):dh sE 5 v v\true:=(Xx.mp hv).elim λ a h=>h.2▸aS (f:=dh sE 4) [.int 4,.int (f a)] λ v h=>Ms h (λ e=>e▸rG 3 4) λ e=>e▸rG 3 (f a)
theorem rH(S:ĳ m x)(hz:m.p.À.length<300){r:Nat}{Z:LV->Hp->Prop}(z:Z (w8 m x) (hA m (kx x r (ņ m.p.À)) F n)):Ď (d+2) (.Č 263 (.attr (.attr (.loc 169) 75) 98) none [.é (.sub (.loc 260) (.const (.str 262))) (.attr (.loc 263) 95) (.attr (.loc 263) 68)]) (w8 m x) (hA m (kx x r [(0,0)]) F n) Z:=by
 refine Þ (Ó.p0 (î (a0:=[(0,0)]) (Lf:=λ _=>w8 m x) (hf:=λ l=>hA m (kx x r l) F n) (λ i l=>l=ņ (m.p.À.take i)) m.p.À (λ t=>.ref t.t) (Xp (XJ hz) (by decide)) (λ _=>mg 21 rfl) rfl ?_ ?_) 2 [] 5120 (by kernel_rfl))
 ·rintro i _ t rfl ht;have hm:=Xt ht
  have hn:t.sr∉(ņ (m.p.À.take i)).map (·.1):=λ h=>by
   obtain⟨q,hq,e⟩:=Xx.mp h;rcases XE.mp hq with rfl|hq
   ·exact S.ps t hm e.symm
   ·obtain⟨u,hu,rfl⟩:=Xx.mp hq;have nd:=S.Lp;rw[<-YN i m.p.À,uc ht,XF,Yn]at nd;exact nd.2.2 u.sr (Xx.mpr ⟨u,hu,rfl⟩) t.sr (.head _) e
  have c1:ó (.int t.sr)=true/\(š (ņ (m.p.À.take i))).length<lim:=⟨rfl,by have:=X1 i m.p.À;simp only[š,ņ,Xm,Yi];unfold lim;exact ln [_,_] [] (.c 1 (.a (.v 0) (.k 1)) (.k 300) (.c 1 (.v 1) (.v 0) .e)) 0 (.a (.a (.v 1) (.k 1)) (.k 1)) (.k 100000) rfl hz this⟩
  have e1:=eS (b:=t.ad) hn;refine Ã.go (d:=d) 2 _ (in1 (Xo _ (az hm true))) [Õ c1,Bt e1] 144433771570010816 (Done.dm (ņ (m.p.À.take i)++[(t.sr,t.ad)]) ?_ [] [] (by kernel_rfl));unfold ņ;rw[take_snoc ht,XF];rfl
 ·rintro _ rfl;rw[X6];exact z
theorem C3{L:LV}{E:Ç}{T:List Ç}:É (d+2) (.attr (.attr (.loc 169) 75) 98) ((260,.ref x.rw)::(169,.ref m.q.J)::L) ⟨(m.q.J,mO m.q.c m.q.fr m.q.hv)::(m.h,Ca m.p)::E,T,n⟩ (.ref m.p.jV):=É.g0 2 [] 256 (by kernel_rfl)
theorem Mt{L:LV}{E:Ç}{T:List Ç}{l:List È}{t:È}(ht:t∈l):É (d+2) (.attr (.loc 263) 95) ((263,.ref t.t)::L) ⟨E,cT l::T,n⟩ (.int t.sr):=É.go 2 _ (in1 (T:=(cT l::T).flatten) (Xo _ (az ht true))) [] 192 (by kernel_rfl)
theorem uo{L:LV}{b w:Int}(wf:(è (š x.wh) (.int b)).join\(.int w)):É (d+2) (.Ñ 268 87 [.loc 260,.loc 261]) ((261,.int b)::(260,.ref x.rw)::L) ⟨Ē x,Ts,n⟩ (val w):=É.g0 2 [ë wf] 281505041481728 (by kernel_rfl)
theorem HZ{t:È}{L:LV}{l:List È}{q:Nat×List Int}(ht:t∈l)(f1:Ū (x.slots.map λ q=>V.ref q.1) t.sr\(.ref q.1)):É (d+2) (.sub (.sub (.loc 260) (.const (.str 92))) (.attr (.loc 263) 95)) ((260,.ref x.rw)::(263,.ref t.t)::L) ⟨Ē x,cT l::Ts,n⟩ (.ref q.1):=É.go 2 _ (in1 (T:=(cT l::Ts).flatten) (Xo _ (az ht true))) [ë f1] 1124207689728 (by kernel_rfl)
theorem zt(D:Gd m x)(wh:Wh m x)(h:ġ x<=252){Z:LV->Hp->Prop}(z:∀n',Z (w8 m x) (hA m x F n')):Ď (d+2) (.Č 263 (.attr (.attr (.loc 169) 75) 98) none [.ite (.or [(.cmp .ne (.attr (.loc 263) 91) (.sub (.sub (.loc 260) (.const (.str 265))) (.sub (.sub (.loc 260) (.const (.str 266))) (.attr (.loc 263) 95)))),(.cmp .ne (.attr (.loc 263) 77) (.sub (.sub (.loc 260) (.const (.str 267))) (.attr (.loc 263) 95))),(.cmp .ne (.attr (.loc 263) 92) (.comp (.Ñ 268 87 [(.loc 260),(.loc 261)]) 261 (.sub (.sub (.loc 260) (.const (.str 92))) (.attr (.loc 263) 95)) none []))]) [.ret (some (.const (.bool false)))] []]) (w8 m x) (hA m x F n) Z:=by
 have S:=D.S;obtain⟨O,X⟩:=D.CR h;refine Þ (Ó.p0 (î (a0:=n) (Lf:=λ _=>w8 m x) (hf:=λ n=>hA m x F n) (λ i n=>True) m.p.À (λ t=>.ref t.t) (Xp (XJ D.I.O.small) (by decide)) (λ _=>mg 21 rfl) trivial ?_ λ n' _=>z n') 2 [] 5120 (by kernel_rfl));rintro i n t _ ht;have hm:=Xt ht;obtain⟨e1,e2,b0,b1,e3,k0,k1,e6,e7⟩:=S.th t hm;have hl:=S.lv hm;have ko:=S.J9 hl;have so:=kq S hl;have ix:=S.Fh (.inr hl)
 have kk:Ū [.int 16,.int 17,.int 18,.int 19] (lB x t.sr)\(.int t.kd):=by
  rw[e1];generalize lB x t.sr=j at*;have:j=0\/j=1\/j=2\/j=3:=by exact Kp (ko.2.1) (li [] [_] (.i 1 (.v 0) (.k 3) .e) 0 (.a (.v 0) (.k 1)) (.k 4) rfl ko.2.2)
  rcases this with rfl|rfl|rfl|rfl<;>rfl
 have gg:=ĩ ix;rw[<-e2]at gg;obtain⟨q,hq,yW,hs⟩:=cQ O ix;rw[hs]at e3;have f1:Ū (x.slots.map λ q=>V.ref q.1) t.sr\(.ref q.1):=Ğ ix.1 hq;have ev:=pE (l:=[val t.a0,val t.a1]) (l':=q.2.map λ b=>val (W m.p.À b)) (by rw[e3,e6,e7];rfl) Fw;have nn:∀a:Int,(!decide (a=a))=false:=λ a=>by rw[XI rfl];rfl
 refine Ã.go (d:=d) 2 _ (in1 (Xo _ (az hm true))) [ë so,ë kk,eQ (nn t.kd),ë gg,eQ (nn t.gn)] 71843059507986193039207473159752568078308460401269440 (Done.Xg (j:=2) (L:=[(260,.ref x.rw),(263,.ref t.t)]) (E:=Ē x) (s0:=cT m.p.À) (s1:=aj x.slots) (n:=n) (comp_map q.2 .int (λ b=>val (W m.p.À b)) (r:=q.1) (HZ hm f1) (Xp (O.two q yW).1 (by decide)) (Xw _ (Xw _ (Xo _ (ny yW)))) (λ b hb=>uo (ĕ S wh ?_)) ?_) [26,26,26,26,26,26,26,26,26,26,26,26,26] [1,5] rfl (by kernel_rfl))
 ·rw[e3]at hb;rcases XE.mp hb with rfl|hb
  ·exact k0
  ·rw[XH.mp hb];exact k1
 ·refine á.OA [2] (cT m.p.À::aj x.slots::cW m.rows::cF m.q.à::cR (Æ m.q)::gu m.q.hv m.fd (ui m)::ak x.rows::bp x.cells::F) (by kernel_rfl) _ (in1 (Xo _ (az hm false))) [gf ev] 65728 (Done.dm (n+1) trivial [14,14,14,14,14,14,14,14,14,14,14,14,14,14,14,14,14,14,14,14,14,14,14,14,14,14,1,1,1,1,1,1,1,1,1,1,1,1,1] [0,1,1,1,1,0,0,0] (by kernel_rfl))
theorem rI(D:Gd m x)(wh:Wh m x){Z:LV->Hp->Prop}(z:Z (w8 m x) (hA m x F n)):Ď (d+2) (.Č 218 (.sub (.loc 260) (.const (.str 269))) none [.ite (.cmp .ne (.sub (.sub (.loc 218) (.const (.int 0))) (.sub (.loc 218) (.const (.int 1)))) (.Ñ 268 87 [(.loc 260),(.sub (.loc 218) (.const (.int 2)))])) [.ret (some (.const (.bool false)))] []]) (w8 m x) (hA m x F n) Z:=by
 refine Þ (Ó.p0 (î (a0:=()) (Lf:=λ _=>w8 m x) (hf:=λ _=>hA m x F n) (λ i _=>True) x.cells (λ c=>.ref c.r) (Xp D.cz.2 (by decide)) (λ _=>mg 38 rfl) trivial ?_ λ _ _=>z) 2 [] 26 (by kernel_rfl));rintro i _ c _ hc;have hm:=Xt hc;obtain⟨c0,c1,vs,c2,c3⟩:=D.S.gZ c hm;have wf:=ĕ D.S wh c1;have e1:Ū (vs.map val) c.i\(val (W m.p.À c.a)):=Ğ c0 c3;have R:=inc (T:=(tA m x F).flatten) (a:=(c.r,N9 c)) (Y5.mpr ⟨_,mg 7 rfl,du hm⟩) (in1 (Y5.mpr ⟨_,mg 3 rfl,XX.mpr ⟨_,c2,.head _⟩⟩));have nn:(!(decide ((4:Int)=4)&&(decide (W m.p.À c.a=W m.p.À c.a)&&true)))=false:=by rw[XI rfl,XI rfl];rfl
 exact Ã.go (d:=d) 2 _ R [ë e1,ë wf,eQ nn] 3998071195601303026274222495206736064 (Done.dm () trivial [] [] (by kernel_rfl))
def OC(m:Mc)(x:Wd)(r:Nat):LV:=[(260,.ref x.rw),(169,.ref m.q.J),(4,.ref r)]
def R8(m:Mc)(x:Wd)(F:List Ç)(r n:Nat):Hp:=⟨(r,.list ((yS x).map .int))::(cS m.q++(cH m.h m.p++Ē x)),tA m x F,n⟩
theorem vM(D:Gd m x)(wh:Wh m x)(h:ġ x<=252){r:Nat}{Z:LV->Hp->Prop}(z:∀n',Z (OC m x r) (R8 m x F r n')):Ď (d+2) (.Č 191 (.bi 15 .len [(.loc 4)]) (some 10) [.ite (.cmp .ne (.ì (.sub (.attr (.loc 169) 145) (.glob 258 (.int 39))) 270 [(.loc 169),(.sub (.attr (.loc 169) 118) (.const (.int 0))),(.list [(.tup [(.glob 254 (.int 1)),(.bin .sub (.loc 191) (.const (.int 1)))])])]) (.Ñ 268 87 [(.loc 260),(.sub (.loc 4) (.loc 191))])) [.ret (some (.const (.bool false)))] []]) (OC m x r) (R8 m x F r n) Z:=by
 have ph:=eU h;have f0:=Ű D.kg;have hv:=D.I.hv;refine jU (a0:=n) (Lf:=λ _=>OC m x r) (hf:=R8 m x F r) (λ _ _=>True) (n:=((yS x).map V.int).length) (É.g0 (d:=d) 2 [] 0 (by kernel_rfl)) (by rw[Xm,m7];exact Xp (YP ph.2.1 3) (by decide)) trivial ?_ λ n' _=>z n';intro i n _ hi;rw[Xm]at hi;have hb:=Xz hi;have tg:=yT D.S hb;generalize (yS x)[i]=b at*;have wf:=ĕ D.S wh tg.2;have e1:Ū ((yS x).map V.int) (i:Int)\(.int b):=Ğ (YG i) (by rw[Int.toNat_natCast];exact hb);refine Ã.g0 (d:=d) 2 [ë f0] 18519365803111877889 (Done.call2 (j:=2) (Fv (sv:=V.ref (m.q.c 1039)) (fv:=V.ref (Mine.Z.f0 m)) (ar:=n) (n:=n+1) (d:=d) (q:=m.q) (fd:=m.fd) (rows:=m.rows) (i:=(i:Int) - 1) hv ?_) [0,1,1,1,1,1,1,1,1,1,1,1,1,1,1,1,1,1,1,1,1] [5,2] rfl (by kernel_rfl));rw[tg.1];have nn:(!(decide ((4:Int)=4)&&(decide (W m.p.À b=W m.p.À b)&&true)))=false:=by rw[XI rfl,XI rfl];rfl
 exact á.g0 [2] [ë e1,ë wf,eQ nn] 14204002506906015891732 (Done.dm (n+1) trivial [20,0,0,0,0,0,0,0,0,0,0,0,0,0,0,0,0,0,0,0,0,0,0,0,0,0,0,0,0,0,0,0,0,0,0,0,0,0,0,0] [2,1,1,1,0,0,0,0] (by kernel_rfl))
theorem zu{L:LV}{T:List Ç}:É (d+2) (.sub (.loc 260) (.const (.str 85))) ((260,.ref x.rw)::L) ⟨Ē x,T,n⟩ (.ref x.Œ):=É.g0 2 [] 0 (by kernel_rfl)
theorem zv{L:LV}{T:List Ç}:É (d+2) (.sub (.loc 260) (.const (.str 86))) ((260,.ref x.rw)::L) ⟨Ē x,T,n⟩ (.ref x.ŕ):=É.g0 2 [] 0 (by kernel_rfl)
theorem Mu{L:LV}{b w:Int}(wf:(è (š x.wh) (.int b)).join\(.int w)):É (d+2) (.sub (.sub (.loc 260) (.const (.str 262))) (.loc 261)) ((261,.int b)::(260,.ref x.rw)::L) ⟨Ē x,Ts,n⟩ (.int w):=É.g0 2 [ë wf] 1099629068288 (by kernel_rfl)
set_option maxHeartbeats 1000000 in
theorem jk(D:Gd m x)(h:ġ x<=252){Z:V->Hp->Prop}(z:∀r n',Z (.bool true) (hA m (kx x r (ņ m.p.À)) F n')):Spec (d+3) 88 [.ref x.rw] (hA m x F n) Z:=by
 have ph:=eU h;have lr:(x.rows.map λ r=>V.ref r.1).length=x.rows.length:=Xm ..;have hz:x.rows.length<=lim:=Xp ph.2.1 (by decide)
 have c1:([V.int 0,.int 0]:List V).length+(x.rows.map λ r=>V.int r.2.2).length<=lim:=by rw[Xm];exact Xp (YD (XS 2) ph.2.1) (by decide)
 have c2:((([0,0]++x.rows.map λ r:Row=>r.2.2):List Int).map V.int).length+[V.int 0].length<=lim:=by rw[Xm,Xr,Xm];exact Xp (YP (YD (XS 2) ph.2.1) 1) (by decide)
 have D2:=(gw D n).D;have w7:Wh m (kx x n (ņ m.p.À)):=rfl;have S:=D.S;have el:=pE (l:=m.p.À.map λ t=>V.int t.sr) (l':=x.live.map λ a=>V.int a) (by rw[<-S.live,X5];rfl) zq;have ef:=pE (l:=m.p.fin.map V.int) (l':=x.fin.map λ a=>V.int (W m.p.À a)) (by rw[S.fin,X5];rfl) zq;have er:=pE (l:=m.p.Ì.map val) (l':=x.Ì.map λ a=>val (W m.p.À a)) (by rw[S.Ì,X5];rfl) Fw;have et:=pE (l:=m.q.bP.map V.int) (l':=x.bP.map λ a=>V.int a) (by rw[S.bP]) zq;obtain⟨x,rfl⟩:=D.Ö;refine Spec.g0 (d:=d) 2 rfl rfl [] 72057594490912794 (Done.J0 (j:=2) (L:=w8 m (x.Ö m.q.J)) (rH (n:=n+1) (x:=x.Ö m.q.J) (r:=n) S D.I.O.small ?_) [1,1,1,1,1,1,1,1,1,1,1,1,1,1,1,1,1,1,1,1,1,1,1,1,1,1,1,1,1,1,1,1,1,0,1,1,1,1,1] [1,1,1,1,1,1,1,1] rfl (by kernel_rfl));refine Į.g0 [8] [] 0 (Done.NY (j:=2) (L:=[(260,.ref (x.Ö m.q.J).rw),(169,.ref m.q.J)]) (E:=[(m.q.J,mO m.q.c m.q.fr m.q.hv),(m.h,Ca m.p),(m.p.jV,.list (eA m.p.À))]) (s0:=cT m.p.À) (n:=n+1) (comp_map m.p.À (λ t=>.ref t.t) (λ t=>.int t.sr) (r:=m.p.jV) (C3 (x:=x.Ö m.q.J)) (Xp (XJ D.I.O.small) (by decide)) (mg 2 rfl) (λ t ht=>Mt ht) ?_) [0,19,19] [1] rfl (by kernel_rfl));refine á.g0 [1] [gf el] 72058835283476507 (Done.J0 (j:=2) (L:=w8 m (x.Ö m.q.J)) (zt (n:=n+2) (d:=d) D2 w7 h λ n3=>?_) [1,3,3,3,3,3,3,3,3,3,3,3,3,3,3,3,3,3,3,3,1,1,1,1,1,1,1,1,1,1,1,1,1,1,1,1,1,1,1] [1,1,1,1,1,1,1,1] rfl (by kernel_rfl));refine Į.g0 [8] [] 1 (Done.J0 (j:=2) (L:=w8 m (x.Ö m.q.J)) (rI (n:=n3) (d:=d) D2 w7 ?_) [0,0,0,0,0,0,0,0,0,0,0,0,0,0,0,0,0,0,0,0,0,0,0,0,0,0,0,0,0,0,0,0,0,0,0,0,0,0,0] [1,1,1,1,1,1,1,1] rfl (by kernel_rfl));refine Į.g0 [8] [] 0 (Done.NY (j:=2) (L:=[(260,.ref (x.Ö m.q.J).rw)]) (E:=Ē (kx (x.Ö m.q.J) n (ņ m.p.À))) (s0:=ak (x.Ö m.q.J).rows) (n:=n3+1) (uj (d:=d+1) (x:=kx (x.Ö m.q.J) n (ņ m.p.À)) hz ?_) [27,27,27,27,27,27,27,27,27,27,27,27,27] [7] rfl (by kernel_rfl));refine á.g0 [1] [Õ c1,fO (Uj (x.Ö m.q.J)),Õ c2,fO (Uk (x.Ö m.q.J))] 18735818879119982606 (Done.J0 (j:=2) (L:=OC m (x.Ö m.q.J) (n3+4)) (vM (n:=n3+5) (d:=d) D2 w7 h λ n4=>?_) [0,17,17,17,17,17,17,17,17,17,17,17,17,17,17,17,17,17,17,17,17,17,17,17,17,17,17,3,3,3,3,3,3,3,3,3,3,3,3,3] [2,2,2,2,2,2,1,1] rfl (by kernel_rfl));refine Į.g0 [8] [] 5377 (Done.JZ (j:=2) (L:=[(260,.ref (x.Ö m.q.J).rw)]) (E:=Ē (kx (x.Ö m.q.J) n (ņ m.p.À))) (n:=n4) (comp_map x.fin .int (λ a=>.int (W m.p.À a)) (r:=x.Œ) (zu (x:=kx (x.Ö m.q.J) n (ņ m.p.À))) (Xp ph.2.2.1 (by decide)) (mg 8 rfl) (λ b hb=>Mu (x:=kx (x.Ö m.q.J) n (ņ m.p.À)) (ĕ D2.S w7 (.inr (D.S.o_ b hb).1))) ?_) [27,27,27,27,27,27,27,27,27,27,27,27,27] [] rfl (by kernel_rfl));refine á.g0 [0] [gf ef] 38547331547175 (Done.JZ (j:=2) (L:=[(260,.ref (x.Ö m.q.J).rw)]) (E:=Ē (kx (x.Ö m.q.J) n (ņ m.p.À))) (n:=n4+1) (comp_map x.Ì .int (λ a=>val (W m.p.À a)) (r:=x.ŕ) (zv (x:=kx (x.Ö m.q.J) n (ņ m.p.À))) (Xp ph.2.2.2.1 (by decide)) (mg 9 rfl) (λ b hb=>uo (x:=kx (x.Ö m.q.J) n (ņ m.p.À)) (ĕ D2.S w7 (.inr (D.S.og b hb).1))) ?_) [1,1,1,1,1,1,1,1,1,1,1,1,1] [] rfl (by kernel_rfl));refine á.g0 [0] [gf er,gf et] 779077427021384122002445655839028104683361157578793 (Done.HC (b:=decide (((m.q.ń.map V.ref).length:Int)=x.runs)) (h:=hA m (kx (x.Ö m.q.J) n (ņ m.p.À)) F (n4+3)) ?_ ⟨.refl _,rfl⟩ (z n (n4+3)) [17,17,17,17,17,17,17,17,17,17,17,17,17,17,17,17,17,17,17,17,17,17,17,17,17,17,2,2,2,2,2,2,2,2,2,2,2,2,2] [] (by kernel_rfl));have:=S.run;rw[Xm];exact XI this.symm
end
end Mine.Z
namespace Mine.Z
section
variable{d n k:Nat}{m:Mc}{x:Wd}{F:List Ç}{op y v:Int}
theorem zw(D:Gd m x)(wh:Wh m x)(h:ġ x<=252)(ho:op=0\/op=1){Z:V->Hp->Prop}(z:∀m' x' n',Dn m x 2 m' x'->Z (.bool true) (hA m' x' F n')):Spec (d+13) 99 [.ref x.rw,.int op,.int y] (hA m x F n) Z:=by
 have P:=D.pre y;rcases ho with rfl|rfl
 ·refine Spec.go 12 rfl rfl _ P.R [Õ P.n0,ë P.c] 5192376318821245040175138014756890 (Done.call (j:=12) (um (F:=F) (n:=n) D wh h (y:=y) λ m' x' n' dn=>?_) [] [] (by kernel_rfl));exact á.g0 [] [] 0 (Done.fr (z _ _ (n') dn) [] [] (by kernel_rfl))
 ·refine Spec.go 12 rfl rfl _ P.R [Õ P.n0,ë P.c] 5192376318821245040175138014756890 (Done.call (j:=12) (um (F:=F) (n:=n) D wh h (y:=y) λ m' x' n' dn=>?_) [] [] (by kernel_rfl));exact á.g0 [] [] 0 (Done.fr (z _ _ (n') dn) [] [] (by kernel_rfl))
theorem C_(D:Gd m x)(wh:Wh m x)(h:ġ x<=252)(hk:k=2\/k=0/\(op=5\/op=9))(ho:0<=op/\op<12)
  (w:op=9->∀{Z:V->Hp->Prop},(∀m' x' n',Dn m x 0 m' x'->Z (.bool true) (hA m' x' F n'))->Spec (d+12) 95 [.ref x.rw,.ref (m.q.c 1037)] (hA m x F n) Z)
  {Z:V->Hp->Prop} (z:∀m' x' n',Dn m x k m' x'->Z (.bool true) (hA m' x' F n')):Spec (d+13) 99 [.ref x.rw,.int op,.int y] (hA m x F n) Z:=by
 have z0:∀m' x' n',Dn m x 0 m' x'->Z (.bool true) (hA m' x' F n'):=λ m' x' n' dn=>z m' x' n' dn.mono
 have z2:¬(op=5\/op=9)->∀m' x' n',Dn m x 2 m' x'->Z (.bool true) (hA m' x' F n'):=λ q=>by
  rcases hk with rfl|hk
  ·exact z
  ·exact absurd hk.2 q
 have:op=0\/op=1\/op=2\/op=3\/op=4\/op=5\/op=6\/op=7\/op=8\/op=9\/op=10\/op=11:=by exact O4 (ho.1) (ho.2)
 rcases this with rfl|rfl|rfl|rfl|rfl|rfl|rfl|rfl|rfl|rfl|rfl|rfl
 ·exact zw D wh h (.inl rfl) (z2 (by decide))
 ·exact zw D wh h (.inr rfl) (z2 (by decide))
 ·exact Mi D wh (z2 (by decide))
 ·exact Mj D wh (z2 (by decide))
 ·exact Mq D wh h (z2 (by decide))
 ·exact Mk D h z0
 ·exact Ml D h (z2 (by decide))
 ·exact zj D wh h (.inl rfl) (z2 (by decide))
 ·exact zj D wh h (.inr rfl) (z2 (by decide))
 ·exact Mm D (w rfl) z0
 ·exact HT D wh h (z2 (by decide))
 ·exact HU D wh h (z2 (by decide))
theorem uq(D:Gd m x)(wh:Wh m x)(h:ġ x<=250)(hk:k=2\/k=0/\(v.fmod 12=5\/v.fmod 12=9))
  (w:v.fmod 12=9->∀{Z:V->Hp->Prop},(∀m' x' n',Dn m x 0 m' x'->Z (.bool true) (hA m' x' F n'))->Spec (d+12) 95 [.ref x.rw,.ref (m.q.c 1037)] (hA m x F n) Z)
  {Z:V->Hp->Prop} (z:∀m' x' n',Dn m x k m' x'->Wh m' x'->Z (.bool true) (hA m' x' F n')):Spec (d+14) 100 [.ref x.rw,.int v] (hA m x F n) Z:=by
 have k2:k<=2:=by rcases hk with rfl|hk;exact XS _;rw[hk.1];exact Zi _
 have ho:=And.intro (Yl v (show(0:Int)<12 by decide)) (Yr v (show(0:Int)<12 by decide));refine Spec.g0 (d:=d) 13 rfl rfl [] 65536 (Done.call (j:=13) (C_ (y:=v.fdiv 12) D wh (Xp h (by decide)) hk ho w λ m' x' n'=>Dn.use (P:=λ m' x'=>á _ _ _ (.bool true) (hA m' x' _ n')) (λ m' x' dn=>?_) m' x') [] [] (by kernel_rfl));refine á.g0 [] [] 256 (Done.call (j:=13) (jk (F:=F) (n:=n') (d:=d+10) dn.D (Xp dn.ph (Xp (YD h k2) (by decide))) λ r n2=>?_) [] [] (by kernel_rfl));exact á.g0 [] [] 0 (Done.fr (z _ _ n2 (dn^(gw dn.D r)) rfl) [] [] (by kernel_rfl))
end
end Mine.Z
namespace Mine.Z
def Fx(m:Mc)(Ŗ:List V)(ń:List Nat)(r:List Int)(gs:List bV):Mc:={m with q:={m.q with à:=m.q.à++gs,Ŗ:=Ŗ,ń:=ń},p:={m.p with Ì:=r}}
def ja(x:Wd)(r:Nat)(l:List Int)(c:Cell):Wd:={x with ŕ:=r,Ì:=l,runs:=x.runs+1,cells:=x.cells++[c],at_:=x.at_+1}
section
variable{d n:Nat}{m:Mc}{x:Wd}{F:List Ç}{g:bV}{hs gs:List bV}{a:Int}{l:List Int}{Ŗ:List V}{ń:List Nat}{r r0:Nat}
theorem jl{z:Nat×List Int}{p:List Int}:z∈Æ (Fx m Ŗ ń p gs).q↔z∈Æ m.q\/z∈gs.flatMap dJ:=by
 simp only[Æ,Fx,XZ,XC];constructor
 ·rintro((h|h)|h)
  ·exact .inl (.inl h)
  ·exact .inr h
  ·exact .inl (.inr h)
 ·rintro((h|h)|h)
  ·exact .inl (.inl h)
  ·exact .inr h
  ·exact .inl (.inr h)
structure Gs (m:Mc) (g:bV) (hs:List bV) (a:Int):Prop where
 as:g.as=[W m.p.À a]
 ls:g.ls=[]
 so:g.so=5
 nil:∀f∈hs,f.as=[]/\f.ls=[]
 l:hs.length<=1
theorem Dc{f:bV}(h:f.as=[]/\f.ls=[]){z:Nat×List Int}(hz:z∈dJ f):z.2=[]:=by unfold dJ at hz;rw[h.1,h.2]at hz;simp only[XE,Yh,ZP]at hz;rcases hz with rfl|rfl|rfl|rfl|rfl<;>rfl
theorem zx(G:Gs m g hs a){z:Nat×List Int}(hz:z∈(g::hs).flatMap dJ):z=(g.ar,[W m.p.À a])\/z.2=[]:=by
 obtain⟨f,hf,Bz⟩:=XX.mp hz;rcases XE.mp hf with rfl|hf
 ·unfold dJ at Bz;rw[G.as,G.ls]at Bz;simp only[XE,Yh,ZP]at Bz;rcases Bz with rfl|rfl|rfl|rfl|rfl
  ·exact .inl rfl
  all_goals exact .inr rfl
 ·exact .inr (Dc (G.nil f hf) Bz)
theorem Mv(D:Gd m x)(hl:x.Ì=a::l)(U:Ŗ.length=m.q.Ŗ.length+1)(h2:ń.length=m.q.ń.length+1)(hc:x.cells.length=4)(hf:m.q.à.length=1)(G:Gs m g hs a)(hn:g.ar∉(Æ m.q).map (·.1)):Gd (Fx m Ŗ ń (l.map (W m.p.À)) (g::hs)) (ja x r l ⟨r0,g.ar,0,a⟩):=by
 have S:=D.S;have ha:Kn x a:=.inr (S.og a (hl▸.head _)).1;have hm:m.p.Ì=W m.p.À a::l.map (W m.p.À):=by rw[S.Ì,hl];rfl
 have fl:(m.q.à++g::hs).length=hs.length+2:=by rw[Xr,hf,Yi];exact nq [_] [] (.a (.k 1) (.a (.v 0) (.k 1))) (.a (.v 0) (.k 2)) rfl
 refine⟨⟨{D.I.O with},D.I.hv,D.I.rws,λ z hz=>?_,D.I.fin,λ b hb=>D.I.Ì b (hm▸.tail _ hb),?_,D.I.rz,?_⟩,?_,D.J,YZ D.om (YO (by decide)),?_,?_⟩
 ·rcases jl.mp hz with hz|hz
  ·exact D.I.t8 z hz
  ·rcases zx G hz with rfl|e
   ·exact⟨show 1<1000 by decide,λ b hb=>XH.mp hb▸S.nm ha⟩
   ·rw[e];exact⟨by decide,λ _ h=>nm h⟩
 ·show(m.q.à++g::hs).length<=3;rw[fl];exact YP G.l 2
 ·have:=D.I.fz;rw[hm]at this;exact Xs (Zj _) this
 ·refine {S with Ì:=rfl,og:=λ b hb=>S.og b (hl▸.tail _ hb),run:=?_,Ŗ:=?_,gZ:=λ c BD=>?_,o7:=λ z hz j hj=>?_,pos:=?_}
  ·rcases XC.mp BD with hc|hc
   ·obtain⟨a,b,vs,h,k⟩:=S.gZ c hc;exact⟨a,b,vs,jl.mpr (.inl h),k⟩
   ·rw[XH.mp hc];exact⟨X9 _,ha,[W m.p.À a],jl.mpr (.inr (Xo _ (by unfold dJ;rw[G.as];exact .head _))),rfl⟩
  ·rcases jl.mp hz with hz|hz
   ·obtain⟨c,hc,h⟩:=S.o7 z hz j hj;exact⟨c,Xo _ hc,h⟩
   ·rcases zx G hz with rfl|e
    ·exact⟨_,Xw _ (.head _),rfl,by have:j=0:=abd.mp hj;rw[this];rfl⟩
    ·rw[e]at hj;exact absurd hj (YQ _)
  ·refine List.pairwise_append.mpr ⟨S.pos,aaW _ _,λ c hc c' pC=>?_⟩;rw[XH.mp pC];rintro⟨h,_⟩;obtain⟨_,_,vs,hr,_⟩:=S.gZ c hc;exact hn (Xx.mpr ⟨_,hr,h⟩)
  ·show x.runs+1=ń.length;rw[h2,S.run];rfl
  ·show Ŗ.length=ń.length;rw[U,h2,S.Ŗ]
 ·show 1<=(m.q.à++g::hs).length;rw[fl];exact Xp (by decide) (YH 2 _)
 ·show 4<=(x.cells++[_]).length/\(x.cells++[_]).length<=5;rw[Xr,hc];exact⟨Zj 4,XS 5⟩
def ip(m:Mc)(r:Nat):Mc:={m with q:={m.q with fr:=r,à:=m.q.à.take 1}}
def nB(x:Wd)(r:Nat):Wd:={x with yG:=r,cells:=x.cells.take 4}
theorem ky{z:Nat×List Int}(h:z∈Æ (ip m r).q):z∈Æ m.q:=by
 rcases XC.mp h with h|h
 ·obtain⟨f,hf,hz⟩:=XX.mp h;exact Xo _ (XX.mpr ⟨f,ZG hf,hz⟩)
 ·exact Xw _ h
theorem Mw(D:Gd m x)(N:((Æ m.q).map (·.1)).Nodup)(hc:x.cells.length=5)(U:∀c∈x.cells.take 4,c.l∈(Æ (ip m r).q).map (·.1))(h2:∀c∈x.cells.drop 4,c.l∉(Æ (ip m r).q).map (·.1)):Gd (ip m r) (nB x r0):=by
 have S:=D.S;refine⟨⟨D.I.O,D.I.hv,D.I.rws,λ z hz=>D.I.t8 z (ky hz),D.I.fin,D.I.Ì,?_,D.I.rz,D.I.fz⟩,?_,D.J,D.om,?_,?_⟩
 ·show(m.q.à.take 1).length<=3;rw[Y4];have:=D.I.nr;exact ln [_] [] (.c 1 (.v 0) (.k 1) .e) 0 (.v 0) (.k 3) rfl (Nat.min_le_left _ _)
 ·refine {S with gZ:=λ c BD=>?_,o7:=λ z hz j hj=>?_,pos:=S.pos.sublist (List.take_sublist _ _)}
  ·obtain⟨a,b,vs,hv,k⟩:=S.gZ c (ZG BD);obtain⟨z,hz,e⟩:=Xx.mp (U c BD);exact⟨a,b,vs,aQ N z (ky hz) _ hv e▸hz,k⟩
  ·obtain⟨c,OB,e1,e2⟩:=S.o7 z (ky hz) j hj;refine⟨c,?_,e1,e2⟩;rw[<-YN 4 x.cells]at OB;exact(XC.mp OB).elim id λ h=>absurd (Xx.mpr ⟨z,hz,e1.symm⟩) (h2 c h)
 ·show 1<=(m.q.à.take 1).length;rw[Y4];exact Nat.le_min.mpr ⟨XS 1,D.kg⟩
 ·show 4<=(x.cells.take 4).length/\(x.cells.take 4).length<=5;rw[Y4,hc];decide
end
end Mine.Z
namespace Mine.Z
section
variable{d n k:Nat}{m:Mc}{x:Wd}{F:List Ç}{v:Int}
theorem H7{l:List bV}(h:1<=l.length):∃f,Ū (l.map λ x=>V.ref x.f) (((l.map λ x=>V.ref x.f).length:Int) - 1)\(.ref f):=by
 rw[Xm];have hi:l.length - 1<l.length:=by exact ln [_,_] [] (.c 1 (.a (.v 0) (.k 1)) (.v 1) .e) 0 (.a (.v 0) (.k 1)) (.v 1) rfl (XB (Yb (ln [_] [] (.c 1 (.k 1) (.v 0) .e) 0 (.k 1) (.v 0) rfl h)))
 refine⟨(l[l.length - 1]).f,Ğ (f:=λ x:bV=>V.ref x.f) (by exact li [_] [] (.c 1 (.k 1) (.v 0) .e) 0 (.k 0) (.s (.n (.v 0)) (.k 1)) rfl h) ?_⟩;rw[show((l.length:Int) - 1).toNat=l.length - 1 by exact Yq (ln [_,_,_] [] (.c 1 (.v 0) (.a (.v 1) (.k 1)) (.i 1 (.n (.v 2)) (.s (.n (.v 0)) (.k 1)) .e)) 0 (.v 2) (.v 1) rfl (su _ _) (Xu (Xy (li [_] [] (.c 1 (.k 1) (.v 0) .e) 0 (.k 0) (.s (.n (.v 0)) (.k 1)) rfl h)))) (ln [_,_,_] [] (.c 1 (.a (.v 0) (.k 1)) (.v 1) (.i 1 (.s (.n (.v 1)) (.k 1)) (.n (.v 2)) .e)) 0 (.v 0) (.v 2) rfl hi (XU _))];exact Xz hi
theorem Dd(D:Gd m x)(hc:x.cells.length=5)(hf:ż m.q=true){Z:V->Hp->Prop}(z:∀m' x' n',Dn m x 0 m' x'->Z (.bool true) (hA m' x' F n')):Spec (d+12) 95 [.ref x.rw,.ref (m.q.c 1037)] (hA m x F n) Z:=by
 obtain⟨f,ef⟩:=H7 D.kg;have c4:4<nC x:=by show(4:Int)<((x.cells.map λ c=>V.ref c.r).length:Nat);rw[Xm,hc];decide
 obtain⟨x,rfl⟩:=D.Ö;refine Spec.g0 (d:=d) 11 rfl rfl [Õ c4,ë ef] 1329268640141771014007740513703165978 (Done.ā (j:=10) (aW (n:=n+1) (d:=d+9) D.I.nr ?_) [1,1,1,1,1,1,1,1,1,1,1,1,1,1,1,1,1,1,1,1] [3] rfl (by kernel_rfl));exact á.g0 [1] [eQ hf] 1 (Done.fr (z _ _ (n+1) (Dn.refl D 0)) [0,0,0,0,0,0,0,0,0,0,0,0,0,0,0,0,0,0,0,0,1,1,1,1,1,1,1,1,1,1,1,1,1,1,1,1,1,1,1] [1,1,0,0,0,0,0,0] (by kernel_rfl))
theorem ur(q:Sh):ż q=(q.à.map zg).any λ f=>decide (f.so=5):=by unfold ż;rw[List.any_map];rfl
theorem De(D:Gd m x)(wh:Wh m x)(h:ġ x<=250)(hc:x.cells.length=5)(hf:ż m.q=true){Z:V->Hp->Prop}(z:∀m' x' n',Dn m x 2 m' x'->Wh m' x'->Z (.bool true) (hA m' x' F n')):Spec (d+14) 100 [.ref x.rw,.int v] (hA m x F n) Z:=uq D wh h (.inl rfl) (λ _=>Dd D hc hf) z
def uv(x:Wd):Wd:={x with at_:=x.at_+1}
def zy(x:Wd):Int:=if x.at_<x.bW.length then x.bW.getD x.at_.toNat 0 else 0
theorem Fy(D:Gd m x):Dn m x 0 m (uv x)/\(zy x=0\/ġ (uv x)+7=ġ x)/\(x.at_<x.bW.length->ġ (uv x)+7=ġ x):=by
 have h0:=D.om
 have e:x.at_<x.bW.length->ġ (uv x)+7=ġ x:=λ h=>by
  have:ji (uv x)+1=ji x:=by unfold ji uv;dsimp only;exact Yq (ln [_,_,_,_,_] [_] (.i 1 (.a (.v 0) (.k 1)) (.n (.v 0)) (.c 1 (.a (.v 1) (.v 0)) (.v 2) (.i 1 (.n (.v 3)) (.v 0) (.c 1 (.v 2) (.a (.v 4) (.v 3)) .e)))) 0 (.a (.v 1) (.k 1)) (.v 4) rfl (XU _) (XB (Yb (ln [_,_] [_] (.i 1 (.a (.v 0) (.k 1)) (.n (.v 0)) (.i 1 (.n (.v 1)) (.a (.v 0) (.k 1)) .e)) 0 (.v 1) (.v 0) rfl h (Xu (Xy (li [] [_] (.i 1 (.k 0) (.v 0) .e) 0 (.k 0) (.a (.v 0) (.k 1)) rfl h0)))))) (Xu (Xy (h0))) (su _ _)) (ln [_,_,_,_,_] [_] (.i 1 (.v 0) (.n (.v 0)) (.c 1 (.a (.v 1) (.v 0)) (.v 2) (.i 1 (.n (.v 3)) (.a (.v 0) (.k 1)) (.c 1 (.v 2) (.a (.v 4) (.v 3)) .e)))) 0 (.v 1) (.a (.v 4) (.k 1)) rfl (XU _) (XB (Yb (ln [_,_] [_] (.i 1 (.a (.v 0) (.k 1)) (.n (.v 0)) (.i 1 (.n (.v 1)) (.v 0) .e)) 0 (.v 1) (.v 0) rfl h (Xu (Xy (h0)))))) (Xu (Xy (li [] [_] (.i 1 (.k 0) (.v 0) .e) 0 (.k 0) (.a (.v 0) (.k 1)) rfl h0))) (su _ _))
  unfold ġ;show _+7*ji (uv x)+7=_;dsimp only[uv]at*;exact Yq (ln [_,_,_,_,_,_,_,_] [] (.c 7 (.a (.v 0) (.k 1)) (.v 1) .e) 0 (.a (.a (.a (.a (.a (.a (.a (.v 2) (.v 3)) (.v 4)) (.v 5)) (.v 6)) (.v 7)) (.m 7 (.v 0))) (.k 7)) (.a (.a (.a (.a (.a (.a (.v 2) (.v 3)) (.v 4)) (.v 5)) (.v 6)) (.v 7)) (.m 7 (.v 1))) rfl (XB this)) (ln [_,_,_,_,_,_,_,_] [] (.c 7 (.v 0) (.a (.v 1) (.k 1)) .e) 0 (.a (.a (.a (.a (.a (.a (.v 2) (.v 3)) (.v 4)) (.v 5)) (.v 6)) (.v 7)) (.m 7 (.v 0))) (.a (.a (.a (.a (.a (.a (.a (.v 2) (.v 3)) (.v 4)) (.v 5)) (.v 6)) (.v 7)) (.m 7 (.v 1))) (.k 7)) rfl (XB this.symm))
 have l:ġ (uv x)<=ġ x:=by
  have:ji (uv x)<=ji x:=by unfold ji uv;dsimp only;exact Nat.sub_le_sub_left (aaB (YO (by decide))) _
  unfold ġ;dsimp only[uv]at*;exact ln [_,_,_,_,_,_,_,_] [] (.c 7 (.v 0) (.v 1) .e) 0 (.a (.a (.a (.a (.a (.a (.v 2) (.v 3)) (.v 4)) (.v 5)) (.v 6)) (.v 7)) (.m 7 (.v 0))) (.a (.a (.a (.a (.a (.a (.v 2) (.v 3)) (.v 4)) (.v 5)) (.v 6)) (.v 7)) (.m 7 (.v 1))) rfl this
 refine⟨⟨⟨D.I,{D.S with},D.J,by show 0<=x.at_+1;exact li [] [_] (.i 1 (.k 0) (.v 0) .e) 0 (.k 0) (.a (.v 0) (.k 1)) rfl h0,D.kg,D.cz⟩,rfl,rfl,l,by show x.at_<=x.at_+1;exact li [] [_] .e 0 (.v 0) (.a (.v 0) (.k 1)) rfl,X9 _,rfl,rfl⟩,?_,e⟩;by_cases h:x.at_<x.bW.length
 ·exact .inr (e h)
 ·exact .inl (XW h)
variable{m':Mc}{x':Wd}
theorem Dn.cl(D:Dn m x k m' x'):x'.cells.length=x.cells.length:=by have:=Xq List.length D.ce;rwa [Xm,Xm]at this
theorem Dn.fl(D:Dn m x k m' x'):m'.q.à.length=m.q.à.length:=by have:=Xq List.length D.fs;rwa [Xm,Xm]at this
theorem Dn.any(D:Dn m x k m' x'):ż m'.q=ż m.q:=by rw[ur,ur,D.fs]
structure WS where
 m:Mc
 x:Wd
 n:Nat
def BE(m:Mc)(x:Wd)(cv:Nat)(v:Int):LV:=[(260,.ref x.rw),(169,.ref m.q.J),(270,.ref cv),(287,.int v)]
def Kd(m:Mc)(x:Wd)(F:List Ç)(a:WS):Hp:=hA (Ĕ m a.m) (Ë x a.x) F a.n
theorem kA{cv:Nat}(D:Gd m x)(wh:Wh m x)(hp:v=0\/ġ x+4<=250)(hc:x.cells.length=5)(hf:ż m.q=true){Z:LV->Hp->Prop}(z:∀a:WS,Dn m x (2*(v.fmod 3).toNat) (Ĕ m a.m) (Ë x a.x)->Wh (Ĕ m a.m) (Ë x a.x)->Z (BE m x cv v) (Kd m x F a)):
  Ď (d+14) (.Č 191 (.bin .mod (.loc 287) (.const (.int 3))) (some 10) [.ite (.not (.Ñ 291 100 [(.loc 260),(.Ñ 288 94 [(.loc 260)])])) [.ret (some (.const (.bool false)))] []]) (BE m x cv v) (hA m x F n) Z:=by
 have h0:=Yl v (show(0:Int)<3 by decide);have h3:=Yr v (show(0:Int)<3 by decide);have src:É (d+14) (.bin .mod (.loc 287) (.const (.int 3))) (BE m x cv v) (hA m x F n) (.int (v.fmod 3)):=É.g0 14 [] 0 (by kernel_rfl);have e:=Xy h0;rw[<-e]at src;refine jU (a0:=⟨m,x,n⟩) (Lf:=λ _=>BE m x cv v) (hf:=Kd m x F) (λ i a=>Dn m x (2*i) (Ĕ m a.m) (Ë x a.x)/\Wh (Ĕ m a.m) (Ë x a.x)) (n:=(v.fmod 3).toNat) src (Xp (show _<=3 by exact ln [_] [_] (.i 1 (.a (.v 0) (.k 1)) (.k 3) (.i 1 (.n (.v 0)) (.v 0) .e)) 0 (.v 0) (.k 3) rfl h3 (Xu e)) (by decide)) ⟨Dn.refl D 0,wh⟩ ?_ λ a A=>z a A.1 A.2;rintro i a ⟨dn,w9⟩ hi;have hv:ġ x+4<=250:=hp.resolve_left λ h=>by subst h;exact absurd hi (YQ i)
 have nx:=Fy dn.D;have d2:=dn.trans nx.1;have hi2:i<2+1:=by exact ln [_,_] [_] (.i 1 (.a (.v 0) (.k 1)) (.k 3) (.i 1 (.n (.v 0)) (.v 0) (.c 1 (.a (.v 1) (.k 1)) (.v 0) .e))) 0 (.a (.v 1) (.k 1)) (.a (.k 2) (.k 1)) rfl h3 (Xu e) hi
 refine Ã.g0 14 [] 1 (Done.lV (j:=14) (nv (n:=(lq (xD 14) 14 [S.ite (E.Ñ 291 100 [E.loc 260,E.Ñ 288 94 [E.loc 260]]).not [S.ret (some (E.const (V.bool false)))] []] (i5 (Kd m x F a) [] ((191,V.int ↑i)::BE m x cv v) [] 1) kN kR).core.hp.n) (d:=d+13) dn.D.om ?_) [26,26,26,26,26,26,26,26,26,26,26,26,26] [] rfl (by kernel_rfl));refine á.g0 [0] [] 1 (Done.call (j:=14) (De (v:=if (Ë x a.x).at_<↑(Ë x a.x).bW.length then (Ë x a.x).bW.getD (Ë x a.x).at_.toNat 0 else 0) (F:=F) (n:=(K_ (lq (xD 14) 14 [S.ite (E.Ñ 291 100 [E.loc 260,E.Ñ 288 94 [E.loc 260]]).not [S.ret (some (E.const (V.bool false)))] []] (i5 (Kd m x F a) [] ((191,V.int ↑i)::BE m x cv v) [] 1) kN kR).core (V.int (if (Ë x a.x).at_<↑(Ë x a.x).bW.length then (Ë x a.x).bW.getD (Ë x a.x).at_.toNat 0 else 0)) (ō [0] {E:=Ē {rw:=(Ë x a.x).rw,J:=(Ë x a.x).J,Fe:=(Ë x a.x).Fe,at_:=(Ë x a.x).at_+1,rk:=(Ë x a.x).rk,J4:=(Ë x a.x).J4,J5:=(Ë x a.x).J5,G_:=(Ë x a.x).G_,wZ:=(Ë x a.x).wZ,Ha:=(Ë x a.x).Ha,made:=(Ë x a.x).made,Œ:=(Ë x a.x).Œ,ŕ:=(Ë x a.x).ŕ,Ff:=(Ë x a.x).Ff,jV:=(Ë x a.x).jV,runs:=(Ë x a.x).runs,yG:=(Ë x a.x).yG,bW:=(Ë x a.x).bW,sorts:=(Ë x a.x).sorts,gens:=(Ë x a.x).gens,slots:=(Ë x a.x).slots,live:=(Ë x a.x).live,wh:=(Ë x a.x).wh,fin:=(Ë x a.x).fin,Ì:=(Ë x a.x).Ì,rows:=(Ë x a.x).rows,bP:=(Ë x a.x).bP,cells:=(Ë x a.x).cells},T:=(lq (xD 14) 14 [S.ite (E.Ñ 291 100 [E.loc 260,E.Ñ 288 94 [E.loc 260]]).not [S.ret (some (E.const (V.bool false)))] []] (i5 (Kd m x F a) [] ((191,V.int ↑i)::BE m x cv v) [] 1) kN kR).rest [26,26,26,26,26,26,26,26,26,26,26,26,26] [] 0,n:=(lq (xD 14) 14 [S.ite (E.Ñ 291 100 [E.loc 260,E.Ñ 288 94 [E.loc 260]]).not [S.ret (some (E.const (V.bool false)))] []] (i5 (Kd m x F a) [] ((191,V.int ↑i)::BE m x cv v) [] 1) kN kR).core.hp.n}) [] [] 1).core.hp.n) (d:=d) d2.D w9 ?_ (d2.cl^hc) (d2.any^hf) λ m' x' n' H8 H9=>?_) [13,13,13,13,13,13,13,13,13,13,13,13,13,13,13,13,13,13,13,13,13,13,13,13,13,13,0,0,0,0,0,0,0,0,0,0,0,0,0] [] (by kernel_rfl))
 ·have:=d2.ph;exact ln [_,_,_] [] (.c 1 (.a (.v 0) (.k 4)) (.k 250) (.c 2 (.a (.v 1) (.k 1)) (.a (.k 2) (.k 1)) (.c 1 (.v 2) (.a (.v 0) (.a (.m 2 (.v 1)) (.k 0))) .e))) 0 (.v 2) (.k 250) rfl hv hi2 this
 ·refine Dn.use (k:=2*i+0+2) (P:=λ m' x'=>Wh m' x'->á _ _ _ (.bool true) (hA m' x' _ n')) (λ m' x' d3 OD=>?_) m' x' (d2^H8) H9;exact á.g0 [] [] 0 (Done.dm ⟨m',x',n'⟩ ⟨d3,OD⟩ [] [] (by kernel_rfl))
end
end Mine.Z
namespace Mine.Z
theorem kB{C:Call}(b1 b2:List S):∀(ρ:Loc) (s:St) {Ð:Loc} {s':St},Ê G C b1 ρ s\(.next,Ð,s')->Ê G C (b1++b2) ρ s=Ê G C b2 Ð s':=by
 induction b1 with
 |nil=>exact λ ρ s Ð s' h=>by cases (show some (Fl.next,ρ,s)\(Fl.next,Ð,s')from h);rfl
 |cons y b1 ih=>exact λ ρ s Ð s' h=>oy (dj.symm^h) (λ ċ s1 e1 h=>dj^((Xq (λ o=>bf o (λ ċ s1=>Ê G C (b1++b2) ċ s1) λ v ċ s1=>some (.ret v,ċ,s1)) e1)^(ih ċ s1 h))) λ v ċ s1 e1 h=>nomatch h
theorem Ã.app{d:Nat}{b1 b2:List S}{L:LV}{h:Hp}{Z:LV->Hp->Prop}(B:Ã d b1 L h λ L' h'=>Ã d b2 L' h' Z):Ã d (b1++b2) L h Z:=λ s ρ R W=>by obtain⟨ċ,s1,L1,U,e1,R1,W1,B2⟩:=B s ρ R W;obtain⟨dG,s2,L2,h2,e2,R2,W2,z⟩:=B2 s1 ċ R1 W1;exact⟨dG,s2,L2,h2,(kB b1 b2 ρ s e1)^e2,R2,W2,z⟩
section
variable{d n k:Nat}{m:Mc}{x:Wd}{F:List Ç}{a:Int}{l:List Int}
def Mc.nu(m:Mc)(l:List Int):Mc:={m with p:={m.p with Ì:=l}}
def nE(m:Mc)(Ŗ:List V)(ń:List Nat)(r:List Int):Mc:={m with q:={m.q with Ŗ:=Ŗ,ń:=ń},p:={m.p with Ì:=r}}
def vP(x:Wd)(n:Nat)(l:List Int):Wd:={x with ŕ:=n,Ì:=l}
def gC(g:bV):Ç:=RJ g++cR (dJ g)
theorem uw{A E T1 T2 T3 T4 T5 T6 T7 T8:Ç}{F:List Ç}{n:Nat}:Ô ⟨A++E,T1::T2::T3::T4::T5::T6::T7::T8::F,n⟩ ⟨E,T1::T2::T3::T4::T5::T6::T7::T8::A::F,n⟩:=by refine⟨ę λ a=>?_,rfl⟩;simp only[Yj,YE];exact nq [_,_,_,_,_,_,_,_,_,_,_] [] (.a (.a (.v 0) (.v 1)) (.a (.v 2) (.a (.v 3) (.a (.v 4) (.a (.v 5) (.a (.v 6) (.a (.v 7) (.a (.v 8) (.a (.v 9) (.v 10)))))))))) (.a (.v 1) (.a (.v 2) (.a (.v 3) (.a (.v 4) (.a (.v 5) (.a (.v 6) (.a (.v 7) (.a (.v 8) (.a (.v 9) (.a (.v 0) (.v 10))))))))))) rfl
structure Df (k o Ļ md:Int):Prop where
 tg:(è [(.tup [.int 16,.int 6],.tup [.int 16,.int 300,.tup []]),(.tup [.int 18,.int 6],.tup [.int 16,.int 300,.tup []]),(.tup [.int 19,.int 6],.tup [.int 19,.int 301,.tup []])] (.tup [.int (16+k),.int 6])).map (λ q=>q.getD .none)\(.tup [.int Ļ,.int md,.tup []])
 nt:Ū [.tup [.int 0,.int 300],.tup [.int 0,.int 0],.tup [.int 0,.int 300],.tup [.int 3,.int 301]] k\(.tup [.int o,.int md])
 kk:Ū [.int 16,.int 17,.int 18,.int 19] o\(.int Ļ)
theorem R9{k:Int}(h0:0<=k)(h3:k<=3)(U:k≠1):∃o Ļ md,Df k o Ļ md:=by
 have:k=0\/k=2\/k=3:=(Kp h0 (Int.lt_add_one_of_le h3)).imp_right λ q=>q.resolve_left U;rcases this with rfl|rfl|rfl
 ·exact⟨0,16,300,rfl,rfl,rfl⟩
 ·exact⟨0,16,300,rfl,rfl,rfl⟩
 ·exact⟨3,19,301,rfl,rfl,rfl⟩
def OE:List S:=[.asg 261 (.sub (.sub (.loc 260) (.const (.str 86))) (.const (.int 0))),.é (.loc 260) (.const (.str 86)) (.slice (.sub (.loc 260) (.const (.str 86))) (some 1) none),.ite (.cmp .ne (.ì (.loc 270) 270 [(.loc 169),(.sub (.attr (.loc 169) 118) (.const (.int 0))),(.list [])]) (.glob 223 (.int (-2)))) [.ret (some (.const (.bool false)))] []]
def Dg(m:Mc)(x:Wd)(cv:Nat):LV:=[(260,.ref x.rw),(169,.ref m.q.J),(270,.ref cv)]
def Ke(m:Mc)(x:Wd)(a:Int):LV:=[(260,.ref x.rw),(169,.ref m.q.J),(261,.int a)]
def gW(nm:Int)(n:Nat)(mr:V)(w:Int):bV:=⟨n+3,nm,mr,n+2,n+4,n+5,n+6,n+7,n+8,n+9,5,[w],[]⟩
set_option maxHeartbeats 1000000 in
theorem Mx{cv:Nat}{o Ļ md:Int}(D:Gd m x)(h:ġ x<=250)(hl:x.Ì=a::l)(hf:ż m.q=false)(K:Df (lB x a) o Ļ md)(hcv:(cv,Mine.O.inst 16 [])∈F.flatten){Z:LV->Hp->Prop}
  (z:∀c' nm,Z (Ke m x a) (hA (nE m (m.q.Ŗ++[c']) (m.q.ń++[n+3]) (l.map (W m.p.À))) (vP x n l) (gC (gW nm n (.tup [.int Ļ,.int md,.tup []]) (W m.p.À a))::F) (n+10))):Ã (d+14) OE (Dg m x cv) (hA m x F n) Z:=by
 have ph:=eU (Xp h (by decide));have S:=D.S;have f0:=Ű D.kg;have Dh:=(S.og a (hl▸.head _)).1;obtain⟨t,ht,es,ew⟩:=S.get Dh;have w0:=S.Rw D.I.O Dh;have hm:m.p.Ì=W m.p.À a::l.map (W m.p.À):=by rw[S.Ì,hl];rfl
 have e1:Ū (x.Ì.map V.int) 0\(.int a):=by rw[hl];rfl
 have c1:(x.Ì.map V.int).length<=lim:=by rw[Xm];exact Xp ph.2.2.2.1 (by decide)
 have e2:Mine.O.list ((x.Ì.map V.int).drop 1)=.list (l.map .int):=by rw[hl];rfl
 have g:=ax (Ņ D.I.O.T ht);have g2:(è (gX m.p.À) (.int t.ad)).join\(.ref t.t):=by rw[bw,Ņ D.I.O.T ht];rfl
 have tg:=K.tg;have e3:=(S.th t ht).1;rw[es]at e3;rw[<-e3]at tg;rw[ew]at w0 hm z;have Rh:=inc (T:=(tA m x F).flatten) (a:=(t.t,lX t)) (Xo _ (az ht true)) (in1 (a:=(cv,Mine.O.inst 16 [])) (by unfold tA;simp only[Yj,XC];exact .inr (.inr (.inr (.inr (.inr (.inr (.inr (.inr hcv)))))))));have c2:(m.q.ń.map V.ref).length<lim:=by rw[Xm,show m.q.ń.length=x.runs.toNat by rw[S.run];rfl];exact Xs ph.2.2.2.2.2.1 (by decide)
 have c3:m.q.Ŗ.length<lim:=by rw[S.Ŗ];rw[Xm]at c2;exact c2
 have z:=z (.tup [.tup [.int Ļ,.int md,.tup []],.ref (n+2),.int 5]) (((m.q.Ŗ++[V.tup [.tup [.int Ļ,.int md,.tup []],.ref (n+2),.int 5]]).length:Nat):Int);obtain⟨x,rfl⟩:=D.Ö;obtain⟨lw,H_⟩:∃lw,lw=l.map (W m.p.À):=⟨_,rfl⟩;rw[<-H_]at hm z;have R_:lw.length<lim:=by rw[H_,Xm];exact Ye (by rw[hl]at ph;exact Ye (YA _) ph.2.2.2.1) (by decide)
 clear H_ S;obtain⟨m,rfl⟩:∃y:Mc,m=y.nu (t.ad::lw):=⟨m,by unfold Mc.nu;rw[<-hm]⟩;have c4:¬(((t.ad::lw).map val).length:Int)=0:=by rw[Xm,Yi];exact λ q0=>lL [_] [] (.i 1 (.n (.a (.v 0) (.k 1))) (.k 0) .e) rfl (Xu q0)
 have c5:(lw.map val).length<lim:=by rw[Xm];exact R_
 refine Ã.go (d:=d) 14 _ Rh [ë e1,Õ c1,fO e2,ë f0] 1461591015133092274332531227903986185887557877786 (Done.ā (j:=13) (aW (n:=n+2) (d:=d+12) D.I.nr ?_) [2,2,2,2,2,2,2,2,2,2,2,2,2,2,2,2,2,2,2,2] [3] rfl (by kernel_rfl))
 refine á.OA [1] (cF m.q.à::cT m.p.À::cW m.rows::cR (Æ m.q)::gu m.q.hv m.fd (ui m)::aj x.slots::ak x.rows::bp x.cells::F) (by kernel_rfl) _ (in1 (Xw _ (Xo _ (az ht true)))) [eQ hf,į c4,Õ c5,į w0,ë g2,ë tg,Õ c3,Õ c2,fs V.ref m.q.ń (n+3)] 918910691507114761128543675440460682540219757691563593760169256773617239958391653429922870212193750612881294828412938066399610393344233011689851824462623153247527812769133583529043883796145048196905181057563570390763218228404348306587649
  (Done.Ĳ (Z:=ZB Z) (fl:=.next) (L:=Ke m (x.Ö m.q.J) a) (h:=⟨gC (gW (((m.q.Ŗ++[V.tup [.tup [.int Ļ,.int md,.tup []],.ref (n+2),.int 5]]).length:Nat):Int) n (.tup [.int Ļ,.int md,.tup []]) t.ad)++(cS (nE (m.nu (t.ad::lw)) (m.q.Ŗ++[V.tup [.tup [.int Ļ,.int md,.tup []],.ref (n+2),.int 5]]) (m.q.ń++[n+3]) lw).q++(cH m.h (nE (m.nu (t.ad::lw)) (m.q.Ŗ++[V.tup [.tup [.int Ļ,.int md,.tup []],.ref (n+2),.int 5]]) (m.q.ń++[n+3]) lw).p++Ē (vP (x.Ö m.q.J) n l))),tA m (x.Ö m.q.J) F,n+10⟩) uw z [6,6,5,4,0,0,2,2,2,2,2,2,2,2,2,2,2,2,2,2,2,2,2,2,2,2,4,4,4,4,4,4,4,4,4,4,4,4,4,4,4,3,4,4,4] [1,1,0,0,0,0,0,0] (by kernel_rfl))
end
end Mine.Z
namespace Mine.Z
section
variable{d n k:Nat}{m:Mc}{x:Wd}{F:List Ç}{a:Int}{l:List Int}
set_option maxHeartbeats 1000000 in
theorem My{o Ļ md:Int}(D:Gd m x)(h:ġ x<=250)(hl:x.Ì=a::l)(hf:ż m.q=false)(K:Df (lB x a) o Ļ md){Z:LV->Hp->Prop}
  (z:∀c' nm,Z (Ke m x a) (hA (nE m (m.q.Ŗ++[c']) (m.q.ń++[n+3]) (l.map (W m.p.À))) (vP x n l) (gC (gW nm n (.tup [.int Ļ,.int md,.tup []]) (W m.p.À a))::F) (n+10))):Ã (d+14) OE (Dg m x (m.q.c 1037)) (hA m x F n) Z:=by
 have ph:=eU (Xp h (by decide));have S:=D.S;have f0:=Ű D.kg;have Dh:=(S.og a (hl▸.head _)).1;obtain⟨t,ht,es,ew⟩:=S.get Dh;have w0:=S.Rw D.I.O Dh;have hm:m.p.Ì=W m.p.À a::l.map (W m.p.À):=by rw[S.Ì,hl];rfl
 have e1:Ū (x.Ì.map V.int) 0\(.int a):=by rw[hl];rfl
 have c1:(x.Ì.map V.int).length<=lim:=by rw[Xm];exact Xp ph.2.2.2.1 (by decide)
 have e2:Mine.O.list ((x.Ì.map V.int).drop 1)=.list (l.map .int):=by rw[hl];rfl
 have g:=ax (Ņ D.I.O.T ht);have g2:(è (gX m.p.À) (.int t.ad)).join\(.ref t.t):=by rw[bw,Ņ D.I.O.T ht];rfl
 have tg:=K.tg;have e3:=(S.th t ht).1;rw[es]at e3;rw[<-e3]at tg;rw[ew]at w0 hm z;have Rh:=in1 (T:=(tA m x F).flatten) (a:=(t.t,lX t)) (Xo _ (az ht true));have c2:(m.q.ń.map V.ref).length<lim:=by rw[Xm,show m.q.ń.length=x.runs.toNat by rw[S.run];rfl];exact Xs ph.2.2.2.2.2.1 (by decide)
 have c3:m.q.Ŗ.length<lim:=by rw[S.Ŗ];rw[Xm]at c2;exact c2
 have z:=z (.tup [.tup [.int Ļ,.int md,.tup []],.ref (n+2),.int 5]) (((m.q.Ŗ++[V.tup [.tup [.int Ļ,.int md,.tup []],.ref (n+2),.int 5]]).length:Nat):Int);obtain⟨x,rfl⟩:=D.Ö;obtain⟨lw,H_⟩:∃lw,lw=l.map (W m.p.À):=⟨_,rfl⟩;rw[<-H_]at hm z;have R_:lw.length<lim:=by rw[H_,Xm];exact Ye (by rw[hl]at ph;exact Ye (YA _) ph.2.2.2.1) (by decide)
 clear H_ S;obtain⟨m,rfl⟩:∃y:Mc,m=y.nu (t.ad::lw):=⟨m,by unfold Mc.nu;rw[<-hm]⟩;have c4:¬(((t.ad::lw).map val).length:Int)=0:=by rw[Xm,Yi];exact λ q0=>lL [_] [] (.i 1 (.n (.a (.v 0) (.k 1))) (.k 0) .e) rfl (Xu q0)
 have c5:(lw.map val).length<lim:=by rw[Xm];exact R_
 refine Ã.go (d:=d) 14 _ Rh [ë e1,Õ c1,fO e2,ë f0] 1461591014900477375070170950145819950338497576986 (Done.ā (j:=13) (aW (n:=n+2) (d:=d+12) D.I.nr ?_) [2,2,2,2,2,2,2,2,2,2,2,2,2,2,2,2,2,2,2,2] [3] rfl (by kernel_rfl))
 refine á.OA [1] (cF m.q.à::cT m.p.À::cW m.rows::cR (Æ m.q)::gu m.q.hv m.fd (ui m)::aj x.slots::ak x.rows::bp x.cells::F) (by kernel_rfl) _ (in1 (Xw _ (Xo _ (az ht true)))) [eQ hf,į c4,Õ c5,į w0,ë g2,ë tg,Õ c3,Õ c2,fs V.ref m.q.ń (n+3)] 918910691507114761128543675440460682540219757691563593760169256773617239958391653429922870212193750612881294828412938066399610393344233011689851824462623153247527812769133583529043883796145048196905181057563570390763218228404348306587649
  (Done.Ĳ (Z:=ZB Z) (fl:=.next) (L:=Ke m (x.Ö m.q.J) a) (h:=⟨gC (gW (((m.q.Ŗ++[V.tup [.tup [.int Ļ,.int md,.tup []],.ref (n+2),.int 5]]).length:Nat):Int) n (.tup [.int Ļ,.int md,.tup []]) t.ad)++(cS (nE (m.nu (t.ad::lw)) (m.q.Ŗ++[V.tup [.tup [.int Ļ,.int md,.tup []],.ref (n+2),.int 5]]) (m.q.ń++[n+3]) lw).q++(cH m.h (nE (m.nu (t.ad::lw)) (m.q.Ŗ++[V.tup [.tup [.int Ļ,.int md,.tup []],.ref (n+2),.int 5]]) (m.q.ń++[n+3]) lw).p++Ē (vP (x.Ö m.q.J) n l))),tA m (x.Ö m.q.J) F,n+10⟩) uw z [6,6,5,4,0,0,2,2,2,2,2,2,2,2,2,2,2,2,2,2,2,2,2,2,2,2,4,4,4,4,4,4,4,4,4,4,4,4,4,4,4,3,4,4,4] [1,1,0,0,0,0,0,0] (by kernel_rfl))
end
end Mine.Z
namespace Mine.Z
section
variable{d n k:Nat}{m m4:Mc}{x x4:Wd}{F:List Ç}{a v:Int}{l:List Int}{g:bV}{hs gs:List bV}{Ŗ:List V}{ń:List Nat}{r r0 r1:Nat}
theorem l_(q:Sh):(Æ q).map (·.1)=(q.à.map zg).flatMap (λ f=>(dJ f).map (·.1))++[q.sc,q.c 154,q.c 158]:=by unfold Æ;rw[XF,List.map_flatMap,ZJ];rfl
theorem zA(hl:x.Ì=a::l)(h0:0<=x.at_)(U:0<=x.runs)(c:Cell):ġ (ja x r l c)<=ġ x/\(zy x=0\/ġ (ja x r l c)+7=ġ x):=by
 have hr:x.Ì.length=l.length+1:=by rw[hl];rfl
 have e:x.at_<x.bW.length->ġ (ja x r l c)+7=ġ x:=λ h=>by
  have:ji (ja x r l c)+1=ji x:=by unfold ji ja;dsimp only;exact Yq (ln [_,_,_,_,_] [_] (.i 1 (.a (.v 0) (.k 1)) (.n (.v 0)) (.c 1 (.a (.v 1) (.v 0)) (.v 2) (.i 1 (.n (.v 3)) (.v 0) (.c 1 (.v 2) (.a (.v 4) (.v 3)) .e)))) 0 (.a (.v 1) (.k 1)) (.v 4) rfl (XU _) (XB (Yb (ln [_,_] [_] (.i 1 (.a (.v 0) (.k 1)) (.n (.v 0)) (.i 1 (.n (.v 1)) (.a (.v 0) (.k 1)) .e)) 0 (.v 1) (.v 0) rfl h (Xu (Xy (li [] [_] (.i 1 (.k 0) (.v 0) .e) 0 (.k 0) (.a (.v 0) (.k 1)) rfl h0)))))) (Xu (Xy (h0))) (su _ _)) (ln [_,_,_,_,_] [_] (.i 1 (.v 0) (.n (.v 0)) (.c 1 (.a (.v 1) (.v 0)) (.v 2) (.i 1 (.n (.v 3)) (.a (.v 0) (.k 1)) (.c 1 (.v 2) (.a (.v 4) (.v 3)) .e)))) 0 (.v 1) (.a (.v 4) (.k 1)) rfl (XU _) (XB (Yb (ln [_,_] [_] (.i 1 (.a (.v 0) (.k 1)) (.n (.v 0)) (.i 1 (.n (.v 1)) (.v 0) .e)) 0 (.v 1) (.v 0) rfl h (Xu (Xy (h0)))))) (Xu (Xy (li [] [_] (.i 1 (.k 0) (.v 0) .e) 0 (.k 0) (.a (.v 0) (.k 1)) rfl h0))) (su _ _))
  unfold ġ;show _+7*ji (ja x r l c)+7=_;dsimp only[ja]at*;exact Yq (ln [_,_,_,_,_,_,_,_,_,_] [_] (.c 1 (.a (.v 0) (.k 1)) (.v 1) (.c 7 (.a (.v 2) (.k 1)) (.v 3) (.i 1 (.n (.v 4)) (.a (.v 0) (.k 1)) (.i 1 (.v 0) (.n (.v 5)) .e)))) 0 (.a (.a (.a (.a (.a (.a (.a (.v 6) (.v 7)) (.v 8)) (.v 0)) (.v 9)) (.v 4)) (.m 7 (.v 2))) (.k 7)) (.a (.a (.a (.a (.a (.a (.v 6) (.v 7)) (.v 8)) (.v 1)) (.v 9)) (.v 5)) (.m 7 (.v 3))) rfl (XB hr.symm) (XB this) (Xu (Xy (li [] [_] (.i 1 (.k 0) (.v 0) .e) 0 (.k 0) (.a (.v 0) (.k 1)) rfl U))) (XU _)) (ln [_,_,_,_,_,_,_,_,_,_] [_] (.c 1 (.v 0) (.a (.v 1) (.k 1)) (.c 7 (.v 2) (.a (.v 3) (.k 1)) (.i 1 (.n (.v 4)) (.v 0) (.i 1 (.a (.v 0) (.k 1)) (.n (.v 5)) .e)))) 0 (.a (.a (.a (.a (.a (.a (.v 6) (.v 7)) (.v 8)) (.v 0)) (.v 9)) (.v 4)) (.m 7 (.v 2))) (.a (.a (.a (.a (.a (.a (.a (.v 6) (.v 7)) (.v 8)) (.v 1)) (.v 9)) (.v 5)) (.m 7 (.v 3))) (.k 7)) rfl (XB hr) (XB this.symm) (Xu (Xy (li [] [_] (.i 1 (.k 0) (.v 0) .e) 0 (.k 0) (.v 0) rfl U))) (XU _))
 refine⟨?_,?_⟩
 ·have:ji (ja x r l c)<=ji x:=by unfold ji ja;dsimp only;exact Nat.sub_le_sub_left (aaB (YO (by decide))) _
  unfold ġ;dsimp only[ja]at*;exact ln [_,_,_,_,_,_,_,_,_,_] [_] (.c 1 (.a (.v 0) (.k 1)) (.v 1) (.c 7 (.v 2) (.v 3) (.i 1 (.n (.v 4)) (.a (.v 0) (.k 1)) (.i 1 (.v 0) (.n (.v 5)) .e)))) 0 (.a (.a (.a (.a (.a (.a (.v 6) (.v 7)) (.v 8)) (.v 0)) (.v 9)) (.v 4)) (.m 7 (.v 2))) (.a (.a (.a (.a (.a (.a (.v 6) (.v 7)) (.v 8)) (.v 1)) (.v 9)) (.v 5)) (.m 7 (.v 3))) rfl (XB hr.symm) this (Xu (Xy (li [] [_] (.i 1 (.k 0) (.v 0) .e) 0 (.k 0) (.a (.v 0) (.k 1)) rfl U))) (XU _)
 ·by_cases h:x.at_<x.bW.length
  ·exact .inr (e h)
  ·exact .inl (XW h)
structure Turn (m:Mc) (x:Wd) (m':Mc) (x':Wd):Prop where
 dn:Dn m x 0 m' x'
 ru:x.runs+1<=x'.runs
theorem pF(D:Gd m x)(hl:x.Ì=a::l)(hc:x.cells.length=4)(hf:m.q.à.length=1)(G:Gs m g hs a)(hn:g.ar∉(Æ m.q).map (·.1)){m3:Mc}{x3:Wd}(e3:m3=Fx m Ŗ ń (l.map (W m.p.À)) (g::hs))(f3:x3=ja x r l ⟨r0,g.ar,0,a⟩)(D4:Dn m3 x3 (2*((zy x).fmod 3).toNat) m4 x4)(N:((Æ m4.q).map (·.1)).Nodup)(k r5:Nat):Turn m x (ip m4 k) (nB x4 r5):=by
 have r0':0<=x.runs:=by rw[D.S.run];exact YG _
 have ph:=zA (r:=r) hl D.om r0' ⟨r0,g.ar,0,a⟩;rw[<-f3]at ph;have e1:=D4.e1;have e2:=D4.e2;have q3:m4.q.c=m.q.c/\m4.q.sc=m.q.sc/\m4.q.J=m.q.J:=by rw[e1,e3];exact⟨rfl,rfl,rfl⟩
 have fr4:m4.q.à.map zg=(m.q.à++g::hs).map zg:=by have:=D4.fs;rw[e3]at this;exact this
 have Sa:x4.cells.map oo=(x.cells++[(⟨r0,g.ar,0,a⟩:Cell)]).map oo:=by have:=D4.ce;rw[f3]at this;exact this
 have Un:(m4.q.à.take 1).map zg=m.q.à.map zg:=by rw[Zm,fr4,XF,aal (by rw[Xm,hf];exact XS _),aa2 (by rw[Xm,hf];exact XS _)]
 have Uo:(x4.cells.take 4).map oo=x.cells.map oo:=by rw[Zm,Sa,XF,aal (by rw[Xm,hc];exact XS _),aa2 (by rw[Xm,hc];exact XS _)]
 have ceD:(x4.cells.drop 4).map oo=[oo ⟨r0,g.ar,0,a⟩]:=by rw[List.map_drop,Sa,XF,List.drop_append_of_le_length (by rw[Xm,hc];exact XS _),aa3 (by rw[Xm,hc];exact XS _)];rfl
 have c5:x4.cells.length=5:=by have:=Xq List.length Sa;rw[Xm,Xm,Xr,hc]at this;exact this
 have keys:(Æ (ip m4 k).q).map (·.1)=(Æ m.q).map (·.1):=by rw[l_,l_];show((m4.q.à.take 1).map zg).flatMap _++[m4.q.sc,m4.q.c 154,m4.q.c 158]=_;rw[Un,q3.1,q3.2.1]
 have D5:=Mw (r:=k) (r0:=r5) D4.D N c5 (λ c BD=>by
  obtain⟨c1,hc1,e⟩:=Xx.mp (Uo▸Xx.mpr ⟨c,BD,rfl⟩:oo c∈x.cells.map oo);obtain⟨_,_,vs,hv,_⟩:=D.S.gZ c1 hc1;have el:=Xq Cell.l e;have el:c1.l=c.l:=el;rw[keys,<-el];exact Xx.mpr ⟨_,hv,rfl⟩) (λ c BD=>by
  have e:=XH.mp (ceD▸Xx.mpr ⟨c,BD,rfl⟩:oo c∈[oo ⟨r0,g.ar,0,a⟩]);have el:=Xq Cell.l e;have el:c.l=g.ar:=el;rw[keys,el];exact hn)
 have v3:=Yr (zy x) (show(0:Int)<3 by decide);have v0:zy x=0->((zy x).fmod 3).toNat=0:=λ h=>by rw[h];rfl
 have p5:ġ (nB x4 r5)=ġ x4:=rfl;have Up:=D4.ph;refine⟨⟨D5,Un,Uo,?_,?_,?_,?_,?_⟩,?_⟩
 ·rw[p5];have v4:=(aaR (n:=3) (by decide)).mpr v3;refine ph.2.elim (λ q=>?_) λ q=>?_
  ·have v5:=v0 q;exact ln [_,_,_,_] [] (.c 1 (.v 0) (.v 1) (.c 1 (.v 2) (.a (.v 0) (.m 2 (.v 3))) (.c 2 (.v 3) (.k 0) .e))) 0 (.v 2) (.a (.v 1) (.k 0)) rfl ph.1 Up (XB v5)
  ·exact ln [_,_,_,_] [] (.c 1 (.v 0) (.a (.v 1) (.m 2 (.v 2))) (.c 2 (.a (.v 2) (.k 1)) (.k 3) (.c 1 (.a (.v 1) (.k 7)) (.v 3) .e))) 0 (.v 0) (.a (.v 3) (.k 0)) rfl Up v4 (XB q)
 ·have:=D4.at_;rw[f3]at this;exact YZ (YO (by decide)) this
 ·have:=D4.ru;rw[f3]at this;exact YZ (YO (by decide)) this
 ·unfold ip Ĕ;rw[e1,e3];rfl
 ·unfold nB Ë;rw[e2,f3];rfl
 ·have:=D4.ru;rw[f3]at this;exact this
end
end Mine.Z
namespace Mine.Z
theorem Ã.nd{d:Nat}{b:List S}{L:LV}{h:Hp}{Z:LV->Hp->Prop}(k:((h.E++h.T.flatten).map Prod.fst).Nodup->Ã d b L h Z):Ã d b L h Z:=λ s ρ R W=>k W.1.nd s ρ R W
theorem Į.nd{d:Nat}{r:Rt}{Z:Fl->LV->Hp->Prop}{L:LV}{h:Hp}(k:((h.E++h.T.flatten).map Prod.fst).Nodup->Į d r Z L h):Į d r Z L h:=λ s m ρ W=>k W.1.nd s m ρ W
theorem Done.Di{d:Nat}{r:Rt}{L:LV}{h h':Hp}{fl:Fl}{Z:Fl->LV->Hp->Prop}(P:∀s,Ė s h->Ė s h')(z:Z fl L h')(ix jx:List Nat)(e:vL r ix jx L=vR r (.fin fl h) L):Done d r Z:=λ m H=>by obtain⟨JY,ρ,s,L',U,e1,R,W,rfl,rfl,rfl⟩:=Done.fin (Z:=λ JY L' U=>JY=fl/\L'=L/\U=h) ⟨rfl,rfl,rfl⟩ ix jx e m H;exact⟨_,ρ,s,_,_,e1,R,P s W,z⟩
section
variable{d n k:Nat}{m:Mc}{x:Wd}{F:List Ç}{a v:Int}{l:List Int}{g:bV}{hs gs:List bV}{Ŗ:List V}{ń:List Nat}{r r0 r1 p:Nat}
def OF:List S:=[.asg 270 (.new 253 16 []),.lj (.loc 260) (.const (.str 271)) .add (.const (.int 1)),.asg 171 (.sub (.attr (.loc 169) 151) (.bin .sub (.bi 15 .len [(.attr (.loc 169) 151)]) (.const (.int 1)))),.ou 285 286 (.sub (.tup [(.tup [(.const (.int 0)),(.const (.int 300))]),(.tup [(.const (.int 0)),(.const (.int 0))]),(.tup [(.const (.int 0)),(.const (.int 300))]),(.tup [(.const (.int 3)),(.const (.int 301))])]) (.sub (.sub (.loc 260) (.const (.str 266))) (.loc 261))),.ite (.cmp .ne (.tup [(.attr (.loc 171) 120),(.attr (.loc 171) 44),(.attr (.loc 171) 29)]) (.tup [(.tup [(.sub (.sub (.loc 260) (.const (.str 265))) (.loc 285)),(.loc 286),(.tup [])]),(.list [(.Ñ 268 87 [(.loc 260),(.loc 261)])]),(.glob 239 (.int 5))])) [.ret (some (.const (.bool false)))] [],.expr (.ì (.attr (.loc 169) 118) 0 [(.loc 171)]),.expr (.ì (.sub (.loc 260) (.const (.str 269))) 0 [(.list [(.attr (.loc 171) 44),(.const (.int 0)),(.loc 261)])]),.asg 287 (.Ñ 288 94 [(.loc 260)]),.ite (.cmp .eq (.bin .mod (.bin .fdiv (.loc 287) (.const (.int 3))) (.const (.int 2))) (.const (.int 1))) [.expr (.ì (.attr (.loc 169) 118) 0 [(.new 172 6 [(.bin .add (.const (.int 9000)) (.sub (.loc 260) (.const (.str 271)))),(.tup [(.glob 230 (.int 12)),(.const (.int 400)),(.tup [])]),(.const .none),(.list []),(.glob 289 (.int 0))])])] [],.ite (.not (.Ñ 290 88 [(.loc 260)])) [.ret (some (.const (.bool false)))] [],.Č 191 (.bin .mod (.loc 287) (.const (.int 3))) (some 10) [.ite (.not (.Ñ 291 100 [(.loc 260),(.Ñ 288 94 [(.loc 260)])])) [.ret (some (.const (.bool false)))] []],.mA (.loc 169) 118 (.slice (.attr (.loc 169) 118) none (some 1)),.é (.loc 260) (.const (.str 269)) (.slice (.sub (.loc 260) (.const (.str 269))) none (some 4))]
theorem Dj{E:Ç}(N:((E++(tA m x (gC g::F)).flatten).map Prod.fst).Nodup):g.ar∉(Æ m.q).map (·.1):=by
 have r:=fun(X ZZ9:Ç)=>ZN X ZZ9
 have s:(cR (Æ m.q)++gC g).Sublist (E++(tA m x (gC g::F)).flatten):=((((((Zk (gC g) F.flatten)^(r (bp x.cells) _))^(r (ak x.rows) _))^(r (aj x.slots) _))^(r (gu m.q.hv m.fd (ui m)) _)).append_left (cR (Æ m.q))).trans ((((r (cF m.q.à) _)^(r (cW m.rows) _))^(r (cT m.p.À) _))^(r E _))
 have N2:=N.sublist (s.map Prod.fst);rw[XF]at N2
 have e:∀l:List (Nat×List Int),(cR l).map Prod.fst=l.map (·.1):=λ l=>by
  induction l with
  |nil=>rfl
  |cons a l ih=>exact Xq (a.1::·) ih
 intro h;exact(Yn.mp N2).2.2 _ (e _▸h) g.ar (.tail _ (.head _)) rfl
open Classical in
theorem Fz{E:Ç}{c:Cell}{q:List Int}:Ô ⟨cF gs++(cR (gs.flatMap dJ)++(eW c++E)),cT m.p.À::cW m.rows::cF m.q.à::cR (Æ m.q)::gu m.q.hv m.fd (ui m)::aj x.slots::ak x.rows::bp x.cells::F,n⟩ ⟨E,tA (Fx m Ŗ ń q gs) (ja x r l c) F,n⟩:=by
 refine⟨ę λ a=>?_,rfl⟩;have e1:cF (m.q.à++gs)=cF m.q.à++cF gs:=by unfold cF;rw[XZ]
 have e2:bp (x.cells++[c])=bp x.cells++eW c:=by unfold bp;rw[XZ,List.flatMap_singleton]
 have e3:∀l l':List (Nat×List Int),cR (l++l')=cR l++cR l':=λ l l'=>by unfold cR;rw[XZ]
 have e4:cR (Æ (Fx m Ŗ ń q gs).q)=(cR (m.q.à.flatMap dJ)++cR (gs.flatMap dJ))++cR [(m.q.sc,m.q.ss),(m.q.c 154,[]),(m.q.c 158,[])]:=by show cR ((m.q.à++gs).flatMap dJ++_)=_;rw[XZ,e3,e3];rfl
 have e5:cR (Æ m.q)=cR (m.q.à.flatMap dJ)++cR [(m.q.sc,m.q.ss),(m.q.c 154,[]),(m.q.c 158,[])]:=e3 _ _;show _=List.count a (_++(cT m.p.À::cW m.rows::cF (m.q.à++gs)::cR (Æ (Fx m Ŗ ń q gs).q)::gu m.q.hv m.fd (ui m)::aj x.slots::ak x.rows::bp (x.cells++[c])::F).flatten);rw[e1,e2,e4,e5];simp only[Yj,YE];exact nq [_,_,_,_,_,_,_,_,_,_,_,_,_,_] [] (.a (.a (.v 0) (.a (.v 1) (.a (.v 2) (.v 3)))) (.a (.v 4) (.a (.v 5) (.a (.v 6) (.a (.a (.v 7) (.v 8)) (.a (.v 9) (.a (.v 10) (.a (.v 11) (.a (.v 12) (.v 13)))))))))) (.a (.v 3) (.a (.v 4) (.a (.v 5) (.a (.a (.v 6) (.v 0)) (.a (.a (.a (.v 7) (.v 1)) (.v 8)) (.a (.v 9) (.a (.v 10) (.a (.v 11) (.a (.a (.v 12) (.v 2)) (.v 13)))))))))) rfl
theorem pG{α β:Type}(f:α->List β)(k:Nat)(l:List α):((l.take k).flatMap f).Sublist (l.flatMap f):=by
 have e:l.flatMap f=(l.take k).flatMap f++(l.drop k).flatMap f:=by rw[<-XZ,YN]
 rw[e];exact Zk _ _
theorem zB{A E:Ç}(s:St)(W:Ė s ⟨A++E,tA m x F,n⟩):Ė s ⟨E,tA (ip m k) (nB x r) (A::F),n⟩:=by
 have U:(cR (Æ (ip m k).q)).Sublist (cR (Æ m.q)):=by
  have e3:∀l l':List (Nat×List Int),cR (l++l')=cR l++cR l':=λ l l'=>by unfold cR;rw[XZ]
  unfold Æ;rw[e3,e3];refine List.Sublist.append ?_ (.refl _);have e:m.q.à.flatMap dJ=(m.q.à.take 1).flatMap dJ++(m.q.à.drop 1).flatMap dJ:=by rw[<-XZ,YN]
  rw[e,e3];exact Zk _ _
 refine(uw (A:=A)).own ⟨W.1.sub ?_,W.2⟩;refine ZR ?_ _;exact(ZA (cT m.p.À)).append ((ZA (cW m.rows)).append ((pG RJ 1 m.q.à).append (U.append ((ZA (gu m.q.hv m.fd (ui m))).append ((ZA (aj x.slots)).append ((ZA (ak x.rows)).append ((pG eW 4 x.cells).append (.refl F.flatten))))))))
def wtP(x:Wd)(r:Nat)(l:List Int)(c:Cell):Wd:={x with ŕ:=r,Ì:=l,runs:=x.runs+1,cells:=x.cells++[c]}
def gP(nm:Int)(p:Nat)(Ļ md w:Int):bV:=gW nm p (.tup [.int Ļ,.int md,.tup []]) w
def w_(n:Nat)(nm:Int):bV:=⟨n+4,nm,.tup [.int 12,.int 400,.tup []],n+3,n+5,n+6,n+7,n+8,n+9,n+10,0,[],[]⟩
def uy(m:Mc)(c':V)(p:Nat)(l:List Int)(gs:List bV):Mc:=Fx m (m.q.Ŗ++[c']) (m.q.ń++[p+3]) (l.map (W m.p.À)) gs
def cP(n p:Nat)(a:Int):Cell:=⟨n+2,p+2,0,a⟩
set_option maxHeartbeats 2000000 in
theorem Mz{c':V}{nm o Ļ md w:Int}(D:Gd m x)(wh:Wh m x)(h:ġ x<=250)(hl:x.Ì=a::l)(hc:x.cells.length=4)(hf:m.q.à.length=1)(K:Df (lB x a) o Ļ md)(ew:w=W m.p.À a){Z:LV->Hp->Prop}
  (z:∀m' x' cv n',Turn m x m' x'->Wh m' x'->Z (Dg m x cv) (hA m' x' ([(cv,.inst 16 [])]::F) n')):
  Ã (d+14) OF (Ke m x a) (hA (nE m (m.q.Ŗ++[c']) (m.q.ń++[p+3]) (l.map (W m.p.À))) (vP x r l) (gC (gP nm p Ļ md w)::F) n) Z:=by
 refine Ã.nd λ N=>?_;have hn:(gP nm p Ļ md w).ar∉(Æ m.q).map (·.1):=Dj (m:=nE m (m.q.Ŗ++[c']) (m.q.ń++[p+3]) (l.map (W m.p.À))) N;clear N;have ph:=eU (Xp h (by decide));have S:=D.S;have Dh:=(S.og a (hl▸.head _)).1;have wf:=ĕ S wh (.inr Dh);rw[<-ew]at wf;have so:=kq S Dh;have c1:lB x a<1000:=ZV (S.J9 Dh).2.2 (by decide)
 have e1:Ū ((m.q.ń++[p+3]).map V.ref) ((((m.q.ń++[p+3]).map V.ref).length:Int) - 1)\(.ref (p+3)):=by rw[Xm];refine Ğ (by rw[Xr,Ys];exact li [_] [] .e 0 (.k 0) (.s (.n (.a (.v 0) (.k 1))) (.k 1)) rfl) ?_;rw[Xr,Ys,show(((m.q.ń.length+1:Nat):Int) - 1).toNat=m.q.ń.length by exact Yq (ln [_,_] [] (.i 1 (.n (.v 0)) (.s (.n (.a (.v 1) (.k 1))) (.k 1)) .e) 0 (.v 0) (.v 1) rfl (Xu (Xy (li [_] [] .e 0 (.k 0) (.s (.n (.a (.v 0) (.k 1))) (.k 1)) rfl)))) (ln [_,_] [] (.i 1 (.s (.n (.a (.v 0) (.k 1))) (.k 1)) (.n (.v 1)) .e) 0 (.v 0) (.v 1) rfl (XU _))];exact List.getElem?_concat_length
 have nn:(!((decide (Ļ=Ļ)&&(decide (md=md)&&(true&&true)))&&(((decide ((4:Int)=4)&&(decide (w=w)&&true))&&true)&&(decide ((5:Int)=5)&&true))))=false:=by rw[XI (rfl:Ļ=Ļ),XI (rfl:md=md),XI (rfl:w=w)];rfl
 have c2:(m.q.à.map λ f=>V.ref f.f).length<lim:=by rw[Xm,hf];decide
 have c3:(x.cells.map λ c=>V.ref c.r).length<lim:=by rw[Xm,hc];decide
 have G1:∀hs:List bV,(∀f∈hs,f.as=[]/\f.ls=[])->hs.length<=1->Gs m (gP nm p Ļ md w) hs a:=λ hs U h2=>⟨ew▸rfl,rfl,rfl,U,h2⟩;have OG:=zA (r:=r) hl D.om (by rw[S.run];exact YG _) (cP n p a);obtain⟨x,rfl⟩:=D.Ö;refine Ã.perm uw.symm (Ã.g0 (d:=d) 14 [ë e1,ë so,Õ c1,ë K.nt,ë K.kk,ë wf,eQ nn,Õ c2,fs (λ f:bV=>V.ref f.f) m.q.à (gP nm p Ļ md w),Õ c3,fs (λ c:Cell=>V.ref c.r) x.cells (cP n p a)] 689563438814843205929198749282790089900939052890672749028888792899349591004533280129918386636780431568435338455125906685985 (Done.lV (j:=14) (nv (n:=n+3) (d:=d+13) (x:=wtP (x.Ö m.q.J) r l (cP n p a)) D.om ?_) [35,35,35,35,35,35,35,35,35,35,35,35,35] [] rfl (by kernel_rfl)));by_cases q:((zy (x.Ö m.q.J)).fdiv 3).fmod 2=1
 ·have G:=G1 [w_ n (9000+(x.runs+1))] (λ f hf=>XH.mp hf▸⟨rfl,rfl⟩) (XS 1);have c8:((m.q.à++[gP nm p Ļ md w]).map λ f=>V.ref f.f).length<lim:=by rw[Xm,Xr,hf];exact(by decide:2<lim)
  have e8:Mine.O.list (((m.q.à++[gP nm p Ļ md w]).map λ f=>V.ref f.f)++[.ref (n+4)])=.list ((m.q.à++[gP nm p Ļ md w,w_ n (9000+(x.runs+1))]).map λ f=>V.ref f.f):=by rw[XF,XF,X4];rfl
  have D3:=Mv (r:=r) (r0:=n+2) (Ŗ:=m.q.Ŗ++[c']) (ń:=m.q.ń++[p+3]) D hl Xr Xr hc hf G hn;refine á.g0 [0] [Õ q,Õ c8,fO e8] 188257251831141781398199024101464467879066174972395029549843049541005439189888832239449581291858528669727087999133248927688679007308546048 (Done.o4 (j:=14) (E:=cF [gP nm p Ļ md w,w_ n (9000+(x.runs+1))]++(cR ([gP nm p Ļ md w,w_ n (9000+(x.runs+1))].flatMap dJ)++(eW (cP n p a)++(cS (uy m c' p l [gP nm p Ļ md w,w_ n (9000+(x.runs+1))]).q++(cH m.h (uy m c' p l [gP nm p Ļ md w,w_ n (9000+(x.runs+1))]).p++Ē (ja (x.Ö m.q.J) r l (cP n p a))))))) (s0:=cT m.p.À) (s1:=cW m.rows) (s2:=cF m.q.à) (s3:=cR (Æ m.q)) (s4:=gu m.q.hv m.fd (ui m)) (s5:=aj x.slots) (s6:=ak x.rows) (s7:=bp x.cells) (n:=n+11) (Spec.perm (Fz (m:=m) (x:=x.Ö m.q.J) (Ŗ:=m.q.Ŗ++[c']) (ń:=m.q.ń++[p+3]) (q:=l.map (W m.p.À)) (r:=r) (l:=l) (c:=cP n p a)) (jk (d:=d+11) D3 (Xp OG.1 (Xp h (by decide))) λ r2 n2=>?_)) [24,6,23,23,23,23,23,6,5,4,0,0,15,17,17,17,17,17,17,17,17,17,17,17,17,17,17,17,17,17,17,17,17,17,17,17,17,17,17,2,2,2,2,2,2,2,2,2,2,2,2,2] [1,1,1,1,1,1,1,1] rfl (by kernel_rfl));have D4:=gw D3 r2;have hp:zy (x.Ö m.q.J)=0\/ġ (ja (x.Ö m.q.J) r l (cP n p a))+4<=250:=OG.2.imp id λ e=>by exact ln [_,_] [] (.c 1 (.v 0) (.k 250) (.c 1 (.a (.v 1) (.k 7)) (.v 0) .e)) 0 (.a (.v 1) (.k 4)) (.k 250) rfl h (XB e)
  have c5:(x.cells++[cP n p a]).length=5:=by rw[Xr];exact Xq (·+1) hc
  have af:ż (uy m c' p l [gP nm p Ļ md w,w_ n (9000+(x.runs+1))]).q=true:=by show(m.q.à++[gP nm p Ļ md w,w_ n (9000+(x.runs+1))]).any _=true;rw[List.any_append];exact aav _
  refine á.g0 [8] [] 256 (Done.J0 (j:=14) (L:=BE m (x.Ö m.q.J) n (zy (x.Ö m.q.J))) (kA (n:=n2) (d:=d) (cv:=n) D4.D rfl hp c5 af λ b d4 Sb=>?_) [0,0,0,0,0,0,0,0,0,0,0,0,0,0,0,0,0,0,0,0,0,0,0,0,0,0,0,0,0,0,0,0,0,0,0,0,0,0,0] [1,1,1,1,1,1,1,1] rfl (by kernel_rfl));refine Į.nd λ N4=>?_;have d5:=D4.trans d4;rw[Zg]at d5;have T:=pF D hl hc hf G hn rfl rfl d5 (cX N4);have c6:((Ĕ (uy m c' p l [gP nm p Ļ md w,w_ n (9000+(x.runs+1))]) b.m).q.à.map λ f=>V.ref f.f).length<=lim:=by rw[Xm];exact Xp d4.D.I.nr (by decide)
  have c7:((Ë (kx (ja (x.Ö m.q.J) r l (cP n p a)) r2 (ņ m.p.À)) b.x).cells.map λ c=>V.ref c.r).length<=lim:=by rw[Xm];exact Xp d4.D.cz.2 (by decide)
  have z:=λ cv k r5 n'=>z (ip (Ĕ (uy m c' p l [gP nm p Ļ md w,w_ n (9000+(x.runs+1))]) b.m) k) (nB (Ë (kx (ja (x.Ö m.q.J) r l (cP n p a)) r2 (ņ m.p.À)) b.x) r5) cv n' (T k r5) Sb
  exact Į.g0 [8] [Õ c6,fO (Xq Mine.O.list Zm.symm:Mine.O.list ((b.m.q.à.map λ f=>V.ref f.f).take 1)=.list ((b.m.q.à.take 1).map λ f=>V.ref f.f)),Õ c7,fO (Xq Mine.O.list Zm.symm:Mine.O.list ((b.x.cells.map λ c=>V.ref c.r).take 4)=.list ((b.x.cells.take 4).map λ c=>V.ref c.r))] 568225357155442203781684552335616
   (Done.Di (Z:=ZB Z) (fl:=.next) (L:=Dg m (x.Ö m.q.J) n) (h:=⟨[(n,.inst 16 [])]++(cS (ip (Ĕ (uy m c' p l [gP nm p Ļ md w,w_ n (9000+(x.runs+1))]) b.m) b.n).q++(cH m.h b.m.p++Ē (nB (Ë (kx (ja (x.Ö m.q.J) r l (cP n p a)) r2 (ņ m.p.À)) b.x) (b.n+1)))),tA (Ĕ (uy m c' p l [gP nm p Ļ md w,w_ n (9000+(x.runs+1))]) b.m) (Ë (kx (ja (x.Ö m.q.J) r l (cP n p a)) r2 (ņ m.p.À)) b.x) F,b.n+2⟩) zB (z n b.n (b.n+1) (b.n+2)) [44,2,1,2,2,2,2,2,2,2,2,2,2,2,2,2,2,2,2,2,2,2,2,2,2,2,2,2,2,2,2,2,2,2,2,2,2,2,2,0] [] (by kernel_rfl))
 ·have G:=G1 [] (λ _ h=>Mine.nm h) (Zi _);have D3:=Mv (r:=r) (r0:=n+2) (Ŗ:=m.q.Ŗ++[c']) (ń:=m.q.ń++[p+3]) D hl Xr Xr hc hf G hn;refine á.g0 [0] [į q] 16842752 (Done.o4 (j:=14) (E:=cF [gP nm p Ļ md w]++(cR ([gP nm p Ļ md w].flatMap dJ)++(eW (cP n p a)++(cS (uy m c' p l [gP nm p Ļ md w]).q++(cH m.h (uy m c' p l [gP nm p Ļ md w]).p++Ē (ja (x.Ö m.q.J) r l (cP n p a))))))) (s0:=cT m.p.À) (s1:=cW m.rows) (s2:=cF m.q.à) (s3:=cR (Æ m.q)) (s4:=gu m.q.hv m.fd (ui m)) (s5:=aj x.slots) (s6:=ak x.rows) (s7:=bp x.cells) (n:=n+3) (Spec.perm (Fz (m:=m) (x:=x.Ö m.q.J) (Ŗ:=m.q.Ŗ++[c']) (ń:=m.q.ń++[p+3]) (q:=l.map (W m.p.À)) (r:=r) (l:=l) (c:=cP n p a)) (jk (d:=d+11) D3 (Xp OG.1 (Xp h (by decide))) λ r2 n2=>?_)) [16,16,16,16,16,16,13,15,15,15,15,15,15,15,15,15,15,15,15,15,15,15,15,15,15,15,15,15,15,15,15,15,15,0,0,0,0,0,0,0,0,0,0,0,0,0] [1,1,1,1,1,1,1,1] rfl (by kernel_rfl));have D4:=gw D3 r2;have hp:zy (x.Ö m.q.J)=0\/ġ (ja (x.Ö m.q.J) r l (cP n p a))+4<=250:=OG.2.imp id λ e=>by exact ln [_,_] [] (.c 1 (.v 0) (.k 250) (.c 1 (.a (.v 1) (.k 7)) (.v 0) .e)) 0 (.a (.v 1) (.k 4)) (.k 250) rfl h (XB e)
  have c5:(x.cells++[cP n p a]).length=5:=by rw[Xr];exact Xq (·+1) hc
  have af:ż (uy m c' p l [gP nm p Ļ md w]).q=true:=by show(m.q.à++[gP nm p Ļ md w]).any _=true;rw[List.any_append];exact aav _
  refine á.g0 [8] [] 256 (Done.J0 (j:=14) (L:=BE m (x.Ö m.q.J) n (zy (x.Ö m.q.J))) (kA (n:=n2) (d:=d) (cv:=n) D4.D rfl hp c5 af λ b d4 Sb=>?_) [0,0,0,0,0,0,0,0,0,0,0,0,0,0,0,0,0,0,0,0,0,0,0,0,0,0,0,0,0,0,0,0,0,0,0,0,0,0,0] [1,1,1,1,1,1,1,1] rfl (by kernel_rfl));refine Į.nd λ N4=>?_;have d5:=D4.trans d4;rw[Zg]at d5;have T:=pF D hl hc hf G hn rfl rfl d5 (cX N4);have c6:((Ĕ (uy m c' p l [gP nm p Ļ md w]) b.m).q.à.map λ f=>V.ref f.f).length<=lim:=by rw[Xm];exact Xp d4.D.I.nr (by decide)
  have c7:((Ë (kx (ja (x.Ö m.q.J) r l (cP n p a)) r2 (ņ m.p.À)) b.x).cells.map λ c=>V.ref c.r).length<=lim:=by rw[Xm];exact Xp d4.D.cz.2 (by decide)
  have z:=λ cv k r5 n'=>z (ip (Ĕ (uy m c' p l [gP nm p Ļ md w]) b.m) k) (nB (Ë (kx (ja (x.Ö m.q.J) r l (cP n p a)) r2 (ņ m.p.À)) b.x) r5) cv n' (T k r5) Sb
  exact Į.g0 [8] [Õ c6,fO (Xq Mine.O.list Zm.symm:Mine.O.list ((b.m.q.à.map λ f=>V.ref f.f).take 1)=.list ((b.m.q.à.take 1).map λ f=>V.ref f.f)),Õ c7,fO (Xq Mine.O.list Zm.symm:Mine.O.list ((b.x.cells.map λ c=>V.ref c.r).take 4)=.list ((b.x.cells.take 4).map λ c=>V.ref c.r))] 568225357155442203781684552335616
   (Done.Di (Z:=ZB Z) (fl:=.next) (L:=Dg m (x.Ö m.q.J) n) (h:=⟨[(n,.inst 16 [])]++(cS (ip (Ĕ (uy m c' p l [gP nm p Ļ md w]) b.m) b.n).q++(cH m.h b.m.p++Ē (nB (Ë (kx (ja (x.Ö m.q.J) r l (cP n p a)) r2 (ņ m.p.À)) b.x) (b.n+1)))),tA (Ĕ (uy m c' p l [gP nm p Ļ md w]) b.m) (Ë (kx (ja (x.Ö m.q.J) r l (cP n p a)) r2 (ņ m.p.À)) b.x) F,b.n+2⟩) zB (z n b.n (b.n+1) (b.n+2)) [42,2,1,2,2,2,2,2,2,2,2,2,2,2,2,2,2,2,2,2,2,2,2,2,2,2,2,2,2,2,2,2,2,2,2,2,2,2,2,0] [] (by kernel_rfl))
end
end Mine.Z
namespace Mine.Z
section
variable{d n k:Nat}{m:Mc}{x:Wd}{F:List Ç}{a v:Int}{l:List Int}
structure WD where
 m:Mc
 x:Wd
 G:List Ç
 cv:Nat
 n:Nat
def BF(m:Mc)(x:Wd)(a:WD):LV:=Dg m x a.cv
def Ia(m:Mc)(x:Wd)(F:List Ç)(a:WD):Hp:=hA (Ĕ m a.m) (Ë x a.x) (a.G++F) a.n
structure OH (m:Mc) (x:Wd) (a:WD):Prop where
 dn:Dn m x 0 (Ĕ m a.m) (Ë x a.x)
 wh:Wh (Ĕ m a.m) (Ë x a.x)
 cv:a.cv=m.q.c 1037\/(a.cv,Mine.O.inst 16 [])∈a.G.flatten
def Kf(a:WD):Nat:=(300 - a.x.runs).toNat
theorem Dn.Uq{m1 m2:Mc}{x1 x2:Wd}(a:Dn m x 0 m1 x1)(b:Dn m1 x1 0 m2 x2):Dn m x 0 m2 x2:=a^b
theorem vQ{b:WD}(D:Gd m x)(h:ġ x<=250)(hf:ż m.q=false)(hc:x.cells.length=4)(aD:m.q.à.length=1)(A:OH m x b)(hl:b.x.Ì=a::l):
  Ã (d+14) (OE++OF) (BF m x b) (Ia m x F b) (IZ (λ b'=>OH m x b'/\Kf b'<Kf b) (BF m x) (Ia m x F)):=by
 have dn:=A.dn;have D1:=dn.D;have U:ġ (Ë x b.x)<=250:=Xp dn.ph h;have ha:=D1.S.og a (by show a∈b.x.Ì;rw[hl];exact .head _);have ko:=D1.S.J9 ha.1;obtain⟨o,Ļ,md,K⟩:=R9 ko.2.1 ko.2.2 ha.2
 have B2:∀c' nm n1 r,Ã (d+14) OF (Ke m x a) (hA (nE (Ĕ m b.m) ((Ĕ m b.m).q.Ŗ++[c']) ((Ĕ m b.m).q.ń++[n1+3]) (l.map (W (Ĕ m b.m).p.À))) (vP (Ë x b.x) r l) (gC (gP nm n1 Ļ md (W (Ĕ m b.m).p.À a))::(b.G++F)) (n1+10)) (IZ (λ b'=>OH m x b'/\Kf b'<Kf b) (BF m x) (Ia m x F)):=λ c' nm n1 r=>
  Mz D1 A.wh U hl (dn.cl^hc) (dn.fl^aD) K rfl λ m' x' cv n' T H9=>by
   have d2:=dn.Uq T.dn;have ru:=T.ru;have r1:x'.runs<=250:=by have:=Xp d2.ph h;unfold ġ at this;exact li [_,_,_,_,_,_,_] [_] (.c 1 (.a (.a (.a (.a (.a (.a (.v 0) (.v 1)) (.v 2)) (.v 3)) (.v 4)) (.v 5)) (.m 7 (.v 6))) (.k 250) (.i 1 (.v 0) (.n (.v 5)) .e)) 0 (.v 0) (.k 250) rfl this (XU _)
   have r2:b.x.runs+1<=x'.runs:=ru;have e1:=d2.e1;have e2:=d2.e2;refine⟨⟨m',x',[(cv,.inst 16 [])]::b.G,cv,n'⟩,⟨⟨e1▸e2▸d2,e1▸e2▸H9,.inr (.head _)⟩,?_⟩,rfl,?_⟩
   ·show(300 - x'.runs).toNat<(300 - b.x.runs).toNat;exact ln [_,_] [_,_] (.i 1 (.a (.v 0) (.k 1)) (.v 1) (.i 1 (.n (.v 0)) (.s (.k 300) (.v 1)) (.i 1 (.s (.k 300) (.v 0)) (.n (.v 1)) .e))) 0 (.a (.v 0) (.k 1)) (.v 1) rfl r2 (Xu (Xy (li [] [_] (.i 1 (.v 0) (.k 250) .e) 0 (.k 0) (.s (.k 300) (.v 0)) rfl r1))) (XU _)
   ·show hA (Ĕ m m') (Ë x x') _ n'=hA m' x' _ n';rw[<-e1,<-e2];rfl
 refine Ã.app ?_;rcases A.cv with e|e
 ·have e':BF m x b=Dg (Ĕ m b.m) (Ë x b.x) ((Ĕ m b.m).q.c 1037):=by unfold BF;rw[e];rfl
  rw[e'];exact My D1 U hl (dn.any^hf) K λ c' nm=>B2 c' nm b.n b.n
 ·exact Mx D1 U hl (dn.any^hf) K (by rw[Y3];exact Xo _ e) λ c' nm=>B2 c' nm b.n b.n
theorem zC{G:List Ç}{E:Ç}(s:St)(W:Ė s ⟨E,tA m x (G++F),n⟩):Ė s ⟨E,tA m x F,n⟩:=by
 refine⟨W.1.sub ?_,W.2⟩;refine ZR ?_ _;unfold tA;simp only[Yj,Y3]
 iterate 8 refine ZR ?_ _
 exact ZN _ _
theorem MA{G:List Ç}{c:mR}(h:c∈G.flatten):c∈(tA m x (G++F)).flatten:=by unfold tA;simp only[Yj,XC,Y3];exact .inr (.inr (.inr (.inr (.inr (.inr (.inr (.inr (.inl h))))))))
theorem Dl(D:Gd m x)(wh:Wh m x)(h:ġ x<=250)(hf:ż m.q=false)(hc:x.cells.length=4)(aD:m.q.à.length=1){Z:V->Hp->Prop}(z:∀m' x' n',Dn m x 0 m' x'->Z (.bool true) (hA m' x' F n')):Spec (d+15) 95 [.ref x.rw,.ref (m.q.c 1037)] (hA m x F n) Z:=by
 have c4:¬4<nC x:=by show ¬(4:Int)<((x.cells.map λ c=>V.ref c.r).length:Nat);rw[Xm,hc];decide
 obtain⟨x,rfl⟩:=D.Ö;refine Spec.g0 (d:=d) 14 rfl rfl [į c4] 18529497717298692122 (Done.st (j:=14) (L:=BF m (x.Ö m.q.J) ⟨m,x.Ö m.q.J,[],m.q.c 1037,n⟩) (h:=Ia m (x.Ö m.q.J) F ⟨m,x.Ö m.q.J,[],m.q.c 1037,n⟩) (bu (c:=.cmp .gt (.bi 15 .len [(.sub (.loc 260) (.const (.str 86)))]) (.const (.int 0))) (b:=OE++OF) (a0:=⟨m,x.Ö m.q.J,[],m.q.c 1037,n⟩) (Lf:=BF m (x.Ö m.q.J)) (hf:=Ia m (x.Ö m.q.J) F) (OH m (x.Ö m.q.J)) Kf ⟨Dn.refl D 0,wh,.inl rfl⟩ ?_ ?_) [] [] (by kernel_rfl))
 ·have:=D.S.run;unfold i3 Kf;dsimp only;rw[this];exact Xs (aaB (Int.sub_le_self _ (YG _))) (by decide)
 intro b A;have D1:=A.dn.D;cases hl:b.x.Ì with
 |cons a l=>
  refine .inr ⟨(XI (by rw[hl,Xm,Yi];exact li [_] [] .e 0 (.a (.k 0) (.k 1)) (.n (.a (.v 0) (.k 1))) rfl):decide ((0:Int)<(b.x.Ì.map V.int).length)=true)▸É.g0 (d:=d) 14 [] 587202586 (by kernel_rfl),vQ D h hf hc aD A hl⟩
 |nil=>
  refine .inl ⟨(XY (by rw[hl];decide):decide ((0:Int)<(b.x.Ì.map V.int).length)=false)▸É.g0 (d:=d) 14 [] 587202586 (by kernel_rfl),?_⟩;have f0:=Ű D1.kg;have fa:ż (Ĕ m b.m).q=false:=A.dn.any.trans hf;have c0:(((Ĕ m b.m).p.Ì.map val).length:Int)=0:=by rw[Xm,D1.S.Ì,Xm];show((b.x.Ì.length:Nat):Int)=0;rw[hl];rfl
  rcases A.cv with e|e
  ·have eL:BF m (x.Ö m.q.J) b=Dg (Ĕ m b.m) (Ë (x.Ö m.q.J) b.x) ((Ĕ m b.m).q.c 1037):=by unfold BF;rw[e];rfl
   rw[eL];refine Į.g0 [] [ë f0] 1099528470545 (Done.ā (j:=13) (aW (n:=(NX (lq (xD 14) 14 br.body (i5 (hA m (x.Ö m.q.J) F n) [] [(260,V.ref (x.Ö m.q.J).rw),(270,V.ref (m.q.c 1037))] [į c4] 18529497717298692122) kN kR).core (Dg (Ĕ m b.m) (Ë (x.Ö m.q.J) b.x) ((Ĕ m b.m).q.c 1037)) (ō [] (Ia m (x.Ö m.q.J) F b)) [] [ë f0] 1099528470545).core.hp.n) (d:=d+12) D1.I.nr ?_) [1,1,1,1,1,1,1,1,1,1,1,1,1,1,1,1,1,1,1,1] [3] rfl (by kernel_rfl));exact á.g0 [1] [eQ fa,Õ c0] 2311044726785 (Done.Di (Z:=ZF Z) (L:=[]) (fl:=.ret (.bool true)) (h:=hA (Ĕ m b.m) (Ë (x.Ö m.q.J) b.x) (b.G++F) (b.n+1)) zC (z _ _ (b.n+1) A.dn) [0,0,0,0,0,0,0,0,0,0,0,0,0,0,0,0,0,0,0,0,1,1,1,1,1,1,1,1,1,1,1,1,1,1,1,1,1,1,1] [1,1,0,0,0,0,0,0] (by kernel_rfl))
  ·refine Į.go [] _ (in1 (MA e)) [ë f0] 1099528470720 (Done.ā (j:=13) (aW (n:=(NX (lq (xD 14) 14 br.body (i5 (hA m (x.Ö m.q.J) F n) [] [(260,V.ref (x.Ö m.q.J).rw),(270,V.ref (m.q.c 1037))] [į c4] 18529497717298692122) kN kR).core (BF m (x.Ö m.q.J) b) (ō [] (Ia m (x.Ö m.q.J) F b)) [(b.cv,O.inst 16 [])] [ë f0] 1099528470720).core.hp.n) (d:=d+12) D1.I.nr ?_) [1,1,1,1,1,1,1,1,1,1,1,1,1,1,1,1,1,1,1,1] [3] rfl (by kernel_rfl));exact á.g0 [1] [eQ fa,Õ c0] 2311044726785 (Done.Di (Z:=ZF Z) (L:=[]) (fl:=.ret (.bool true)) (h:=hA (Ĕ m b.m) (Ë (x.Ö m.q.J) b.x) (b.G++F) (b.n+1)) zC (z _ _ (b.n+1) A.dn) [0,0,0,0,0,0,0,0,0,0,0,0,0,0,0,0,0,0,0,0,1,1,1,1,1,1,1,1,1,1,1,1,1,1,1,1,1,1,1] [1,1,0,0,0,0,0,0] (by kernel_rfl))
end
end Mine.Z
namespace Mine.Z
section
variable{d n k:Nat}{m:Mc}{x:Wd}{F:List Ç}{v f:Int}
theorem gx(D:Gd m x)(wh:Wh m x)(h:ġ x<=250)(hf:ż m.q=false)(hc:x.cells.length=4)(aD:m.q.à.length=1)(hk:k=2\/k=0/\(v.fmod 12=5\/v.fmod 12=9)){Z:V->Hp->Prop}(z:∀m' x' n',Dn m x k m' x'->Wh m' x'->Z (.bool true) (hA m' x' F n')):Spec (d+17) 100 [.ref x.rw,.int v] (hA m x F n) Z:=uq (d:=d+3) D wh h hk (λ _=>Dl D wh h hf hc aD) z
def LL(x:Wd):LV:=[(260,.ref x.rw),(321,.bool true)]
theorem MB(D:Gd m x)(h:ġ x<=245)(hf:ż m.q=false)(hc:x.cells.length=4)(aD:m.q.à.length=1){Z:LV->Hp->Prop}(z:∀m' x' n',Dn m x 0 m' x'->Wh m' x'->Z (LL x) (hA m' x' F n')):
  Ã (d+17) [.asg 321 (.Ñ 290 88 [(.loc 260)]),.ite (.cmp .eq (.bin .mod (.loc 307) (.const (.int 2))) (.const (.int 1))) [.asg 321 (.and [(.loc 321),(.Ñ 291 100 [(.loc 260),(.const (.int 5))])])] []] [(260,.ref x.rw),(307,.int f)] (hA m x F n) Z:=by
 refine Ã.g0 17 [] 1 (Done.call (j:=17) (jk (F:=F) (n:=n) (d:=d+14) D (Xp h (by decide)) λ r n2=>?_) [] [] (by kernel_rfl));have dn:=gw D r;by_cases q:f.fmod 2=1
 ·refine á.g0 [] [Õ q] 16777472 (Done.call (j:=17) (gx (v:=5) (F:=F) (n:=n2) (d:=d) (k:=0) dn.D rfl (Xp h (by decide)) hf hc aD (.inr ⟨rfl,.inl rfl⟩) λ m' x' n' H8 H9=>?_) [] [] (by kernel_rfl));exact á.g0 [] [] 0 (Done.fb (z m' x' n' (dn.Uq H8) H9) [] [] (by kernel_rfl))
 ·exact á.g0 [] [į q] 256 (Done.fb (z m _ n2 dn rfl) [] [] (by kernel_rfl))
def FA(m:Mc)(x:Wd)(F:List Ç)(a:WS):Hp:=hA (Ĕ m a.m) (Ë x a.x) F a.n
structure Dk (m:Mc) (x:Wd) (m':Mc) (x':Wd):Prop where
 k:∃k,Dn m x k m' x'
 ph:ġ x'<=245
 wh:Wh m' x'
theorem MC(D:Gd m x)(wh:Wh m x)(h:ġ x<=245)(hf:ż m.q=false)(hc:x.cells.length=4)(aD:m.q.à.length=1){Z:LV->Hp->Prop}(z:∀a:WS,Dk m x (Ĕ m a.m) (Ë x a.x)->Z (LL x) (FA m x F a)):
  Ď (d+17) (.while (.and [(.loc 321),(.cmp .lt (.sub (.loc 260) (.const (.str 79))) (.bi 15 .len [(.sub (.loc 260) (.const (.str 284)))]))]) [.asg 321 (.Ñ 291 100 [(.loc 260),(.Ñ 288 94 [(.loc 260)])])]) (LL x) (hA m x F n) Z:=by
 refine bu (a0:=(⟨m,x,n⟩:WS)) (Lf:=λ _=>LL x) (hf:=FA m x F) (λ a=>Dk m x (Ĕ m a.m) (Ë x a.x)) (λ a=>ji (Ë x a.x)) ⟨⟨0,Dn.refl D 0⟩,h,wh⟩ ?_ ?_
 ·show ji x<i3;unfold ġ at h;unfold i3;exact ln [_,_,_,_,_,_,_] [] (.c 1 (.a (.a (.a (.a (.a (.a (.v 0) (.v 1)) (.v 2)) (.v 3)) (.v 4)) (.v 5)) (.m 7 (.v 6))) (.k 245) .e) 6 (.a (.v 6) (.k 1)) (.k 10000) rfl h
 rintro a ⟨⟨k,dn⟩,ph,w9⟩;by_cases gk:a.x.at_<((x.bW.map V.int).length:Int)
 ·refine .inr ⟨(XI gk)▸É.g0 (d:=d) 17 [] 1945555150693210624 (by kernel_rfl),?_⟩;have nx:=Fy dn.D;have hl:(Ë x a.x).at_<(Ë x a.x).bW.length:=by rw[Xm]at gk;exact gk
  have p7:=nx.2.2 hl;have d2:=dn.trans nx.1;refine Ã.g0 17 [] 1 (Done.lV (j:=17) (nv (n:=(lq (xD 17) 17 [S.asg 321 (E.Ñ 291 100 [E.loc 260,E.Ñ 288 94 [E.loc 260]])] (i5 (FA m x F a) [] (LL x) [] 1) kN kR).core.hp.n) (d:=d+16) dn.D.om ?_) [26,26,26,26,26,26,26,26,26,26,26,26,26] [] rfl (by kernel_rfl));refine á.g0 [0] [] 1 (Done.call (j:=17) (gx (v:=if (Ë x a.x).at_<↑(Ë x a.x).bW.length then (Ë x a.x).bW.getD (Ë x a.x).at_.toNat 0 else 0) (F:=F) (n:=(K_ (lq (xD 17) 17 [S.asg 321 (E.Ñ 291 100 [E.loc 260,E.Ñ 288 94 [E.loc 260]])] (i5 (FA m x F a) [] (LL x) [] 1) kN kR).core (V.int (if (Ë x a.x).at_<↑(Ë x a.x).bW.length then (Ë x a.x).bW.getD (Ë x a.x).at_.toNat 0 else 0)) (ō [0] {E:=Ē {rw:=(Ë x a.x).rw,J:=(Ë x a.x).J,Fe:=(Ë x a.x).Fe,at_:=(Ë x a.x).at_+1,rk:=(Ë x a.x).rk,J4:=(Ë x a.x).J4,J5:=(Ë x a.x).J5,G_:=(Ë x a.x).G_,wZ:=(Ë x a.x).wZ,Ha:=(Ë x a.x).Ha,made:=(Ë x a.x).made,Œ:=(Ë x a.x).Œ,ŕ:=(Ë x a.x).ŕ,Ff:=(Ë x a.x).Ff,jV:=(Ë x a.x).jV,runs:=(Ë x a.x).runs,yG:=(Ë x a.x).yG,bW:=(Ë x a.x).bW,sorts:=(Ë x a.x).sorts,gens:=(Ë x a.x).gens,slots:=(Ë x a.x).slots,live:=(Ë x a.x).live,wh:=(Ë x a.x).wh,fin:=(Ë x a.x).fin,Ì:=(Ë x a.x).Ì,rows:=(Ë x a.x).rows,bP:=(Ë x a.x).bP,cells:=(Ë x a.x).cells},T:=(lq (xD 17) 17 [S.asg 321 (E.Ñ 291 100 [E.loc 260,E.Ñ 288 94 [E.loc 260]])] (i5 (FA m x F a) [] (LL x) [] 1) kN kR).rest [26,26,26,26,26,26,26,26,26,26,26,26,26] [] 0,n:=(lq (xD 17) 17 [S.asg 321 (E.Ñ 291 100 [E.loc 260,E.Ñ 288 94 [E.loc 260]])] (i5 (FA m x F a) [] (LL x) [] 1) kN kR).core.hp.n}) [] [] 1).core.hp.n) (d:=d) (k:=2) d2.D w9 (by exact ln [_,_] [] (.c 1 (.v 0) (.k 245) (.c 1 (.a (.v 1) (.k 7)) (.v 0) .e)) 0 (.v 1) (.k 250) rfl ph (XB p7)) (d2.any^hf) (d2.cl^hc) (d2.fl^aD) (.inl rfl) λ m' x' n' H8 H9=>?_) [13,13,13,13,13,13,13,13,13,13,13,13,13,13,13,13,13,13,13,13,13,13,13,13,13,13,0,0,0,0,0,0,0,0,0,0,0,0,0] [] (by kernel_rfl));have MD:=H8.at_;have Sd:=H8.ph;refine Dn.use (P:=λ m' x'=>Wh m' x'->(uv (Ë x a.x)).at_<=x'.at_->ġ x'<=ġ (uv (Ë x a.x))+2->á _ _ _ (.bool true) (hA m' x' _ n')) (λ m' x' d3 OD MD Sd=>?_) m' x' (d2^H8) H9 MD Sd;refine á.g0 [] [] 0 (Done.dm (⟨m',x',n'⟩:WS) ⟨⟨⟨_,d3⟩,by show ġ (Ë x x')<=245;exact ln [_,_,_] [] (.c 1 (.v 0) (.k 245) (.c 1 (.a (.v 1) (.k 7)) (.v 0) (.c 1 (.v 2) (.a (.v 1) (.k 2)) .e))) 0 (.v 2) (.k 245) rfl ph (XB p7) Sd,OD⟩,?_⟩ [] [] (by kernel_rfl));have h2:a.x.at_+1<=x'.at_:=MD;have h0:0<=a.x.at_:=dn.D.om;have hl:a.x.at_<x.bW.length:=hl;show x.bW.length - x'.at_.toNat<x.bW.length - a.x.at_.toNat;exact Nat.sub_lt_sub_left (by exact ln [_,_] [_] (.i 1 (.a (.v 0) (.k 1)) (.n (.v 0)) (.i 1 (.n (.v 1)) (.v 0) .e)) 0 (.a (.v 1) (.k 1)) (.v 0) rfl hl (Xu (Xy (h0)))) (by exact ln [_,_] [_,_] (.i 1 (.a (.v 0) (.k 1)) (.v 1) (.i 1 (.n (.v 0)) (.v 0) (.i 1 (.v 1) (.n (.v 1)) .e))) 0 (.a (.v 0) (.k 1)) (.v 1) rfl h2 (Xu (Xy (h0))) (XU _))
 ·exact .inl ⟨(XY gk)▸É.g0 (d:=d) 17 [] 1945555150693210624 (by kernel_rfl),z a ⟨⟨k,dn⟩,ph,w9⟩⟩
theorem ME{a:WS}(D:Dk m x (Ĕ m a.m) (Ë x a.x))(hf:ż m.q=false)(hc:x.cells.length=4)(aD:m.q.à.length=1):
  Ó (d+17) (.and [(.loc 321),(.Ñ 291 100 [(.loc 260),(.const (.int 9))]),(.Ñ 291 100 [(.loc 260),(.const (.int 5))]),(.Ñ 291 100 [(.loc 260),(.const (.int 9))])]) (LL x) (FA m x F a) (λ v _=>v=.bool true):=by
 obtain⟨k,dn⟩:=D.k;refine Ó.g0 17 [] 256 (Done.call (j:=17) (gx (v:=9) (F:=F) (n:=(xE (xD 17) 17 (E.and [E.loc 321,E.Ñ 291 100 [E.loc 260,E.const (V.int 9)],E.Ñ 291 100 [E.loc 260,E.const (V.int 5)],E.Ñ 291 100 [E.loc 260,E.const (V.int 9)]]) (i5 (FA m x F a) [] (LL x) [] 256) kR).core.hp.n) (d:=d) (k:=0) dn.D D.wh (Xp D.ph (by decide)) (dn.any^hf) (dn.cl^hc) (dn.fl^aD) (.inr ⟨rfl,.inr rfl⟩) λ m1 x1 n1 d1 w9=>?_) [] [] (by kernel_rfl));have p1:=Xp d1.ph D.ph;refine Dn.use (P:=λ m' x'=>Wh m' x'->ġ x'<=245->á _ _ _ (.bool true) (hA m' x' _ n1)) (λ m1 x1 d1 w9 p1=>?_) m1 x1 (dn^d1) w9 p1;refine á.g0 [] [] 256 (Done.call (j:=17) (gx (v:=5) (F:=F) (n:=n1) (d:=d) (k:=0) d1.D w9 (Xp p1 (by decide)) (d1.any^hf) (d1.cl^hc) (d1.fl^aD) (.inr ⟨rfl,.inl rfl⟩) λ m2 x2 n2 d2 w7=>?_) [] [] (by kernel_rfl));have p2:=Xp d2.ph p1;refine Dn.use (P:=λ m' x'=>Wh m' x'->ġ x'<=245->á _ _ _ (.bool true) (hA m' x' _ n2)) (λ m2 x2 d2 w7 p2=>?_) m2 x2 (d1^d2) w7 p2;refine á.g0 [] [] 256 (Done.call (j:=17) (gx (v:=9) (F:=F) (n:=n2) (d:=d) (k:=0) d2.D w7 (Xp p2 (by decide)) (d2.any^hf) (d2.cl^hc) (d2.fl^aD) (.inr ⟨rfl,.inr rfl⟩) λ m3 x3 n3 d3 OD=>?_) [] [] (by kernel_rfl));exact á.g0 [] [] 0 (Done.fe (h:=hA m3 x3 F n3) rfl [] [] (by kernel_rfl))
end
end Mine.Z
namespace Mine.Z
variable{ρ:Loc}
def FC:List Int:=[7,8,18,0,960,10,3,22,70,15,6,9,4,9,2,9,230,5,44,39,5]
def c0(k:Nat):Nat:=match k with
 |137=>4|38=>5|75=>16|138=>23|4=>24|133=>25|139=>26|140=>27|85=>28|141=>30|119=>31|142=>32|143=>33|144=>34|145=>35|148=>36|149=>37|150=>38|151=>39|152=>40|153=>41|154=>42|155=>43|158=>44|160=>45|162=>46|164=>47|166=>48
 |1033=>49|1034=>50|1035=>51|1036=>52|1037=>53|1038=>54|1039=>55|_=>0
def F0(so:Int)(lo:Nat)(ls:List Int):bV:=⟨60,0,.tup [.int 12,.int 399,.tup []],59,lo,62,63,64,65,66,so,[],ls⟩
def m0(so:Int):Mc:=⟨⟨22,c0,68,.none,[F0 so 67 [0,0,0]],69,[0],[],[],[]⟩,⟨17,18,19,20,21,16,1000,0,251,0,0,[],[],[],[]⟩,[],[]⟩
def x0(nums:List Int):Wd:=⟨82,22,71,0,58,72,73,75,76,77,0,78,79,80,81,0,87,FC++nums,[0],[0],[(74,[])],[],[],[],[],[],[],[⟨83,67,0,0⟩,⟨84,67,1,0⟩,⟨85,67,2,0⟩,⟨86,69,0,0⟩]⟩
def C0:Ç:=[(58,.list [.int 16,.int 17,.int 18,.int 19]),(16,Ca (m0 0).p),(17,.list []),(18,.dict []),(19,.dict []),(20,.list []),(21,.list []),(22,.inst 10 [(137,.ref 4),(38,.ref 5),(75,.ref 16),(138,.ref 23),(4,.ref 24),(133,.ref 25),(139,.ref 26),(140,.ref 27),(85,.ref 28),(118,.ref 29),(141,.ref 30),(119,.ref 31),(142,.ref 32),(143,.ref 33),(144,.ref 34),(145,.ref 35),(146,.int 0),(148,.ref 36),(149,.ref 37),(150,.ref 38),(151,.ref 39),(152,.ref 40),(153,.ref 41),(154,.ref 42),(155,.ref 43),(156,.none),(157,.none),(158,.ref 44),(159,.none),(160,.ref 45),(162,.ref 46),(164,.ref 47),(166,.ref 48)]),(25,Ua),(28,LI),(31,.dict []),(33,.dict []),(35,Ub c0),(36,.list []),(37,.list []),(38,.list []),(39,.list []),(40,.list []),(42,.list []),(43,.list []),(44,.list []),(49,.inst 12 []),(50,.inst 13 []),(51,.inst 14 []),(52,.inst 15 []),(53,.inst 16 []),(54,.inst 17 []),(55,.inst 18 [])]
def Kg:List S:=(cA.body.drop 2).take 6
def sV:Option (Fl×Loc×St)->Option (List (Option V)×Nat×List (Option O))
 |some (.next,ρ,s)=>some ([ρ 306,ρ 307,ρ 169,ρ 265],s.n,C0.map λ p=>s.get p.1)
 |_=>none
def sW(k:Nat):Option (Fl×Loc×St)->Option O
 |some (_,_,s)=>s.get k
 |none=>none
theorem Ib(g:Nat->Option O)(ρ:Loc):sV (Ê G (Ý G fns 60) Kg ρ ⟨4,g⟩)\([ρ 306,ρ 307,some (.ref 22),some (.ref 58)],59,C0.map λ p=>some p.2):=by kernel_rfl
theorem Ic(g:Nat->Option O)(ρ:Loc)(k:Nat):sW (k+59) (Ê G (Ý G fns 60) Kg ρ ⟨4,g⟩)=g (k+59):=by kernel_rfl
theorem MF(g:Nat->Option O)(ρ:Loc):sW 1 (Ê G (Ý G fns 60) Kg ρ ⟨4,g⟩)=g 1:=by kernel_rfl
theorem dk.cons{L:LV}{y:Nat}{v:V}(h:dk ρ L)(e:ρ y\v):dk ρ ((y,v)::L):=λ z w hw=>by
 simp only[lk]at hw;cases q:Nat.beq z y with
 |true=>rw[q]at hw;rw[YM q,e];exact hw
 |false=>rw[q]at hw;exact h z w hw
theorem dk.nil:dk ρ []:=λ _ _ h=>ns h
theorem MG{o:O}{v1 v2:V}{Z:LV->Hp->Prop}(z:Z [(306,v1),(307,v2),(169,.ref 22),(265,.ref 58)] ⟨(1,o)::C0,[],59⟩):Ã 60 Kg [(306,v1),(307,v2)] ⟨[(1,o)],[],4⟩ Z:=by
 rintro⟨n,g⟩ ρ RL ⟨W,hn⟩;obtain rfl:n=4:=hn;have U:=Ib g ρ;have h2:=Ic g ρ;have h3:=MF g ρ;have g1:g 1\o:=W.at_ (1,o) (.head _);generalize hR:Ê G (Ý G fns 60) Kg ρ ⟨4,g⟩=R at U h2 h3
 match R,U,h2,h3 with
 |some (.next,Ð,s),U,h2,h3=>
  have U:=Xn U;have e1:=Xq (·.1) U;have e2:s.n=59:=Xq (·.2.1) U;have e3:(C0.map λ p=>s.get p.1)=C0.map λ p=>some p.2:=Xq (·.2.2) U;simp only[Zs,and_true]at e1;refine⟨Ð,s,_,_,rfl,(((dk.nil.cons e1.2.2.2).cons e1.2.2.1).cons (e1.2.1^(RL 307 v2 rfl))).cons (e1.1^(RL 306 v1 rfl)),⟨⟨λ r hr=>?_,?_,λ p hp=>?_⟩,e2⟩,z⟩
  ·have:=h2 (r - 59);rw[e2]at hr;rw[show r - 59+59=r by exact Yq (ln [_,_] [] (.c 1 (.a (.v 0) (.k 59)) (.v 1) .e) 0 (.a (.v 0) (.k 59)) (.v 1) rfl (XB (Yb (ln [_] [] (.c 1 (.k 59) (.v 0) .e) 0 (.k 59) (.v 0) rfl hr)))) (ln [_,_] [] (.c 1 (.v 0) (.a (.v 1) (.k 59)) .e) 0 (.v 0) (.a (.v 1) (.k 59)) rfl (su _ _))]at this;rw[show s.get r=g r from this];exact W.wf r (show 4<=r by exact ln [_] [] (.c 1 (.k 59) (.v 0) .e) 0 (.k 4) (.v 0) rfl hr)
  ·show(1::C0.map Prod.fst).Nodup;decide
  ·simp only[List.flatten_nil,XQ]at hp;rcases XE.mp hp with rfl|hp
   ·exact h3^g1
   ·exact List.map_inj_left.mp e3 p hp
section
variable{d:Nat}
theorem Ie{l:List Int}(hl:l.length<=63):Ó 60 (.slice (.loc 305) none (some 14)) [(305,.fl l)] ⟨[],[],0⟩ (λ w h'=>w=.ref 0/\h'=⟨[(0,.list ((l.take 14).map .int))],[],1⟩):=λ s ρ R W=>by
 have e:ρ 305\(.fl l):=R 305 _ rfl;have RE:l.length<=lim:=Xp hl (by decide);have n0:s.n=0:=W.2;refine⟨_,s.new (.list ((l.map V.int).take 14)),_,?_,⟨?_,Xq (·+1) n0⟩,rfl,rfl⟩
 ·exact n0▸hH.trans (Ï (s:=s) (v:=.fl l) (map_eq e rfl) (show hG s none (some 14) (.fl l)\(.ref s.n,s.new (.list ((l.map V.int).take 14)))from(show gd ((none:Option Nat)=none) (gd (l.length<=lim) (some (V.ref s.n,s.new (.list ((l.map V.int).take 14)))))=_ from č rfl (č RE rfl))))
 ·have:=W.1.new (o:=.list ((l.map V.int).take 14));rw[n0,<-Zm]at this;rw[<-Zm];exact this
theorem Ig{L:LV}{E:Ç}{T:List Ç}{n:Nat}{a:Int}:É (d+17) (.bin .mod (.loc 69) (.const (.int 99991))) ((69,.int a)::L) ⟨E,T,n⟩ (.int (a.fmod 99991)):=É.g0 17 [] 0 (by kernel_rfl)
theorem MH{l:List Int}(hl:l.length<=63){Z:LV->Hp->Prop}(z:∀(nums:List Int) (f:Int),nums.length<=14->Z [(306,.ref 1),(307,.int f)] ⟨[(1,.list (nums.map .int))],[],4⟩):Ã 60 [.asg 306 (.comp (.bin .mod (.loc 69) (.const (.int 99991))) 69 (.slice (.loc 305) none (some 14)) none []),.asg 307 (.sub (.bin .add (.loc 306) (.list [(.const (.int 0))])) (.const (.int 0)))] [(305,.fl l)] ⟨[],[],0⟩ Z:=by
 have lt:(l.take 14).length<=14:=List.length_take_le _ _;obtain⟨nums,en⟩:∃nums:List Int,nums=(l.take 14).map λ a=>a.fmod 99991:=⟨_,rfl⟩;have nl:nums.length<=14:=by rw[en,Xm];exact lt
 obtain⟨f,hf⟩:∃f,(nums++[0])[0]?\f:=⟨_,Xz (by rw[Xr];exact Y0 _)⟩;have e0:Ū ((nums++[0]).map V.int) 0\(.int f):=Ğ (f:=V.int) (X9 0) hf;have c0:(nums.map V.int).length+[V.int 0].length<=lim:=by rw[Xm];exact Xp (YP nl 1) (by decide)
 refine Ã.g0 (d:=43) 17 [] 0 (Done.ev (j:=17) (L:=[(305,.fl l)]) (h:=⟨[],[],0⟩) (hU (h:=⟨[(0,.list ((l.take 14).map .int))],[],1⟩) (l.take 14) .int (λ _=>true) (λ a=>.int (a.fmod 99991)) (r:=0) (Ie hl) (Xp lt (by decide)) (.head _) (λ _ _=>E_.nil) (λ _ _ _=>Ig (d:=43)) ?_) [] [] (by kernel_rfl));rw[filter_all,show(l.take 14).map (λ a=>V.int (a.fmod 99991))=nums.map .int by rw[en,X5];rfl];exact á.g0 [] [Õ c0,fO (tL (f:=V.int) nums 0),ë e0] 3298568503297 (Done.fb (z nums f nl) [2] [] (by kernel_rfl))
theorem Ih{L:LV}{h:Hp}{Z:V->Hp->Prop}(z:Z (.ref h.n) ⟨(h.n,.list (FC.map .int))::h.E,h.T,h.n+1⟩):Ó d (.comp (.loc 303) 303 (.glob 320 (.tup [(.int 7),(.int 8),(.int 18),(.int 0),(.int 960),(.int 10),(.int 3),(.int 22),(.int 70),(.int 15),(.int 6),(.int 9),(.int 4),(.int 9),(.int 2),(.int 9),(.int 230),(.int 5),(.int 44),(.int 39),(.int 5)])) none []) L h Z:=λ s ρ R W=>by refine⟨.ref s.n,s.new (.list (FC.map .int)),_,by kernel_rfl,⟨?_,Xq (·+1) W.2⟩,by rw[W.2];exact z⟩;have:=W.1.new (o:=.list (FC.map V.int));rw[W.2]at this;exact this
theorem Dm{A B C D E:Ç}{n:Nat}:Ô ⟨A++(B++(C++(D++E))),[],n⟩ ⟨E,[[],[],A,B,[],C,[],D],n⟩:=by refine⟨ę λ a=>?_,rfl⟩;simp only[Yj,YE,List.flatten_nil,List.count_nil];exact nq [_,_,_,_,_] [] (.a (.a (.v 0) (.a (.v 1) (.a (.v 2) (.a (.v 3) (.v 4))))) (.k 0)) (.a (.v 4) (.a (.k 0) (.a (.k 0) (.a (.v 0) (.a (.v 1) (.a (.k 0) (.a (.v 2) (.a (.k 0) (.a (.v 3) (.k 0)))))))))) rfl
theorem MI(f:Int):(f.fdiv 2).fmod 5<1000/\∃so,(so=0\/so=1\/so=2\/so=3\/so=4)/\Ū [.int 0,.int 2,.int 3,.int 4,.int 1] ((f.fdiv 2).fmod 5)\(.int so):=by
 have U:=Yl (f.fdiv 2) (show(0:Int)<5 by decide);have h2:=Yr (f.fdiv 2) (show(0:Int)<5 by decide);generalize (f.fdiv 2).fmod 5=j at*;refine⟨Int.lt_trans h2 (by decide),?_⟩;have:j=0\/j=1\/j=2\/j=3\/j=4:=by exact WZ (U) (h2)
 rcases this with rfl|rfl|rfl|rfl|rfl
 ·exact⟨0,.inl rfl,rfl⟩
 ·exact⟨2,.inr (.inr (.inl rfl)),rfl⟩
 ·exact⟨3,.inr (.inr (.inr (.inl rfl))),rfl⟩
 ·exact⟨4,.inr (.inr (.inr (.inr rfl))),rfl⟩
 ·exact⟨1,.inr (.inl rfl),rfl⟩
def b8:List S:=(cA.body.drop 8).take 6
theorem MJ{nums:List Int}{f:Int}(nl:nums.length<=14){Z:LV->Hp->Prop}(z:∀so,(so=0\/so=1\/so=2\/so=3\/so=4)->Z [(260,.ref 82),(307,.int f)] (hA (m0 so) (x0 nums) [] 88)):Ã 60 b8 [(306,.ref 1),(307,.int f),(169,.ref 22),(265,.ref 58)] ⟨(1,.list (nums.map .int))::C0,[],59⟩ Z:=by
 obtain⟨c1,so,Se,e1⟩:=MI f;have c2:(FC.map V.int).length+(nums.map V.int).length<=lim:=by rw[Xm,Xm];exact Xp (aaq nl 21) (by decide)
 refine Ã.g0 (d:=43) 17 [Õ c1,ë e1] 4107365631774287908041458087724478012479775000645626396496209233721318295304635629231767322387432631143618276292760083368095817527541694464 (Done.JZ (j:=17) (L:=[]) (E:=[(58,.list [.int 16,.int 17,.int 18,.int 19])]) (n:=70) (Ih ?_) [12] [] rfl (by kernel_rfl));exact á.g0 [0] [Õ c2,fO (L_ (f:=V.int) FC nums)] 1547425752612079297429048576 (Done.Ĳ (Z:=ZB Z) (fl:=.next) (L:=[(260,.ref 82),(307,.int f)]) (h:=⟨cF (m0 so).q.à++(cR (Æ (m0 so).q)++(aj (x0 nums).slots++(bp (x0 nums).cells++(cS (m0 so).q++(cH 16 (m0 so).p++Ē (x0 nums)))))),[],88⟩) Dm (z so Se) [28,28,21,25,21,21,19,41,42,13,4,3,2,1,25,14,30,30,30,25,24,27,27,27,25,24,24,24,24,24,24,24,24,24,18,18,18,18,18,18,1,10,11,9,8,7,6,5,4,3,2,1,0] [] (by kernel_rfl))
end
end Mine.Z
namespace Mine.Z
variable{d:Nat}
theorem gd0{nums:List Int}{so:Int}:Gd (m0 so) (x0 nums):=by
 have O:dp (m0 so).p:=⟨λ i x hx=>ns hx,by show 0<300;decide,.nil,λ x hx=>nm hx,λ x hx=>nm hx,rfl,⟨.nil,λ c hc=>nm hc⟩,λ x hx=>nm hx⟩;have pB:Æ (m0 so).q=[(59,[]),(67,[0,0,0]),(62,[]),(66,[]),(65,[]),(69,[0]),(42,[]),(44,[])]:=rfl;have z3:∀a∈([0,0,0]:List Int),a=0:=λ a h=>by simpa using h
 have I:Ka (m0 so):=⟨O,.inl ⟨rfl,rfl⟩,λ r hr=>nm hr,λ z hz=>by
  rw[pB]at hz;simp only[XE,Yh,ZP]at hz;rcases hz with rfl|rfl|rfl|rfl|rfl|rfl|rfl|rfl
  ·exact⟨by decide,λ a h=>nm h⟩
  ·exact⟨by decide,λ a h=>.inl (z3 a h)⟩
  ·exact⟨by decide,λ a h=>nm h⟩
  ·exact⟨by decide,λ a h=>nm h⟩
  ·exact⟨by decide,λ a h=>nm h⟩
  ·exact⟨by decide,λ a h=>.inl (XH.mp h)⟩
  ·exact⟨by decide,λ a h=>nm h⟩
  ·exact⟨by decide,λ a h=>nm h⟩,λ a ha=>nm ha,λ a ha=>nm ha,by show 1<=3;decide,by show 0<1000;decide,by show 0<1000;decide⟩
 have mr:∀z∈[((67:Nat),([0,0,0]:List Int)),(69,[0])],z∈Æ (m0 so).q:=λ z hz=>by
  rcases XE.mp hz with rfl|hz
  ·exact mg 1 rfl
  ·rw[XH.mp hz];exact mg 5 rfl
 have gZ:∀c∈(x0 nums).cells,0<=c.i/\Kn (x0 nums) c.a/\∃vs,(c.l,vs)∈Æ (m0 so).q/\vs[c.i.toNat]?\(W (m0 so).p.À c.a):=by
  intro c hc;simp only[x0,XE,Yh,ZP]at hc;rcases hc with rfl|rfl|rfl|rfl
  ·exact⟨by decide,.inl rfl,[0,0,0],mr _ (.head _),rfl⟩
  ·exact⟨by decide,.inl rfl,[0,0,0],mr _ (.head _),rfl⟩
  ·exact⟨by decide,.inl rfl,[0,0,0],mr _ (.head _),rfl⟩
  ·exact⟨by decide,.inl rfl,[0],mr _ (.tail _ (.head _)),rfl⟩
 refine⟨I,⟨rfl,X9 _,rfl,rfl,rfl,rfl,.nil,λ a ha=>nm ha,λ t ht=>nm ht,λ k hk=>?_,λ q hq=>?_,rfl,λ a ha=>nm ha,rfl,λ a ha=>nm ha,rfl,λ r hr=>nm hr,gZ,λ z hz j hj=>?_,?_,rfl,rfl,rfl⟩,rfl,X9 _,by show 1<=1;decide,by show 4<=4/\4<=5;decide⟩
 ·rw[show k=0 from XH.mp hk];decide
 ·rw[show q=(74,[])from XH.mp hq];exact⟨Zi _,λ _ h=>nm h⟩
 ·rw[pB]at hz;simp only[XE,Yh,ZP]at hz;rcases hz with rfl|rfl|rfl|rfl|rfl|rfl|rfl|rfl
  ·exact absurd hj (YQ _)
  ·have hj:j<3:=hj;have:j=0\/j=1\/j=2:=by exact W4 (hj)
   rcases this with rfl|rfl|rfl
   ·exact⟨⟨83,67,0,0⟩,mg 0 rfl,rfl,rfl⟩
   ·exact⟨⟨84,67,1,0⟩,mg 1 rfl,rfl,rfl⟩
   ·exact⟨⟨85,67,2,0⟩,mg 2 rfl,rfl,rfl⟩
  ·exact absurd hj (YQ _)
  ·exact absurd hj (YQ _)
  ·exact absurd hj (YQ _)
  ·have:j=0:=abd.mp hj;exact⟨⟨86,69,0,0⟩,mg 3 rfl,rfl,by rw[this];rfl⟩
  ·exact absurd hj (YQ _)
  ·exact absurd hj (YQ _)
 ·show List.Pairwise _ [(⟨83,67,0,0⟩:Cell),⟨84,67,1,0⟩,⟨85,67,2,0⟩,⟨86,69,0,0⟩];simp
theorem Ã.one{y:S}{L:LV}{h:Hp}{Z:LV->Hp->Prop}(A:Ď d y L h Z):Ã d [y] L h Z:=λ s ρ R W=>by obtain⟨Ð,s',L',h',e,R',W',z⟩:=A s ρ R W;exact⟨Ð,s',L',h',xQ e,R',W',z⟩
theorem Sg(l:List Int)(hl:l.length<=63):∃s',Ý G fns 61 101 [.fl l] ⟨0,λ _=>none⟩\(.bool true,s'):=by
 have B:Ã 60 (cA.body.take 17) [(305,.fl l)] ⟨[],[],0⟩ (λ L h=>Ó 60 (.and [(.loc 321),(.Ñ 291 100 [(.loc 260),(.const (.int 9))]),(.Ñ 291 100 [(.loc 260),(.const (.int 5))]),(.Ñ 291 100 [(.loc 260),(.const (.int 9))])]) L h λ v _=>v=.bool true):=by
  show Ã 60 (cA.body.take 2++(Kg++(b8++((cA.body.drop 14).take 2++(cA.body.drop 16).take 1)))) _ _ _;refine Ã.app (MH hl λ nums f nl=>Ã.app (MG (Ã.app (MJ nl λ so Se=>?_))));have D:=gd0 (nums:=nums) (so:=so)
  have P:ġ (x0 nums)<=245:=by show 0+0+0+0+0+0+7*((FC++nums).length - 0)<=245;rw[Xr];have:FC.length=21:=rfl;exact ln [_,_,_] [] (.c 7 (.v 0) (.k 14) (.c 7 (.v 1) (.k 21) (.c 7 (.v 2) (.a (.v 1) (.v 0)) .e))) 0 (.a (.a (.a (.a (.a (.a (.k 0) (.k 0)) (.k 0)) (.k 0)) (.k 0)) (.k 0)) (.m 7 (.v 2))) (.k 245) rfl nl (XB this) (aaA _ _)
  have hf:ż (m0 so).q=false:=by show([F0 so 67 [0,0,0]].any λ f=>decide (f.so=5))=false;rcases Se with rfl|rfl|rfl|rfl|rfl<;>rfl
  refine Ã.app (MB (d:=43) D P hf rfl rfl λ m' x' n' d1 w9=>?_);refine Dn.use (P:=λ m' x'=>Wh m' x'->Ã 60 ((cA.body.drop 16).take 1) (LL (x0 nums)) (hA m' x' [] n') _) (λ m1 x1 d1 w9=>?_) m' x' d1 w9;exact Ã.one (MC (d:=43) d1.D w9 (Xp d1.ph P) (d1.any^hf) d1.cl d1.fl λ a A=>ME (d:=43) A (d1.any^hf) d1.cl d1.fl)
 have W0:Ė ⟨0,λ _=>none⟩ ⟨[],[],0⟩:=⟨⟨λ _ _=>rfl,.nil,λ _ h=>nm h⟩,rfl⟩;obtain⟨ċ,s1,L1,U,e1,R1,W1,S1⟩:=B _ (QY.set 305 (.fl l)) (dk.nil.cons rfl) W0;obtain⟨v,s2,h2,e2,W2,rfl⟩:=S1 s1 ċ R1 W1;refine⟨s2,cB (ċ:=ċ) BS rfl ?_⟩;show Ê G (Ý G fns 60) (cA.body.take 17++cA.body.drop 17) _ _=_;exact(kB _ _ _ _ e1)^(jP (hM e2))
end Mine.Z
namespace Mine
noncomputable section
open PySem PySem.W
abbrev PW:Program:=PySem.Challenge.pw_sa0288_01
abbrev lA{α:Type}(l:List α):Array α:=Array.mk l
def bd:List Stmt:=PW.main.body
def Si:Scope:=PW.main.scope
def nM(i:Nat):Str:=((Si.names.drop i).headD (Str.empty,.local)).1
def dcF(n:Nat):Nat->List Nat->List Nat:=Nat.rec (λ _ a=>a) (λ _ f n a=>match n with
 |0=>a
 |n+1=>f ((n+1)/128) ((n+1)%128::a)) n
def Y(n:Nat):Str:=⟨lA (dcF 99 n [])⟩
def ķ(i:Nat):Stmt:=(bd.drop i).headD (.Pass ⟨0,0,0,0⟩)
def Sj(i j:Nat):Stmt:=match ķ i with
 |.ClassDef _ _ _ b _ _ _ _ _ _ _=>(b.drop j).headD (.Pass ⟨0,0,0,0⟩)
 |s=>s
def Ii:Stmt->Str
 |.FunctionDef n _ _ _ _ _ _ _ _ _=>n
 |_=>Str.empty
def zD:Stmt->Arguments
 |.FunctionDef _ a _ _ _ _ _ _ _ _=>a
 |_=>⟨[],[],none,[],[],none,[]⟩
def xb:Stmt->List Stmt
 |.FunctionDef _ _ b _ _ _ _ _ _ _=>b
 |_=>[]
def zE:Stmt->Scope
 |.FunctionDef _ _ _ _ _ _ sc _ _ _=>sc
 |_=>default
def es(P:Params)(s:Str)(t:Nat)(v:Value):DictEntry:=⟨PyData.keyHash P s,.str s t,v⟩
def sNm:Str:=nM 1
def oG(P:Params)(nm:Value)(l:List DictEntry)(ep:Nat):Obj:=⟨.type "dict",none,.dict (lA (es P sNm 165 nm::l)) ep,lA []⟩
def oF(l:List Value):Obj:=⟨.none,none,.fields (lA l),lA []⟩
def jb(l:List Value):Obj:=⟨.type "tuple",none,.seq (lA l) 0,lA []⟩
def cD(n:Str)(bases mro:List Value)(ns:Addr)(subs:List Value):ClassData:={name:=n,bases:=bases,mro:=mro,ns:=ns,qualname:=n,hasDict:=true,slotNames:=[],subclasses:=subs,abstract:=false,collection:=none,hasDel:=false}
def strsFrom:List Str->Nat->List Value
 |[],_=>[]
 |n::r,t=>.str n t::strsFrom r (t+1)
def Ur(st:Stmt)(q:Str):Obj:=⟨.none,none,.func {name:=Ii st,qualname:=q,params:=zD st,body:=.stmts (xb st),scope:=zE st,globals:=0,closure:=[],defaults:=.none,kwdefaults:=.none},lA []⟩
def FD:Str:=Y 0x2fc7b30e9dabf1f5e8bb879
def Us(st:Stmt)(q:Str)(a t fr:Nat)(line zF:Int)(vn cn tm:Value):Obj:=⟨.type "code",none,.fields (lA [.str (Ii st) t,.str q (t+1),.str FD (t+2),.int line 0,.int zF 0,.int 0 0,.int 0 0,.int 3 0,.ref a,.bool true,.int 181 0,.ref (a+1),.none,vn,cn,tm,.int fr 0,.int line 0,.str FD (fr+1)]),lA []⟩
def Ut(st:Stmt)(q:Str)(c:Addr)(md:Value):Obj:=⟨.type "function",none,.func {name:=Ii st,qualname:=q,params:=zD st,body:=.stmts (xb st),scope:=zE st,globals:=3,closure:=[],defaults:=.none,kwdefaults:=.none,doc:=.none,pyModule:=md,annotations:=none,code:=.ref c,closureTuple:=.none,builtins:=0},lA []⟩
def f7(st:Stmt)(q:Str)(a t fr:Nat)(line zF:Int)(md:Value):List Obj:=[jb [],oF [],jb (strsFrom ((localNames (zD st) (zE st) (.stmts (xb st))).getD ([],[])).1 (t+3)),jb [],Ur st q,Us st q a t fr line zF (.ref (a+2)) (.ref (a+3)) (.ref (a+4)),Ut st q (a+5) md]
def f5(st:Stmt)(q:Str)(a t fr:Nat)(line zF:Int)(md:Value):List Obj:=[jb [],oF [],Ur st q,Us st q a t fr line zF .none .none (.ref (a+2)),Ut st q (a+3) md]
def patch(ps:List (Nat×Obj)):Nat->List Obj->List Obj
 |_,[]=>[]
 |i,o::r=>(match ps.find? (λ p=>Nat.beq p.1 i)with|some p=>p.2|none=>o)::patch ps (i+1) r
def OI:List Obj->List Obj×List Obj
 |[]=>([],[])
 |[a]=>([a],[])
 |a::b::r=>(a::(OI r).1,b::(OI r).2)
def Ī:Nat->List Obj->BT
 |0,_=>.nil
 |_+1,[]=>.nil
 |n+1,o::t=>.node o (Ī n (OI t).1) (Ī n (OI t).2)
def lf:Life:={}
def eN:Env:={scope:=Si,locals:=mainNs,globals:=mainNs,cells:=[],code:=.ref 13,frame:=some 14}
abbrev cE:Code:=.body (behindTheImports PW) eN
abbrev FE:List Frame:=[topFrame ⟨0,0,0,0⟩]
abbrev FF:=PySem.W.Fast.tw10110043849684766642 PySem.W.Fast.tw14364793385576792824
def OJ(l:List Stmt)(env:Env)(c:Code)(p:Pos)(B:List Frame):Thread:={cur:=Sem.wrap doneF deadEnd id id (PySem.W.Fast.tw12563942051412417395 l env),code:=c,pos:=p,stack:=B}
def s1:Str:=Y 0x2fc7b30e9dabf1f5e8bb879
def s2:Str:=Y 0xbf7f6e1d3bafdf
def s3:Str:=Y 421105671663583
def Sk:Str:=Y 0xcdcb0edcbcbaeecabb361ebb3a73
def Sl:Str:=Y 0x17eff7cb875f2cb9afdf
def Ij:Str:=Y 0x19b961db97975dd9576bd3bb273
def OK:Str:=Y 240909299
def Uu:Str:=Y 0x19b961db97975dd95773e9bf965
def zG:Str:=Y 0x66e5876e5e5d77655da30eec9b32f3
def pH:Str:=Y 0x3372c3b72f2ebbb2aed1970f0
def Ik:Str:=Y 3535500178163
def Dp:Str:=Y 219771120
def Il:Str:=Y 509787361669619
def dM:Str:=Y 0x19b961db97975dd9576dc5879e5
def pI:Str:=nM 107
def ML:Str:=Y 0x62f37f775db8b2f2
def MM:Str:=Y 0x19b961db97975dd95763c3cb273
def vU:Str:=Y 0x66e5876e5e5d77655d8f7ede1871f4
def Im:Str:=Y 0x66e5876e5e5d77655dbb0f4d3db2f3
def cY:Str:=Y 0x19b961db97975dd9576ec3d33e3
def Dq:Str:=Y 0x6cc3deff3c2c1938717d831
def clN:Stmt->Str
 |.ClassDef n _ _ _ _ _ _ _ _ _ _=>n
 |_=>Str.empty
abbrev Row:=Nat×Nat×Nat
def wd(d:Nat):Nat:=match Nat.beq d 3 with|true=>5|false=>7
def cR(f:Nat->Stmt)(q:Str->Str)(md:Value)(R:List Row):Nat->Nat->Nat->List Obj:=List.rec (λ _ _ _=>[]) (λ r _ k i a t=>
 (match Nat.beq r.1 3 with|true=>f5|false=>f7) (f i) (q (Ii (f i))) a t (t+r.1) (.ofNat r.2.1) (.ofNat r.2.2) md++k (i+1) (a+wd r.1) (t+r.1+3)) R
def gR(P:Params)(f:Nat->Stmt)(R:List Row):Nat->Nat->Nat->List DictEntry:=List.rec (λ _ _ _=>[]) (λ r _ k i a t=>
 es P (Ii (f i)) (t+r.1+2) (.ref (a+wd r.1 - 1))::k (i+1) (a+wd r.1) (t+r.1+3)) R
def pR(c:Nat)(R:List Row):Nat->List Value:=List.rec (λ _=>[]) (λ r _ k a=>
 .int (.ofNat r.2.1) 0::.int (.ofNat c) 0::.ref (a+wd r.1 - 2)::k (a+wd r.1)) R
def aR(R:List Row)(a:Nat):Nat:=R.foldr (λ r n=>wd r.1+n) a
def tR(R:List Row)(a:Nat):Nat:=R.foldr (λ r n=>r.1+3+n) a
def gI(P:Params)(l:List Nat):Nat->Nat->List DictEntry:=List.rec (λ _ _=>[]) (λ v _ k j t=>es P (nM j) t (.int (.ofNat v) (t - 1))::k (j+1) (t+2)) l
def qN(c n:Str):Str:=⟨lA (c.1.1++46::n.1.1)⟩
def bO(s:String)(l:List Value):Obj:=⟨.type s,none,.fields (lA l),lA []⟩
def dO(l:List DictEntry)(n:Nat):Obj:=⟨.type "dict",none,.dict (lA l) n,lA []⟩
def G0(a b:Nat)(md:Value):Obj:=⟨.type "frame",none,.plain,lA [some (.ref a),some (.ref 3),some (.ref b),none,some md,none,some (.ref 0)]⟩
def kO(n:Str)(l t a:Nat):Obj:=bO "code" [.str n t,.str n (t+1),.str s1 (t+2),.int (.ofNat l) 0,.int 0 0,.int 0 0,.int 0 0,.int 0 0,.ref a,.bool false,.int 181 0,.ref (a+1),.none,.none,.none,.none,.int (.ofNat (t+3)) 0,.int (.ofNat l) 0,.str s1 (t+4)]
def gs1(a t:Nat):Obj:=bO "getset_descriptor" [.str (Y 0xbf7f269c7d2fdf) t,.ref a,.builtin "function.__dict__",.builtin "function.__dict__#set"]
def Uv(a t:Nat):Obj:=bO "getset_descriptor" [.str Sl t,.ref a,.builtin "ExceptionGroup.__weakref__",.none]
def Sm(n:Str)(bt:List Value)(b m:List Value)(w:String)(A T m1:Nat)(sub:List Value):Obj:=⟨.type "type",none,.cls (cD n b (.ref (m1+1)::m) m1 sub),lA [match bt with|[]=>none|_=>some (.ref A),none,some (.str n T),some (.str n (T+8)),some (.builtin w),some (.bool true)]⟩
def Dr(bt b m:List Value)(w:String)(k:Nat)(P:Params)(i A T l:Nat)(md:Value)(R:List Row)(at':List Str):List Obj:=
 let n:=clN (ķ i);let m1:=aR R (A+7);let u:=tR R (T+12);let v:=u+at'.length;let o:=es P (Y 0x2fdfdbbf275d996fdf) (T+7) md;let e:=es P (Y 0x17efe6d3cb9f4d9a7765ddbefdf) (T+11) (.int (.ofNat l) (T+10))::gR P (Sj i) R 0 (A+7) (T+12)++[es P (Y 0x5fbfcfa61e9a71dfc3d3a72d38baf4cbcefdf) v (.ref m1)]
 [jb bt,bO "builtin_function_or_method" [.builtin "type.__prepare__",.type "type"],dO (o::es P (Y 0xbf7f8f5c3b3761db96fdf) (T+9) (.str n (T+8))::e) (R.length+4),jb [],oF (pR 4 R (A+7)),kO n l (T+2) (A+3),G0 (A+5) (A+2) md]++cR (Sj i) (qN n) md R 0 (A+7) (T+12)++
 [jb (strsFrom at' u),dO (o::e++(match k with
   |0=>[es P s3 (v+1) .none]
   |1=>[es P Sl (v+2) (.ref (m1+3)),es P s3 (v+3) .none]
   |_=>[es P (Y 0xbf7f269c7d2fdf) (v+2) (.ref (m1+3)),es P Sl (v+4) (.ref (m1+4)),es P s3 (v+5) .none])) (k+2),
  Sm n bt b m w A T (m1+1) []]++(match k with
   |0=>[]
   |1=>[Uv (m1+2) (v+1)]
   |_=>[gs1 (m1+2) (v+1),Uv (m1+2) (v+3)])++
 [bO "super" [.ref (m1+2),.ref (m1+2),.ref (m1+2)],bO "builtin_function_or_method" [.builtin "object.__init_subclass__",.ref (m1+2)]]
def ir:=Dr [] [.type "object"] [.type "object"] "object.__new__" 2
def pJ(b:Nat):=Dr [.ref b] [.ref b] [.ref b,.type "object"] "object.__new__" 0
def rS:List Nat->List Value:=List.map .ref
def vO(n:Str)(m T:Nat)(l:List Nat):Obj:=Sm n [] [.type "object"] [.type "object"] "object.__new__" 0 T m (rS l)
def Sn:List Obj:=[⟨(.type "code"),none,.fields (lA [(.str (Y 0x79b77e4ebb32be) 182),(.str (Y 0x79b77e4ebb32be) 183),(.str s1 184),(.int 1 0),(.int 0 0),(.int 0 0),(.int 0 0),(.int 0 0),(.ref 11),(.bool false),(.int 181 0),(.ref 12),.none,.none,.none,.none,(.int 185 0),(.int 1 0),(.str s1 186)]),lA []⟩,⟨(.type "frame"),none,.plain,lA [(some (.ref 13)),(some (.ref 3)),(some (.ref 3)),none,(some (.str s2 164)),none,(some (.ref 0))]⟩]
def gB(P:Params):List DictEntry:=[es P s3 166 .none,es P (Y 0x17eff0c38f5e1cf96fdf) 167 .none,es P (Y 0x2fdfd9bf0e4cbcafdf) 168 (.builtin "__main__.__loader__#opaque"),es P (Y 0xbf7f9f0cb8efdf) 169 .none,es P (Y 0x17efe1ddbb7f4c3d34efddcefdf) 170 (.ref 6),es P (Y 0xbf7f175d3b3a69ddcefdf) 171 (.ref 4),es P (Y 0xbf7f369d996fdf) 173 (.str s1 172),es P (Y 0x2fdfc7871e8cb92fdf) 174 .none]
def Uw(P:Params)(o:Obj)(nm:Value)(g:List DictEntry)(e:Nat)(o1:Obj)(p:List Value)(c:List Obj):List Obj:=[boot_o_0 P,boot_o_1 P,o,oG P nm g e,boot_o_4 P,boot_o_5 P,boot_o_6 P,boot_o_7 P,boot_o_8 P,boot_o_9 P,boot_o_10 P,o1,oF p]++Sn++c
def eE(P:Params)(nm:Value)(g:List DictEntry)(e:Nat)(p:List Value)(c:List Obj):List Obj:=Uw P ⟨.none,none,.dict (lA [es P (Y 0x1d3cf0cabafdfe7d7163d9879f3cbcefdf5d17c63cbc3a69dfb9730) 225 (.int 38 0),es P (Y 0x1d3cf0cabafdfe7d7163d9879f3cbcefdf5d17c63cbc3a69dfb976e) 226 (.int 1 0)]) 2,lA []⟩ nm g e (jb []) p c
abbrev qS(w:World)(n:Nat)(T:Params->BT)(a t:Nat)(b:List Stmt)(p:Pos)(T':Params->BT)(a' t':Nat)(p':Pos):Prop:=(λ os=>FF PW w 11 (some (.ref 6)) 1 n ⟨T (w).params,a,lf,lA [],boot_drawn,t,os⟩ (OJ b eN cE p FE))=λ os=>some (.next,⟨T' (w).params,a',lf,lA [],boot_drawn,t',os⟩,cE,p')
def L0(P:Params):List Obj:=Uw P ⟨.none,none,.dict (lA []) 0,lA []⟩ (.str s2 164) (gB P) 9 ⟨(.type "tuple"),none,.seq (lA []) 0,lA []⟩ [] []
def T0(P:Params):BT:=Ī 12 (L0 P)
def Io:List Row:=[(4,1,1)]
def g1(P:Params):List DictEntry:=gR P ķ Io 0 15 187++[es P (nM 2) 197 (.int 2 196),es P (nM 3) 228 (.ref 38)]
def p1:List Value:=pR 0 Io 15++[.int 6 0,.int 0 0,.ref 27]
def c1(P:Params):List Obj:=cR ķ id (.str s2 164) Io 0 15 187++
 Dr [.type "Exception"] [.type "Exception"] [.type "Exception",.type "BaseException",.type "object"] "Exception.__new__" 1 P 3 22 198 6 (.str Sk 194) [(6,8,3)] [(Y 12532),(Y 209449573)]
def G1(P:Params):=gB P++g1 P
def P1:=p1
def C1(P:Params):=c1 P
def L1(P:Params):List Obj:=eE P (.str Sk 194) (G1 P) 12 P1 (C1 P)
def T1(P:Params):BT:=Ī 12 (L1 P)
def b1:List Stmt:=(bd.drop 0).take 4
theorem q1(w:World):qS w 278 T0 15 187 b1 ⟨0,0,0,0⟩ T1 42 229 ⟨6,0,10,20⟩:=by kernel_rfl
def g2(P:Params):List DictEntry:=[es P (nM 5) 244 (.ref 51)]++gI P [0,1,2,3,4,5,6,7,8,9,10,11,12,13,14,16,1,2,3,4,5,6] 6 248
def p2:List Value:=[.int 11 0,.int 0 0,.ref 47]
def c2(P:Params):List Obj:=Dr [.ref 38] [.ref 38] [.ref 38,.type "Exception",.type "BaseException",.type "object"] "Exception.__new__" 0 P 4 42 229 11 (.str Sk 194) [] []
def ĉ:Obj:=Sm (nM 3) [(.type "Exception")] [(.type "Exception")] [(.type "Exception"),(.type "BaseException"),(.type "object")] "Exception.__new__" 22 198 37 (rS [51])
def G2(P:Params):=G1 P++g2 P
def P2:=P1++p2
def C2(P:Params):=C1 P++c2 P
def L2(P:Params):List Obj:=patch [(38,ĉ)] 0 (eE P (.str Ij 245) (G2 P) 35 P2 (C2 P))
def T2(P:Params):BT:=Ī 12 (L2 P)
def b2:List Stmt:=(bd.drop 4).take 24
theorem q2(w:World):qS w 421 T1 42 229 b2 ⟨6,0,10,20⟩ T2 54 291 ⟨35,0,35,5⟩:=by kernel_rfl
def g3(P:Params):List DictEntry:=gI P [7,8,9,10,11,24,4096] 28 292
def G3(P:Params):=G2 P++g3 P
def L3(P:Params):List Obj:=patch [(38,ĉ)] 0 (eE P (.str Ij 245) (G3 P) 42 P2 (C2 P))
def T3(P:Params):BT:=Ī 12 (L3 P)
def b3:List Stmt:=(bd.drop 28).take 7
theorem q3(w:World):qS w 64 T2 54 291 b3 ⟨35,0,35,5⟩ T3 54 305 ⟨42,0,42,13⟩:=by kernel_rfl
def g4(P:Params):List DictEntry:=[es P (nM 35) 333 (.ref 54)]
def c4(P:Params):List Obj:=[dO [⟨20,(.int 20 305),(.int 0 247)⟩,⟨9,(.int 9 306),(.int 1 249)⟩,⟨10,(.int 10 307),(.int 2 251)⟩,⟨11,(.int 11 308),(.int 3 253)⟩,⟨12,(.int 12 309),(.int 4 255)⟩,⟨13,(.int 13 310),(.int 5 257)⟩,⟨14,(.int 14 311),(.int 6 259)⟩,⟨15,(.int 15 312),(.int 7 261)⟩,⟨16,(.int 16 313),(.int 8 263)⟩,⟨17,(.int 17 314),(.int 9 265)⟩,⟨18,(.int 18 315),(.int 10 267)⟩,⟨19,(.int 19 316),(.int 11 269)⟩,⟨1,(.int 1 317),(.int 12 271)⟩,⟨4,(.int 4 318),(.int 13 273)⟩] 14]
def G4(P:Params):=G3 P++g4 P
def C4(P:Params):=C2 P++c4 P
def L4(P:Params):List Obj:=patch [(38,ĉ)] 0 (eE P (.str Ij 245) (G4 P) 43 P2 (C4 P))
def T4(P:Params):BT:=Ī 12 (L4 P)
def b4:List Stmt:=(bd.drop 35).take 1
theorem q4f(w:World):qS (w.withFollow "special-get-raises" false) 207 T3 54 305 b4 ⟨42,0,42,13⟩ T4 55 334 ⟨43,0,43,8⟩:=by kernel_rfl
theorem q4t(w:World):qS (w.withFollow "special-get-raises" true) 207 T3 54 305 b4 ⟨42,0,42,13⟩ T4 55 334 ⟨43,0,43,8⟩:=by kernel_rfl
theorem q4(w:World):qS w 207 T3 54 305 b4 ⟨42,0,42,13⟩ T4 55 334 ⟨43,0,43,8⟩:=byRow2 "special-get-raises" (P:=λ w=>qS w 207 T3 54 305 b4 ⟨42,0,42,13⟩ T4 55 334 ⟨43,0,43,8⟩) q4f q4t w
def Ip:List Row:=[(5,93,1),(4,102,1),(4,106,1),(7,112,2)]
def g5(P:Params):List DictEntry:=[es P (nM 36) 390 (.ref 85)]++gR P ķ Ip 37 90 391
def p5:List Value:=[.int 44 0,.int 0 0,.ref 60]++pR 0 Ip 90
def c5(P:Params):List Obj:=ir P 36 55 334 44 (.str Ij 245) [(6,46,1),(5,60,2),(12,65,2)] [(Y 3463322612851),(Y 28418061048),(Y 30032885619),OK,(Y 526866271844979)]++
 cR ķ id (.str Ij 245) Ip 37 90 391
def G5(P:Params):=G4 P++g5 P
def P5:=P2++p5
def C5(P:Params):=C4 P++c5 P
def L5(P:Params):List Obj:=patch [(38,ĉ)] 0 (eE P (.str Ij 245) (G5 P) 48 P5 (C5 P))
def T5(P:Params):BT:=Ī 12 (L5 P)
def b5:List Stmt:=(bd.drop 36).take 5
theorem q5(w:World):qS w 419 T4 55 334 b5 ⟨43,0,43,8⟩ T5 118 423 ⟨112,0,133,38⟩:=by kernel_rfl
def Iq:List Row:=[(5,134,2),(6,138,2),(6,142,2),(5,147,2),(6,151,2)]
def g6(P:Params):List DictEntry:=gR P ķ Iq 41 118 423++[es P (nM 46) 467 (.int 6 466)]++gI P [31,32] 47 471++[es P (nM 49) 507 (.ref 169)]
def p6:List Value:=pR 0 Iq 118++[.int 158 0,.int 0 0,.ref 158]
def c6(P:Params):List Obj:=cR ķ id (.str Ij 245) Iq 41 118 423++
 ir P 50 153 474 158 (.str Uu 468) [(4,160,1)] [(Y 205321971),(Y 27344583033),(Y 452235856787935),(Y 13812),(Y 482888761733747),(Y 29733122803),(Y 31394116339)]
def G6(P:Params):=G5 P++g6 P
def P6:=P5++p6
def C6(P:Params):=C5 P++c6 P
def L6(P:Params):List Obj:=patch [(38,ĉ)] 0 (eE P (.str Uu 468) (G6 P) 57 P6 (C6 P))
def T6(P:Params):BT:=Ī 12 (L6 P)
def b6:List Stmt:=(bd.drop 41).take 10
theorem q6(w:World):qS w 417 T5 118 423 b6 ⟨112,0,133,38⟩ T6 174 508 ⟨158,0,167,22⟩:=by kernel_rfl
def Ir:List Row:=[(8,175,1),(6,194,3),(7,198,3),(11,205,3)]
def g7(P:Params):List DictEntry:=gI P [1,4,5,6] 50 511++[es P (nM 54) 520 (.ref 174),es P (nM 55) 522 (.int 3 521)]++gR P ķ Ir 58 175 523++gI P [1,2,3,0,1,2] 60 570
def p7:List Value:=pR 0 Ir 175
def c7(P:Params):List Obj:=[jb [(.int 4 518),(.int 0 519)]]++
 cR ķ id (.str (Y 0xcdcb0edcbcbaeecabbb61d9d72f3) 508) Ir 58 175 523
def G7(P:Params):=G6 P++g7 P
def P7:=P6++p7
def C7(P:Params):=C6 P++c7 P
def L7(P:Params):List Obj:=patch [(38,ĉ)] 0 (eE P (.str zG 567) (G7 P) 73 P7 (C7 P))
def T7(P:Params):BT:=Ī 12 (L7 P)
def b7:List Stmt:=(bd.drop 51).take 18
theorem q7(w:World):qS w 262 T6 174 508 b7 ⟨158,0,167,22⟩ T7 203 581 ⟨228,0,228,9⟩:=by kernel_rfl
def It:List Row:=[(6,233,3),(6,236,2),(6,243,1),(8,249,4),(10,252,5),(6,259,2)]
def g8(P:Params):List DictEntry:=[es P (nM 66) 608 (.ref 219)]++gR P ķ It 70 224 609
def p8:List Value:=[.int 229 0,.int 0 0,.ref 208]++pR 0 It 224
def c8(P:Params):List Obj:=ir P 69 203 581 229 (.str zG 567) [(4,231,1)] [OK]++
 cR ķ id (.str zG 567) It 70 224 609
def G8(P:Params):=G7 P++g8 P
def P8:=P7++p8
def C8(P:Params):=C7 P++c8 P
def L8(P:Params):List Obj:=patch [(38,ĉ)] 0 (eE P (.str zG 567) (G8 P) 80 P8 (C8 P))
def T8(P:Params):BT:=Ī 12 (L8 P)
def b8:List Stmt:=(bd.drop 69).take 7
theorem q8(w:World):qS w 414 T7 203 581 b8 ⟨228,0,228,9⟩ T8 266 669 ⟨259,0,262,48⟩:=by kernel_rfl
def Iu:List Row:=[(9,263,3),(5,274,2),(9,276,2),(5,287,2),(4,289,1)]
def Iv:List Row:=[(4,298,1)]
def g9(P:Params):List DictEntry:=gR P ķ Iu 76 266 669++gI P [16,2,3,2] 78 719++gR P ķ Iv 86 301 726
def p9:List Value:=pR 0 Iu 266++pR 0 Iv 301
def c9(P:Params):List Obj:=cR ķ id (.str zG 567) Iu 76 266 669++
 cR ķ id (.str pH 716) Iv 86 301 726
def G9(P:Params):=G8 P++g9 P
def P9:=P8++p9
def C9(P:Params):=C8 P++c9 P
def L9(P:Params):List Obj:=patch [(38,ĉ)] 0 (eE P (.str pH 716) (G9 P) 90 P9 (C9 P))
def T9(P:Params):BT:=Ī 12 (L9 P)
def b9:List Stmt:=(bd.drop 76).take 11
theorem q9(w:World):qS w 232 T8 266 669 b9 ⟨259,0,262,48⟩ T9 308 733 ⟨298,0,301,29⟩:=by kernel_rfl
def g10(P:Params):List DictEntry:=[es P (nM 83) 768 (.ref 324)]
def p10:List Value:=[.int 302 0,.int 0 0,.ref 313]
def OL(P:Params):List Obj:=ir P 87 308 733 302 (.str pH 716) [(7,304,4)] [(Y 205075058),(Y 1700590),(Y 226129764),(Y 3978722701548),(Y 242908517),(Y 31098403443)]
def Ux(P:Params):=G9 P++g10 P
def Uy:=P9++p10
def Uz(P:Params):=C9 P++OL P
def L10(P:Params):List Obj:=patch [(38,ĉ)] 0 (eE P (.str pH 716) (Ux P) 91 Uy (Uz P))
def UA(P:Params):BT:=Ī 12 (L10 P)
def UB:List Stmt:=(bd.drop 87).take 1
theorem q10(w:World):qS w 230 T9 308 733 UB ⟨298,0,301,29⟩ UA 329 769 ⟨302,0,310,23⟩:=by kernel_rfl
def zH:List Row:=[(7,326,3),(4,335,1),(5,337,2),(10,341,2),(5,359,2),(5,361,1)]
def g11(P:Params):List DictEntry:=[es P (nM 84) 809 (.ref 345)]++gR P ķ zH 89 350 810
def p11:List Value:=[.int 311 0,.int 0 0,.ref 334]++pR 0 zH 350
def Iw(P:Params):List Obj:=ir P 88 329 769 311 (.str pH 716) [(6,313,3)] [(Y 12532),(Y 0x63c3cb25fc5a7a73),(Y 26780414579),(Y 3533111326323),(Y 27621161448),(Y 29213029620),(Y 230191717),(Y 29494194916),(Y 30815056505),(Y 4013868954611),(Y 1914864),(Y 0x1e77f5dd9efecd3b74f4)]++
 cR ķ id (.str pH 716) zH 89 350 810
def UC(P:Params):=Ux P++g11 P
def UD:=Uy++p11
def UE(P:Params):=Uz P++Iw P
def L11(P:Params):List Obj:=patch [(38,ĉ)] 0 (eE P (.str pH 716) (UC P) 98 UD (UE P))
def UG(P:Params):BT:=Ī 12 (L11 P)
def UH:List Stmt:=(bd.drop 88).take 7
theorem q11(w:World):qS w 421 UA 329 769 UH ⟨302,0,310,23⟩ UG 392 864 ⟨361,0,367,16⟩:=by kernel_rfl
def zI:List Row:=[(5,368,2),(7,370,4)]
def g12(P:Params):List DictEntry:=gR P ķ zI 95 392 864++[es P (nM 93) 916 (.ref 422),es P (nM 94) 921 (.int (-2) 920)]++gI P [0,3,0,1,2,3,4,5] 95 923++[es P (nM 103) 940 (.int (-1) 939),es P (nM 104) 943 (.int (-2) 942)]
def p12:List Value:=pR 0 zI 392++[.int 375 0,.int 0 0,.ref 411]
def So(P:Params):List Obj:=cR ķ id (.str pH 716) zI 95 392 864++
 ir P 98 406 884 375 (.str (Y 0xcdcb0edcbcbaeecabb86cc38f2f3) 882) [(7,377,4)] [Ik,Dp,Il]
def UI(P:Params):=UC P++g12 P
def UJ:=UD++p12
def UK(P:Params):=UE P++So P
def L12(P:Params):List Obj:=patch [(38,ĉ)] 0 (eE P (.str dM 917) (UI P) 112 UJ (UK P))
def UL(P:Params):BT:=Ī 12 (L12 P)
def UM:List Stmt:=(bd.drop 95).take 16
theorem q12(w:World):qS w 421 UG 392 864 UM ⟨361,0,367,16⟩ UL 427 944 ⟨392,0,392,7⟩:=by kernel_rfl
def g13(P:Params):List DictEntry:=[es P (nM 105) 946 (.ref 427),es P (nM 106) 993 (.ref 444)]
def p13:List Value:=[.int 394 0,.int 0 0,.ref 433]
def c13(P:Params):List Obj:=[jb [(.int 0 944),(.int 0 945)]]++
 ir P 112 428 947 394 (.str dM 917) [(9,396,6)] [(Y 205304819),(Y 207352441),(Y 3427899405428),(Y 438771123894902),(Y 26809711219),(Y 27365554529),(Y 219936485),(Y 13552),(Y 226063088),(Y 478829734476255),(Y 230470374),(Y 3811208377074),(Y 3879105836280),(Y 243005812),(Y 31114949099)]
def UN(P:Params):=UI P++g13 P
def UO:=UJ++p13
def UP(P:Params):=UK P++c13 P
def L13(P:Params):List Obj:=patch [(38,ĉ)] 0 (eE P (.str dM 917) (UN P) 114 UO (UP P))
def UQ(P:Params):BT:=Ī 12 (L13 P)
def UR:List Stmt:=(bd.drop 111).take 2
theorem q13(w:World):qS w 253 UL 427 944 UR ⟨392,0,392,7⟩ UQ 449 994 ⟨394,0,411,24⟩:=by kernel_rfl
def g14(P:Params):List DictEntry:=[es P pI 1023 (.ref 465)]
def p14:List Value:=[.int 412 0,.int 0 0,.ref 454]
def c14(P:Params):List Obj:=ir P 113 449 994 412 (.str dM 917) [(7,414,4)] []
def US(P:Params):=UN P++g14 P
def UT:=UO++p14
def UU(P:Params):=UP P++c14 P
def L14(P:Params):List Obj:=patch [(38,ĉ)] 0 (eE P (.str dM 917) (US P) 115 UT (UU P))
def UW(P:Params):BT:=Ī 12 (L14 P)
def UX:List Stmt:=(bd.drop 113).take 1
theorem q14(w:World):qS w 224 UQ 449 994 UX ⟨394,0,411,24⟩ UW 470 1024 ⟨412,0,415,22⟩:=by kernel_rfl
def g15(P:Params):List DictEntry:=[es P (nM 108) 1072 (.ref 500)]
def p15:List Value:=[.int 416 0,.int 0 0,.ref 475]
def c15(P:Params):List Obj:=ir P 114 470 1024 416 (.str dM 917) [(7,418,4),(6,421,3),(7,424,4)] []
def UY(P:Params):=US P++g15 P
def UZ:=UT++p15
def U0(P:Params):=UU P++c15 P
def L15(P:Params):List Obj:=patch [(38,ĉ)] 0 (eE P (.str dM 917) (UY P) 116 UZ (U0 P))
def U1(P:Params):BT:=Ī 12 (L15 P)
def U2:List Stmt:=(bd.drop 114).take 1
theorem q15(w:World):qS w 291 UW 470 1024 U2 ⟨412,0,415,22⟩ U1 505 1073 ⟨416,0,425,16⟩:=by kernel_rfl
def g16(P:Params):List DictEntry:=[es P (nM 109) 1100 (.ref 521)]
def p16:List Value:=[.int 426 0,.int 0 0,.ref 510]
def c16(P:Params):List Obj:=ir P 115 505 1073 426 (.str dM 917) [(5,428,2)] []
def U3(P:Params):=UY P++g16 P
def U4:=UZ++p16
def U5(P:Params):=U0 P++c16 P
def L16(P:Params):List Obj:=patch [(38,ĉ)] 0 (eE P (.str dM 917) (U3 P) 117 U4 (U5 P))
def U6(P:Params):BT:=Ī 12 (L16 P)
def U7:List Stmt:=(bd.drop 115).take 1
theorem q16(w:World):qS w 222 U1 505 1073 U7 ⟨416,0,425,16⟩ U6 526 1101 ⟨426,0,429,19⟩:=by kernel_rfl
def g17(P:Params):List DictEntry:=[es P (nM 110) 1140 (.ref 549)]
def p17:List Value:=[.int 430 0,.int 0 0,.ref 531]
def c17(P:Params):List Obj:=ir P 116 526 1101 430 (.str dM 917) [(7,432,4),(7,435,4)] []
def U8(P:Params):=U3 P++g17 P
def U9:=U4++p17
def U_(P:Params):=U5 P++c17 P
def L17(P:Params):List Obj:=patch [(38,ĉ)] 0 (eE P (.str dM 917) (U8 P) 118 U9 (U_ P))
def Va(P:Params):BT:=Ī 12 (L17 P)
def Vb:List Stmt:=(bd.drop 116).take 1
theorem q17(w:World):qS w 258 U6 526 1101 Vb ⟨426,0,429,19⟩ Va 554 1141 ⟨430,0,436,19⟩:=by kernel_rfl
def g18(P:Params):List DictEntry:=[es P (nM 111) 1318 (.ref 675)]
def p18:List Value:=[.int 437 0,.int 0 0,.ref 559]
def c18(P:Params):List Obj:=ir P 117 554 1141 437 (.str dM 917) [(6,439,3),(6,462,3),(5,465,2),(5,468,2),(5,471,2),(5,474,2),(6,477,3),(5,480,2),(5,483,2),(6,486,3),(6,489,3),(6,492,3),(5,495,2),(5,498,2),(6,501,3),(7,504,4)] [ML,(Y 26780317299),(Y 3430839808754),(Y 0xc997361ebb3a73),Ik,Dp,(Y 219772516),(Y 28418144883),(Y 1766638),(Y 13812),(Y 1833075),(Y 3877486785267),OK,(Y 509787357655794),(Y 31114951269),Il,(Y 31115180389),(Y 513537109228147),(Y 4013887847406),(Y 245102180),(Y 4049828673907)]
def Vc(P:Params):=U8 P++g18 P
def Vd:=U9++p18
def Ve(P:Params):=U_ P++c18 P
def L18(P:Params):List Obj:=patch [(38,ĉ)] 0 (eE P (.str dM 917) (Vc P) 119 Vd (Ve P))
def Vf(P:Params):BT:=Ī 12 (L18 P)
def Vg:List Stmt:=(bd.drop 117).take 1
theorem q18(w:World):qS w 732 Va 554 1141 Vg ⟨430,0,436,19⟩ Vf 680 1319 ⟨437,0,505,45⟩:=by kernel_rfl
def g19(P:Params):List DictEntry:=[es P (nM 112) 1436 (.ref 745)]
def p19:List Value:=[.int 506 0,.int 0 0,.ref 685]
def c19(P:Params):List Obj:=pJ 675 P 118 680 1319 506 (.str dM 917) [(6,508,3),(6,543,3),(5,546,2),(6,549,3),(7,552,4),(5,555,2),(5,558,2),(5,561,2)] [ML,(Y 26780317299),(Y 3429736706803),(Y 3430839808754),(Y 0xc997361ebb3a73),(Y 27585574515),(Y 3533111326323),Ik,(Y 460759471174387),Dp,(Y 219772516),(Y 28418144883),(Y 0xd3bba65e5bb2e4),(Y 465605807093622),(Y 1766638),(Y 13812),(Y 228096500),(Y 487149371503347),(Y 1833075),(Y 3877486785267),(Y 3879940535012),(Y 3944365258356),OK,(Y 509787357655794),(Y 31114951269),Il,(Y 31115180389),(Y 509891483284210),(Y 513537109228147),(Y 4013887847406),(Y 245102180),(Y 4049828673907),(Y 0x75dda30eec9b32e4)]
def ī:=vO (nM 111) 674 1141 [745]
def Vh(P:Params):=Vc P++g19 P
def Vi:=Vd++p19
def Vj(P:Params):=Ve P++c19 P
def L19(P:Params):List Obj:=patch [(38,ĉ),(675,ī)] 0 (eE P (.str dM 917) (Vh P) 120 Vi (Vj P))
def Vk(P:Params):BT:=Ī 12 (L19 P)
def Vl:List Stmt:=(bd.drop 118).take 1
theorem q19(w:World):qS w 507 Vf 680 1319 Vl ⟨437,0,505,45⟩ Vk 748 1437 ⟨506,0,562,17⟩:=by kernel_rfl
def zJ:List Row:=[(5,563,2),(8,567,4),(5,572,2),(8,576,2),(5,587,2)]
def rJ:List Row:=[(5,593,1),(9,602,5),(9,610,5),(9,613,4),(8,618,2),(12,626,3),(9,637,4)]
def g20(P:Params):List DictEntry:=gR P ķ zJ 119 748 1437++gR P ķ rJ 125 783 1485
def p20:List Value:=pR 0 zJ 748++pR 0 rJ 783
def c20(P:Params):List Obj:=cR ķ id (.str dM 917) zJ 119 748 1437++
 cR ķ id (.str (Y 0xcdcb0edcbcbaeecabb6e1e5af2f2) 1483) rJ 125 783 1485
def Vm(P:Params):=Vh P++g20 P
def Vn:=Vi++p20
def Vo(P:Params):=Vj P++c20 P
def L20(P:Params):List Obj:=patch [(38,ĉ),(675,ī)] 0 (eE P (.str MM 1567) (Vm P) 132 Vn (Vo P))
def Vp(P:Params):BT:=Ī 12 (L20 P)
def Vq:List Stmt:=(bd.drop 119).take 14
theorem q20(w:World):qS w 411 Vk 748 1437 Vq ⟨506,0,562,17⟩ Vp 832 1569 ⟨642,0,642,8⟩:=by kernel_rfl
def rK:List Row:=[(5,643,2),(8,645,3),(7,651,1),(6,659,1)]
def rL:List Row:=[(7,664,2),(9,670,3)]
def g21(P:Params):List DictEntry:=gR P ķ rK 133 832 1569++gR P ķ rL 138 860 1609
def p21:List Value:=pR 0 rK 832++pR 0 rL 860
def c21(P:Params):List Obj:=cR ķ id (.str MM 1567) rK 133 832 1569++
 cR ķ id (.str vU 1607) rL 138 860 1609
def Vr(P:Params):=Vm P++g21 P
def Vs:=Vn++p21
def Vt(P:Params):=Vo P++c21 P
def L21(P:Params):List Obj:=patch [(38,ĉ),(675,ī)] 0 (eE P (.str vU 1607) (Vr P) 138 Vs (Vt P))
def Vu(P:Params):BT:=Ī 12 (L21 P)
def Vv:List Stmt:=(bd.drop 133).take 7
theorem q21(w:World):qS w 202 Vp 832 1569 Vv ⟨642,0,642,8⟩ Vu 874 1631 ⟨670,0,677,16⟩:=by kernel_rfl
def rM:List Row:=[(7,686,3),(6,691,3),(8,693,3),(8,698,3),(8,703,2)]
def g22(P:Params):List DictEntry:=[es P (nM 131) 1669 (.ref 897)]++gR P ķ rM 141 902 1670
def p22:List Value:=[.int 678 0,.int 0 0,.ref 879]++pR 0 rM 902
def c22(P:Params):List Obj:=ir P 140 874 1631 678 (.str vU 1607) [(6,680,3),(5,684,2)] [Dp,(Y 29494194931)]++
 cR ķ id (.str vU 1607) rM 141 902 1670
def Vx(P:Params):=Vr P++g22 P
def Vy:=Vs++p22
def Vz(P:Params):=Vt P++c22 P
def L22(P:Params):List Obj:=patch [(38,ĉ),(675,ī)] 0 (eE P (.str vU 1607) (Vx P) 144 Vy (Vz P))
def VA(P:Params):BT:=Ī 12 (L22 P)
def VB:List Stmt:=(bd.drop 140).take 6
theorem q22(w:World):qS w 419 Vu 874 1631 VB ⟨670,0,677,16⟩ VA 937 1722 ⟨703,0,707,39⟩:=by kernel_rfl
def rN:List Row:=[(7,708,2),(8,713,4),(8,722,3),(11,734,4)]
def rO:List Row:=[(8,747,3),(9,755,4),(10,764,4)]
def rP:List Row:=[(9,775,1),(5,795,2)]
def rQ:List Row:=[(5,807,2)]
def g23(P:Params):List DictEntry:=gR P ķ rN 146 937 1722++gR P ķ rO 151 965 1770++gR P ķ rP 155 986 1808++gI P [33,34,35,36,37,38,39] 146 1831++gR P ķ rQ 165 1000 1844
def p23:List Value:=pR 0 rN 937++pR 0 rO 965++pR 0 rP 986++pR 0 rQ 1000
def c23(P:Params):List Obj:=cR ķ id (.str vU 1607) rN 146 937 1722++
 cR ķ id (.str (Y 0x66e5876e5e5d77655d8f7ecd9971f4) 1768) rO 151 965 1770++
 cR ķ id (.str (Y 0x66e5876e5e5d77655db70e3d1a7765) 1806) rP 155 986 1808++
 cR ķ id (.str Im 1828) rQ 165 1000 1844
def VC(P:Params):=Vx P++g23 P
def VD:=Vy++p23
def VE(P:Params):=Vz P++c23 P
def L23(P:Params):List Obj:=patch [(38,ĉ),(675,ī)] 0 (eE P (.str Im 1828) (VC P) 161 VD (VE P))
def VF(P:Params):BT:=Ī 12 (L23 P)
def VG:List Stmt:=(bd.drop 146).take 20
theorem q23(w:World):qS w 421 VA 937 1722 VG ⟨703,0,707,39⟩ VF 1007 1852 ⟨807,0,808,34⟩:=by kernel_rfl
def rR:List Row:=[(6,809,3)]
def g24(P:Params):List DictEntry:=gR P ķ rR 166 1007 1852++[es P (nM 155) 1888 (.ref 1030)]
def p24:List Value:=pR 0 rR 1007++[.int 813 0,.int 0 0,.ref 1019]
def c24(P:Params):List Obj:=cR ķ id (.str Im 1828) rR 166 1007 1852++
 pJ 465 P 168 1014 1863 813 (.str cY 1861) [(7,815,4)] []
def Ds:=vO pI 464 994 [1030]
def VH(P:Params):=VC P++g24 P
def VI:=VD++p24
def VJ(P:Params):=VE P++c24 P
def L24(P:Params):List Obj:=patch [(38,ĉ),(675,ī),(465,Ds)] 0 (eE P (.str cY 1861) (VH P) 163 VI (VJ P))
def VK(P:Params):BT:=Ī 12 (L24 P)
def VL:List Stmt:=(bd.drop 166).take 3
theorem q24(w:World):qS w 287 VF 1007 1852 VL ⟨807,0,808,34⟩ VK 1033 1889 ⟨813,0,817,22⟩:=by kernel_rfl
def rT:List Row:=[(5,828,2)]
def g25(P:Params):List DictEntry:=[es P (nM 156) 1915 (.ref 1049)]++gR P ķ rT 170 1052 1916
def p25:List Value:=[.int 818 0,.int 0 0,.ref 1038]++pR 0 rT 1052
def c25(P:Params):List Obj:=pJ 465 P 169 1033 1889 818 (.str cY 1861) [(8,820,4)] []++
 cR ķ id (.str cY 1861) rT 170 1052 1916
def Dt:=vO pI 464 994 [1030,1049]
def VM(P:Params):=VH P++g25 P
def VN:=VI++p25
def VO(P:Params):=VJ P++c25 P
def L25(P:Params):List Obj:=patch [(38,ĉ),(675,ī),(465,Dt)] 0 (eE P (.str cY 1861) (VM P) 165 VN (VO P))
def VP(P:Params):BT:=Ī 12 (L25 P)
def VQ:List Stmt:=(bd.drop 169).take 2
theorem q25(w:World):qS w 278 VK 1033 1889 VQ ⟨813,0,817,22⟩ VP 1059 1924 ⟨828,0,829,56⟩:=by kernel_rfl
def g26(P:Params):List DictEntry:=[es P (nM 158) 1949 (.ref 1075)]
def p26:List Value:=[.int 830 0,.int 0 0,.ref 1064]
def c26(P:Params):List Obj:=pJ 465 P 171 1059 1924 830 (.str cY 1861) [(7,832,4)] []
def Du:=vO pI 464 994 [1030,1049,1075]
def VS(P:Params):=VM P++g26 P
def VT:=VN++p26
def VU(P:Params):=VO P++c26 P
def L26(P:Params):List Obj:=patch [(38,ĉ),(675,ī),(465,Du)] 0 (eE P (.str cY 1861) (VS P) 166 VT (VU P))
def VV(P:Params):BT:=Ī 12 (L26 P)
def VW:List Stmt:=(bd.drop 171).take 1
theorem q26(w:World):qS w 247 VP 1059 1924 VW ⟨828,0,829,56⟩ VV 1078 1950 ⟨830,0,836,22⟩:=by kernel_rfl
def rU:List Row:=[(5,846,1)]
def g27(P:Params):List DictEntry:=[es P (nM 159) 1976 (.ref 1094)]++gR P ķ rU 173 1097 1977
def p27:List Value:=[.int 837 0,.int 0 0,.ref 1083]++pR 0 rU 1097
def c27(P:Params):List Obj:=pJ 465 P 172 1078 1950 837 (.str cY 1861) [(8,839,4)] []++
 cR ķ id (.str cY 1861) rU 173 1097 1977
def Dv:=vO pI 464 994 [1030,1049,1075,1094]
def VX(P:Params):=VS P++g27 P
def VY:=VT++p27
def VZ(P:Params):=VU P++c27 P
def L27(P:Params):List Obj:=patch [(38,ĉ),(675,ī),(465,Dv)] 0 (eE P (.str cY 1861) (VX P) 168 VY (VZ P))
def V0(P:Params):BT:=Ī 12 (L27 P)
def V1:List Stmt:=(bd.drop 172).take 2
theorem q27(w:World):qS w 278 VV 1078 1950 V1 ⟨830,0,836,22⟩ V0 1104 1985 ⟨846,0,850,16⟩:=by kernel_rfl
def rV:List Row:=[(4,861,1)]
def g28(P:Params):List DictEntry:=[es P (nM 161) 2011 (.ref 1120)]++gR P ķ rV 175 1123 2012
def p28:List Value:=[.int 851 0,.int 0 0,.ref 1109]++pR 0 rV 1123
def c28(P:Params):List Obj:=pJ 465 P 174 1104 1985 851 (.str cY 1861) [(8,853,4)] []++
 cR ķ id (.str cY 1861) rV 175 1123 2012
def Dw:=vO pI 464 994 [1030,1049,1075,1094,1120]
def V2(P:Params):=VX P++g28 P
def V3:=VY++p28
def V4(P:Params):=VZ P++c28 P
def L28(P:Params):List Obj:=patch [(38,ĉ),(675,ī),(465,Dw)] 0 (eE P (.str cY 1861) (V2 P) 170 V3 (V4 P))
def V5(P:Params):BT:=Ī 12 (L28 P)
def V6:List Stmt:=(bd.drop 174).take 2
theorem q28(w:World):qS w 277 V0 1104 1985 V6 ⟨846,0,850,16⟩ V5 1130 2019 ⟨861,0,866,37⟩:=by kernel_rfl
def g29(P:Params):List DictEntry:=[es P (nM 163) 2045 (.ref 1146)]
def p29:List Value:=[.int 867 0,.int 0 0,.ref 1135]
def c29(P:Params):List Obj:=pJ 465 P 176 1130 2019 867 (.str cY 1861) [(8,869,4)] []
def Dx:=vO pI 464 994 [1030,1049,1075,1094,1120,1146]
def V7(P:Params):=V2 P++g29 P
def V8:=V3++p29
def V9(P:Params):=V4 P++c29 P
def L29(P:Params):List Obj:=patch [(38,ĉ),(675,ī),(465,Dx)] 0 (eE P (.str cY 1861) (V7 P) 171 V8 (V9 P))
def V_(P:Params):BT:=Ī 12 (L29 P)
def Wa:List Stmt:=(bd.drop 176).take 1
theorem q29(w:World):qS w 248 V5 1130 2019 Wa ⟨861,0,866,37⟩ V_ 1149 2046 ⟨867,0,875,62⟩:=by kernel_rfl
def rW:List Row:=[(4,882,1)]
def rX:List Row:=[(5,888,2),(3,890,1)]
def g30(P:Params):List DictEntry:=[es P (nM 164) 2071 (.ref 1165)]++gR P ķ rW 178 1168 2072++[es P (nM 166) 2102 (.ref 1175),es P (nM 167) 2112 (.ref 1176)]++gR P ķ rX 182 1177 2113
def p30:List Value:=[.int 876 0,.int 0 0,.ref 1154]++pR 0 rW 1168++pR 0 rX 1177
def c30(P:Params):List Obj:=pJ 465 P 177 1149 2046 876 (.str cY 1861) [(7,878,4)] []++
 cR ķ id (.str cY 1861) rW 178 1168 2072++
 [jb [(.int 7 2081),(.int 8 2082),(.int 18 2083),(.int 0 2084),(.int 960 2085),(.int 10 2086),(.int 3 2087),(.int 22 2088),(.int 70 2089),(.int 15 2090),(.int 6 2091),(.int 9 2092),(.int 4 2093),(.int 9 2094),(.int 2 2095),(.int 9 2096),(.int 230 2097),(.int 5 2098),(.int 44 2099),(.int 39 2100),(.int 5 2101)],jb [(.int 0 2103),(.int (-1) 2105),(.int 1 2106),(.int 2 2107),(.int 3 2108),(.int 2147483647 2109),(.int (-2147483648) 2111)]]++
 cR ķ id (.str Dq 2079) rX 182 1177 2113
def uz:=vO pI 464 994 [1030,1049,1075,1094,1120,1146,1165]
def Wb(P:Params):=V7 P++g30 P
def Wc:=V8++p30
def Wg(P:Params):=V9 P++c30 P
def L30(P:Params):List Obj:=patch [(38,ĉ),(675,ī),(465,uz)] 0 (eE P (.str Dq 2079) (Wb P) 177 Wc (Wg P))
def Wi(P:Params):BT:=Ī 12 (L30 P)
def Wj:List Stmt:=(bd.drop 177).take 7
theorem q30(w:World):qS w 399 V_ 1149 2046 Wj ⟨867,0,875,62⟩ Wi 1189 2127 ⟨890,0,907,229⟩:=by kernel_rfl
def rY:List Row:=[(10,908,3),(8,919,4),(3,923,2),(7,938,3),(3,942,2),(4,959,1),(12,964,2),(6,992,3),(3,994,3),(6,1005,2),(3,1012,3),(5,1047,2),(3,1049,1)]
def g31(P:Params):List DictEntry:=gR P ķ rY 184 1189 2127
def p31:List Value:=pR 0 rY 1189
def c31(P:Params):List Obj:=cR ķ id (.str Dq 2079) rY 184 1189 2127
def G31(P:Params):=Wb P++g31 P
def P31:=Wc++p31
def C31(P:Params):=Wg P++c31 P
def Sp(P:Params):List Obj:=patch [(38,ĉ),(675,ī),(465,uz)] 0 (eE P (.str Dq 2079) (G31 P) 190 P31 (C31 P))
def Iy(P:Params):BT:=Ī 12 (Sp P)
def Wl:List Stmt:=(bd.drop 184).take 13
theorem q31(w:World):qS w 389 Wi 1189 2127 Wl ⟨890,0,907,229⟩ Iy 1270 2239 ⟨1049,0,1071,75⟩:=by kernel_rfl
end
end Mine
namespace Mine
open PySem PySem.W
noncomputable section
abbrev ann:Option Value:=some (.ref 6)
noncomputable def Sh (w:World) (t:Params->BT) (n k:Nat) (os:OsState):Shared:=SharedT.abs ⟨t w.params,n,lf,lA [],boot_drawn,k,os⟩
theorem Iz(l:List Stmt)(env:Env)(c:Code)(p:Pos)(B:List Frame):OJ l env c p B=piecesOf l env c p B:=by unfold OJ;rw[<-PySem.W.Fast.te12563942051412417395]
theorem Ć{w:World}{N:Nat}{s s':SharedT}{l:List Stmt}{env:Env}{d:Code}{p:Pos}{B:List Frame}{f:Flow}{c:Code}{q:Pos}(h:FF PW w 11 ann 1 N s (OJ l env d p B)\(f,s',c,q)):
  segRun treeTable PW w 11 ann 1 N s.abs (piecesOf l env d p B)\(f,s'.abs,c,q):=
 segRun_of (by rw[PySem.W.Fast.te10110043849684766642,Zb,<-Iz];exact h)
theorem IA(w:World):(λ os=>PySem.W.Fast.tw15667345088766844465 PySem.W.Fast.tw14364793385576792824 PW w 11 ann 12 ⟨boot_heap w.params,lA [],boot_drawn,boot_toks,os⟩ (topStub PW))
 =λ os=>some (Sh w T0 15 187 os,⟨PySem.W.Fast.tw11892475500146522536 PySem.W.Fast.tw14364793385576792824 cE,cE,⟨0,0,0,0⟩,FE⟩):=by kernel_rfl
theorem IB(w:World)(os:OsState):topGo treeTable PW w 11 ann 12 ⟨boot_heap w.params,lA [],boot_drawn,boot_toks,os⟩ (topStub PW)
  =some (Sh w T0 15 187 os,⟨denote treeTable cE,cE,⟨0,0,0,0⟩,FE⟩):=by
 rw[PySem.W.Fast.te15667345088766844465,PySem.W.Fast.te11892475500146522536,Zb];exact Yk (IA w) os
theorem zK(w:World):(λ os=>PySem.W.Fast.tw14374325043358763698 PySem.W.Fast.tw14364793385576792824 PW w 11 ann 1 1 (Sh w T0 15 187 os) (blockOf (behindTheImports PW) eN cE ⟨0,0,0,0⟩ FE))
 =λ os=>some (.next,Sh w T0 15 187 os,cE,⟨0,0,0,0⟩):=by kernel_rfl
theorem zL(w:World)(os:OsState):segRun treeTable PW w 11 ann 1 1 (Sh w T0 15 187 os) (blockOf (behindTheImports PW) eN cE ⟨0,0,0,0⟩ FE)
  =some (.next,Sh w T0 15 187 os,cE,⟨0,0,0,0⟩):=by
 rw[PySem.W.Fast.te14374325043358763698,Zb];exact Yk (zK w) os
def HF(P:Params):Heap:=⟨lA (Sp P),lf⟩
theorem zN(P:Params):absHeap (Iy P) 1270 lf=HF P:=by kernel_rfl
theorem IC(w:World)(os:OsState):topRun treeTable PW w 11 ann 2 (Sh w Iy 1270 2239 os) (restOf [] eN cE ⟨1049,0,1071,75⟩ FE)\(Sh w Iy 1270 2239 os):=by kernel_rfl
theorem Dy:behindTheImports PW=(b1++(b2++(b3++(b4++(b5++(b6++(b7++(b8++(b9++(UB++(UH++(UM++(UR++(UX++(U2++(U7++(Vb++(Vg++(Vl++(Vq++(Vv++(VB++(VG++(VL++(VQ++(VW++(V1++(V6++(Wa++(Wj++(Wl++[]))))))))))))))))))))))))))))))):=by kernel_rfl
def mT:Nat:=[278,421,64,207,419,417,262,414,232,230,421,421,253,224,291,222,258,732,507,411,202,419,421,287,278,247,278,277,248,399,389].foldr (·+·) 2
set_option maxHeartbeats 1000000 in
theorem u0(w:World)(os:OsState):topRun treeTable PW w 11 ann mT (Sh w T0 15 187 os) (restOf (behindTheImports PW) eN cE ⟨0,0,0,0⟩ FE)\(Sh w Iy 1270 2239 os):=by have h:=IC w os;have h:=Ym (Ć (Yk (q31 w) os)) h;have h:=Ym (Ć (Yk (q30 w) os)) h;have h:=Ym (Ć (Yk (q29 w) os)) h;have h:=Ym (Ć (Yk (q28 w) os)) h;have h:=Ym (Ć (Yk (q27 w) os)) h;have h:=Ym (Ć (Yk (q26 w) os)) h;have h:=Ym (Ć (Yk (q25 w) os)) h;have h:=Ym (Ć (Yk (q24 w) os)) h;have h:=Ym (Ć (Yk (q23 w) os)) h;have h:=Ym (Ć (Yk (q22 w) os)) h;have h:=Ym (Ć (Yk (q21 w) os)) h;have h:=Ym (Ć (Yk (q20 w) os)) h;have h:=Ym (Ć (Yk (q19 w) os)) h;have h:=Ym (Ć (Yk (q18 w) os)) h;have h:=Ym (Ć (Yk (q17 w) os)) h;have h:=Ym (Ć (Yk (q16 w) os)) h;have h:=Ym (Ć (Yk (q15 w) os)) h;have h:=Ym (Ć (Yk (q14 w) os)) h;have h:=Ym (Ć (Yk (q13 w) os)) h;have h:=Ym (Ć (Yk (q12 w) os)) h;have h:=Ym (Ć (Yk (q11 w) os)) h;have h:=Ym (Ć (Yk (q10 w) os)) h;have h:=Ym (Ć (Yk (q9 w) os)) h;have h:=Ym (Ć (Yk (q8 w) os)) h;have h:=Ym (Ć (Yk (q7 w) os)) h;have h:=Ym (Ć (Yk (q6 w) os)) h;have h:=Ym (Ć (Yk (q5 w) os)) h;have h:=Ym (Ć (Yk (q4 w) os)) h;have h:=Ym (Ć (Yk (q3 w) os)) h;have h:=Ym (Ć (Yk (q2 w) os)) h;have h:=Ym (Ć (Yk (q1 w) os)) h;rw[<-Dy]at h;exact h
theorem IF(w:World)(os:OsState):topRun treeTable PW w 11 ann (1+mT) (Sh w T0 15 187 os) ⟨denote treeTable cE,cE,⟨0,0,0,0⟩,FE⟩\(Sh w Iy 1270 2239 os):=piece_block (b:=behindTheImports PW) (env:=eN) (c:=cE) (zL w os) (u0 w os)
theorem IG(w:World)(os:OsState):Sh w Iy 1270 2239 os=⟨HF w.params,lA [],boot_drawn,2239,os⟩:=by unfold Sh;unfold SharedT.abs;dsimp only;exact Xq (λ h=>Shared.mk h (lA []) boot_drawn 2239 os) (zN w.params)
def MN:Nat:=12+(1+mT)
theorem Dz(w:World)(os:OsState):topRun treeTable PW w 11 ann MN ⟨boot_heap w.params,lA [],boot_drawn,boot_toks,os⟩ (topStub PW)\⟨HF w.params,lA [],boot_drawn,2239,os⟩:=(go_top (IB w os) (IF w os)).trans (Xq some (IG w os))
end
end Mine
namespace Mine
open PySem PySem.W PyProof.Rows
noncomputable section
def qL:Program:={PW with main:={PW.main with body:=[ķ 196]}}
def eX:List Str:=(Si.names.filter (λ p=>p.2==.local)).map (·.1)
theorem DA(N:Nat)(hN:Nat.ble 600 N=true):∀w:World,(fencedOpening treeTable PW w N).map (λ s=>(s.heap,s.gens,s.drawn,s.toks))\(boot_heap w.params,lA [],boot_drawn,boot_toks):=boot_open (by kernel_rfl) hN (λ s=>by kernel_rfl)
theorem DB(w:World):((boot_heap w.params).isNs mainGlobals&&(lA []:Array GenState).size==0,(boot_heap w.params).objs.size,(boot_heap w.params).nsMap mainGlobals "__annotations__")=(true,11,ann):=by kernel_rfl
def Sf(w:World)(os:OsState):Shared:=⟨HF w.params,lA [],boot_drawn,2239,os⟩
theorem NZ(w:World):staticsOk [] (boot_heap w.params) (HF w.params)=true:=by kernel_rfl
theorem yu(w:World):namesBound PW (HF w.params)=true:=by kernel_rfl
theorem st3(w:World)(os:OsState):gensDone (Sf w os)=true:=by kernel_rfl
theorem st4(w:World):laidKept (boot_heap w.params) (HF w.params)=true:=by kernel_rfl
theorem st5(w:World):importedModules PW.main.body=[]:=by kernel_rfl
theorem MO(w:World):(λ os=>PySem.W.Fast.tw4187177175401517315 qL eX [] (λ _=>true) true (Sf w os))=λ _=>openGood qL eX:=by kernel_rfl
abbrev RW:OpenLaw:=PySem.Challenge.rw_sa0288_01
theorem zO(w:World):(λ os=>(staticsOk (importedModules PW.main.body) (boot_heap w.params) (HF w.params)&&namesBound PW (HF w.params)&&gensDone (Sf w os)&&laidKept (boot_heap w.params) (HF w.params),
  openSeen qL eX (importedModules PW.main.body) (λ _=>true) true (Sf w os),(Sf w os).heap))=λ _=>(true,openGood qL eX,HF w.params):=by
 funext os
 rw[st5 w,NZ,yu,st3,st4,PySem.W.Fast.te4187177175401517315];have h:=Yk (MO w) os;rw[h];rfl
theorem DC:LeftO PW qL eX (λ _=>true) (λ s=>s.heap) (λ w=>HF w.params) 25000:=
 LeftO.of_pieces (p:=PW) (q:=qL) (H₀:=boot_heap) (H₁:=HF) (gs₀:=lA []) (gs₁:=lA []) (d₀:=boot_drawn) (d₁:=boot_drawn) (k₀:=boot_toks) (k₁:=2239) (m₀:=11) (ann:=ann) (M:=MN) (N:=25000)
  (DA _ (by decide)) DB Dz (by decide+kernel) (λ w=>zO w)
def YK(w:World)(h:Heap):Prop:=∀b o,(HF w.params).get? b\o->h.get? b\o
def fnP:Stmt->Pos
 |.FunctionDef _ _ _ _ _ _ _ _ _ p=>p
 |_=>⟨0,0,0,0⟩
def dL:DefRec:={name:=Ii (ķ 196),params:=zD (ķ 196),body:=xb (ķ 196),scope:=zE (ķ 196),pos:=fnP (ķ 196)}
theorem zP{α:Type}{A:TablesWhole.Alg α}{e:α}{t:Scope}{c:TablesWhole.Ctx}{s:Scope}(hb:∀x y,A.both x y=e->x=e/\y=e)(hc:A.both e e=e)(n:Nat):∀{l:List Stmt},TablesWhole.wSs A t c s (l.take n)=e->TablesWhole.wSs A t c s (l.drop n)=e->TablesWhole.wSs A t c s l=e:=by
 induction n with
 |zero=>exact λ _ h=>h
 |succ n ih=>
  intro l h g;cases l with
  |nil=>exact h
  |cons a l=>exact(congr (Xq A.both (hb _ _ h).1) (ih (hb _ _ h).2 g))^hc
def tX(p:Program):TablesWhole.Ctx:=⟨p.main.scope,[],[],[],none⟩
theorem MP(p:Program)(g:TablesWhole.wSs TablesWhole.gather p.main.scope (tX p) p.main.scope p.main.body=[])(a:TablesWhole.wSs TablesWhole.holds p.main.scope (tX p) p.main.scope p.main.body=true)(b:TablesWhole.wProgram TablesWhole.holds {p with main:={p.main with body:=[]}}=true):p.tablesWhole=true:=by refine Eq.trans ?_ b;unfold Program.tablesWhole TablesWhole.wProgram TablesWhole.wModule;unfold tX at g a;simp only[g,a];rfl
abbrev tQ(l:List Stmt):Prop:=TablesWhole.wSs TablesWhole.gather PW.main.scope (tX PW) PW.main.scope l=[]/\TablesWhole.wSs TablesWhole.holds PW.main.scope (tX PW) PW.main.scope l=true
theorem Wm(n:Nat){l:List Stmt}(x:tQ (l.take n))(y:tQ (l.drop n)):tQ l:=⟨zP (λ _ _=>List.append_eq_nil_iff.mp) rfl n x.1 y.1,zP (λ _ _=>XK.mp) rfl n x.2 y.2⟩
theorem tQ1:tQ (bd.take 80):=⟨by kernel_rfl,by kernel_rfl⟩
theorem tQ2:tQ ((bd.drop 80).take 50):=⟨by kernel_rfl,by kernel_rfl⟩
theorem tQ3:tQ ((bd.drop 80).drop 50):=⟨by kernel_rfl,by kernel_rfl⟩
theorem Wq:tQ bd:=Wm 80 tQ1 (Wm 50 tQ2 tQ3)
theorem lI(walk:WalkO qL eX (λ _ _=>True) YK RW.row.toRowW dL [] (λ f vs=>call f vs))(ws:RW.wellSaid=true):RW.Holds:=by
 refine holds_law ws λ Sq=>holds_open DC ?_ ?_ (λ _ _=>trivial) (λ _ _ _ _ _=>trivial) ?_ ?_ ?_ ?_ ?_ Sq ?_ ?_ ?_ walk
 ·intro w s e b o h;rw[e];exact h
 ·intro w h h' y k b o e;exact k _ _ (y _ _ e)
 ·kernel_rfl
 ·kernel_rfl
 ·kernel_rfl
 ·intro s _;exact recFacts_nil rfl
 ·rfl
 ·kernel_rfl
 ·exact⟨rfl,rfl,rfl,rfl,rfl,MP PW Wq.1 Wq.2 (by kernel_rfl)⟩
 ·exact⟨[.list [.int 3,.int 1]],by decide+kernel,by decide+kernel⟩
end
end Mine
section
open PySem PySem.W PySem.W.Fast PyProof.Rows
theorem Mine.IH{k:Look}(n:Nat):∀{l:List Stmt},noRoadLSs k (l.take n)=true->noRoadLSs k (l.drop n)=true->noRoadLSs k l=true:=by
 induction n with
 |zero=>exact λ _ h=>h
 |succ n ih=>
  intro l h g;cases l with
  |nil=>rfl
  |cons a l=>exact Bool.and_eq_true_iff.mpr ⟨(Bool.and_eq_true_iff.mp h).1,ih (Bool.and_eq_true_iff.mp h).2 g⟩
theorem Mine.zQ{s:Bool}{k:List Str}{l:List Stmt}(d:s=false)(e:k=[])(a:tw8326940854005059898 {strict:=false,foot:=none,bare:=[]} (l.take 99)=true)(b:tw8326940854005059898 {strict:=false,foot:=none,bare:=[]} (l.drop 99)=true):tw8326940854005059898 {strict:=s,foot:=none,bare:=k} l=true:=by rw[<-te8326940854005059898]at*;subst d e;exact Mine.IH 99 a b
set_option maxHeartbeats 0 in
theorem Mine.Wr:PySem.Challenge.rw_sa0288_01.wellSaid=true:=by
 rw[te9446332074065402090];unfold tw9446332074065402090
 repeat' (with_reducible refine look_both ?_ ?_)
 all_goals try (unfold tw17960256430627541270)
 repeat' (with_reducible refine look_both ?_ ?_)
 all_goals try (unfold tw2436336058641802641)
 repeat' (with_reducible refine look_both ?_ ?_)
 all_goals try (unfold tw12908688711261696721)
 repeat' (with_reducible refine look_both ?_ ?_)
 all_goals try with_reducible refine Mine.zQ ?_ ?_ ?_ ?_
 all_goals as_aux_lemma=>kernel_rfl
end
namespace Mine
open PySem PySem.SeqAt
noncomputable section
section
variable{prog:Program}{w:World}
variable{us:List Value}{j:Nat}
inductive LR {α β:Type} (R:α->β->Prop):List α->List β->Prop where
 |nil:LR R [] []
 |cons {a b l m}:R a b->LR R l m->LR R (a::l) (b::m)
section
variable{α β:Type}{R R':α->β->Prop}{l:List α}{m:List β}
theorem LR.imp(x:LR R l m)(h:∀a b,R a b->R' a b):LR R' l m:=by
 induction x with
 |nil=>exact .nil
 |cons r _ ih=>exact .cons (h _ _ r) ih
theorem LR.len(x:LR R l m):m.length=l.length:=by
 induction x with
 |nil=>rfl
 |cons _ _ ih=>exact Xq Nat.succ ih
theorem LR.get(x:LR R l m){v:α}:∀{i:Nat},l[i]?\v->∃u,m[i]?\u/\R v u:=by
 induction x with
 |nil=>exact λ h=>nomatch h
 |cons r _ ih=>exact fun {i} e=>match i,e with
  |0,e=>⟨_,rfl,Xn e▸r⟩
  |_+1,e=>ih e
theorem LR.append{l' m'}(x:LR R l m)(y:LR R l' m'):LR R (l++l') (m++m'):=by
 induction x with
 |nil=>exact y
 |cons r _ ih=>exact .cons r ih
theorem LR.set(x:LR R l m){v u}(r:R v u):∀{i:Nat},LR R (l.set i v) (m.set i u):=by
 induction x with
 |nil=>exact .nil
 |cons q x ih=>exact fun {i}=>match i with
  |0=>.cons r x
  |_+1=>.cons q ih
theorem LR.take(x:LR R l m):∀{n:Nat},LR R (l.take n) (m.take n):=by
 induction x with
 |nil=>exact fun {n}=>match n with|0=>.nil|_+1=>.nil
 |cons q _ ih=>exact fun {n}=>match n with
  |0=>.nil
  |_+1=>.cons q ih
theorem LR.drop(x:LR R l m):∀{n:Nat},LR R (l.drop n) (m.drop n):=by
 induction x with
 |nil=>exact fun {n}=>match n with|0=>.nil|_+1=>.nil
 |cons q x ih=>exact fun {n}=>match n with
  |0=>.cons q x
  |_+1=>ih
theorem LR.MQ(x:LR R l []):l=[]:=by cases x;rfl
theorem LR.DD(x:LR R [] m):m=[]:=by cases x;rfl
theorem LR.FG{b:β}{P:Prop}(x:LR R l (b::m))(k:∀a l',l=a::l'->R a b->LR R l' m->P):P:=by cases x with|cons r x=>exact k _ _ rfl r x
theorem LR.zR{a:α}{m:List β}{P:Prop}(x:LR R (a::l) m)(k:∀b m',m=b::m'->R a b->LR R l m'->P):P:=by cases x with|cons r x=>exact k _ _ rfl r x
theorem LR.inj{n:List α}(h:∀a b c,R a c->R b c->a=b)(x:LR R l m):∀{n},LR R n m->n=l:=by
 induction x with
 |nil=>exact LR.MQ
 |cons r _ ih=>exact λ y=>y.FG λ a l' e q y=>e^(h _ _ _ q r▸Xq _ (ih y))
end
def TI(prog:Program)(w:World)(h:Heap):Int ⊕ List Int->Value->Prop
 |.inl i,u=>∃t,u=.int i t
 |.inr l,u=>∃b,u=.ref b/\IsTupleKey (intKind prog w) h l b
def OM(prog:Program)(w:World)(h:Heap):KT->List Value->Prop:=LR (TI prog w h)
def eY(prog:Program)(w:World)(h:Heap)(k:KT)(a:Addr):Prop:=∃o items n,h.get? a\o/\o.cls=.type "tuple"/\o.data=.seq items n/\OM prog w h k items.toList
def gz(prog:Program)(w:World):Int ⊕ List Int->Int
 |.inl i=>hashInt i
 |.inr l=>tupleKeyHash (intKind prog w) l
def zS(prog:Program)(w:World)(k:KT):Int:=reduceHash (Builtin.Tuple.tupleHashOf (k.map (gz prog w)))
def kC:Int ⊕ List Int->Nat
 |.inl _=>1
 |.inr l=>l.length+1
def bx(k:KT):Nat:=(k.map kC).sum
theorem TI.inj{h:Heap}(x y:Int ⊕ List Int)(u:Value)(hx:TI prog w h x u)(hy:TI prog w h y u):x=y:=by
 cases x with
 |inl i=>cases y with
  |inl j=>exact hx.elim λ t e=>hy.elim λ t' e'=>Value.noConfusion (e.symm^e') λ e _=>Xq _ e
  |inr l=>exact hx.elim λ t e=>hy.elim λ t' e'=>nomatch e.symm.trans e'.1
 |inr l=>cases y with
  |inl j=>exact hx.elim λ t e=>hy.elim λ t' e'=>nomatch e.1.symm.trans e'
  |inr m=>exact hx.elim λ t e=>hy.elim λ t' e'=>Xq _ (e.2.inj (Value.ref.inj (e.1.symm.trans e'.1)▸e'.2))
theorem TI.keeps{h h':Heap}(k':∀(l:List Int) (b:Addr),IsTupleKey (intKind prog w) h l b->IsTupleKey (intKind prog w) h' l b)(x:Int ⊕ List Int)(u:Value)(hx:TI prog w h x u):TI prog w h' x u:=by
 cases x with
 |inl i=>exact hx
 |inr l=>exact hx.elim λ b e=>⟨b,e.1,k' _ _ e.2⟩
theorem DE{o o':Obj}{h:Heap}{a:Addr}{us Sr:Array Value}{n n':Nat}(ho:h.get? a\o)(FH:h.get? a\o')(hd:o.data=.seq us n)(FJ:o'.data=.seq Sr n'):Sr=us:=Data.noConfusion (FJ.symm.trans (Xq Obj.data (Xn (FH.symm.trans ho))|>.trans hd)) λ e _=>e
theorem eY.inj{h:Heap}{a:Addr}{x y:KT}(hx:eY prog w h x a)(hy:eY prog w h y a):x=y:=by refine BK hx λ o items n ho _ hd hi=>?_;refine BK hy λ o' Ss n' FH _ FJ Hn=>?_;exact LR.inj (n:=x) TI.inj Hn (DE ho FH hd FJ▸hi)
theorem eY.keeps{h h':Heap}{k:KT}{a d:Addr}{o:Obj}{es ep}(x:eY prog w h k a)(ho:h.get? d\o)(hd:o.data=.dict es ep)(hs:Heap.SameBut d h h'):eY prog w h' k a:=by refine BK x λ o' items n FH hc FJ hi=>?_;exact⟨o',items,n,(hs.2 a λ e=>nomatch FJ.symm.trans ((Xq Obj.data (Xn (FH.symm.trans (e▸ho))))^hd))^FH,hc,FJ,hi.imp (TI.keeps λ l b y=>y.keeps ho hd hs)⟩
theorem eY.typeIs{s:Shared}{k:KT}{a:Addr}(x:eY prog w s.heap k a):s.TypeIs (.ref a) "tuple":=x.elim λ o x=>x.elim λ _ x=>x.elim λ _ x=>⟨o,x.1,x.2.1⟩
variable{A:Around}{E:Value->Shared->Prop}{s:Shared}
theorem DF{y:Int ⊕ List Int}{v:Value}{h:Heap}{Q:Int->Shared->Prop}(hu:A.units<cLine)(eh:h=s.heap)(hk:TI prog w h y v)(q:Q (gz prog w y) {s with toks:=s.toks+kC y}):wpAny (model prog w) A (pyHash v) Q E s:=by
 subst eh;cases y with
 |inl i=>exact hk.elim λ t e=>e▸wpAny_pyHash_int q
 |inr l=>exact hk.elim λ b e=>e.1▸wpAny_pyHash_tuple (knd:=intKind prog w) hu e.2 q
theorem MR(d:KT)(x):bx (d++[x])=bx d+kC x:=by unfold bx;rw[XF,List.sum_append];rfl
theorem vV{k:KT}{a:Addr}{Q:Int->Shared->Prop}(hu:A.units+2<cLine)(hk:eY prog w s.heap k a)(h:Q (zS prog w k) {s with toks:=s.toks+(bx k+1)}):
  wpAny (model prog w) A (pyHash (.ref a)) Q E s:=by
 have hT:=hk.typeIs;refine BK hk λ o items n ho _ hd hi=>?_;unfold pyHash;refine XD (wpAny_cRoomFor_or (.inr (Xs (Ya _ _) hu)) ?_);refine XD (Zw hT Z6.lookup ?_);show wpAny _ _ (if (some (Value.builtin "tuple.__hash__")==some Value.none)=true then _ else _) Q E s;rw[XW (by rw[beq_builtin_none];exact Yy)];refine XD (Zw hT Z6.lookup ?_);show wpAny _ _ (callSpecialIfBoundUnlessNone? (.ref a) "__hash__" _>>=_) Q E s;refine XD (wpAny_callSpecialIfBoundUnlessNone?_slot hT Z6 (wpAny_call_entry Z6 hT F.entry_tuple_hash ?_ (F.args_tuple_hash_1 _)));show wpAny _ _ (Builtin.Tuple.tupleItemsOf (.ref a)>>=_) _ _ s;refine XD (wpAny_tupleItemsOf ho hd ?_);refine XD ?_;rw[<-Array.forIn_toList]
 refine wpAny_forIn_list _
  (λ rest (b:Array Int) s'=>∃done left,k=done++left/\OM prog w s.heap left rest/\b.toList=done.map (gz prog w)/\s'={s with toks:=s.toks+bx done})
  _ ?_ ?_ _ _ ⟨[],k,rfl,hi,rfl,rfl⟩
 ·rintro x rest b s' ⟨done,left,e,hl,hb,rfl⟩;refine hl.FG λ y MS el r hl=>?_;refine XD (DF (by rw[aaf];exact Xs (Ya _ 1) hu) rfl r ?_);exact XT ⟨done++[y],MS,e^(el▸(List.append_cons ..)),hl,by rw[aaN,hb,XF];rfl,by rw[MR,aaQ]⟩
 ·rintro b s' ⟨done,left,e,hl,hb,rfl⟩;rw[hl.MQ,XQ]at e;subst e;show wpAny _ _ (retInt (Builtin.Tuple.tupleHashOf b.toList)) _ _ _;rw[hb];refine wpAny_ret_mkInt ?_;have h:Q (reduceHash (Builtin.Tuple.tupleHashOf (k.map (gz prog w)))) {s with toks:=s.toks+(bx k+1)}:=h;generalize Builtin.Tuple.tupleHashOf (k.map (gz prog w))=z at h ⊢;show wpAny _ _ (if (decide (-(2:Int)^63<=z)&&decide (z<2^63))=true then _ else _) Q E _;unfold reduceHash at h;by_cases hr:(decide (-(2:Int)^63<=z)&&decide (z<2^63))=true
  ·rw[XR hr];rw[XR hr]at h;exact XT h
  ·rw[XW hr];rw[XW hr]at h;exact XD (wpAny_rule (XT h))
theorem vW{α:Type}[DecidableEq α]{x y:List α}:((List.range (min x.length y.length)).all (λ j=>decide (x[j]?=y[j]?))&&(x.length==y.length))=decide (x=y):=by
 refine Ze.mpr ⟨λ h=>XI ?_,λ h=>?_⟩
 ·have h:=XK.mp h;have hl:=Zy h.2;refine Zh λ j=>?_;by_cases q:j<x.length
  ·exact XA (YI.mp h.1 j (ZC.mpr (Nat.lt_min.mpr ⟨q,hl▸q⟩)))
  ·rw[Zz (aaz.mp q),Zz (hl▸aaz.mp q)]
 ·have h:=XA h;subst h;exact XK.mpr ⟨YI.mpr λ _ _=>XI rfl,Z9 _⟩
theorem vX{pK:Program}{w':World}{l:List Int}(x:ItemsAre (intKind prog w) l us):ItemsAre (intKind pK w') l us:=by
 induction x with
 |nil=>exact .nil
 |cons a _ ih=>exact .cons a ih
theorem pL{pK:Program}{w':World}{h:Heap}{l:List Int}{b:Addr}(x:IsTupleKey (intKind prog w) h l b):IsTupleKey (intKind pK w') h l b:=x.elim λ o x=>x.elim λ us x=>x.elim λ n x=>⟨o,us,n,x.1,x.2.1,x.2.2.1,vX x.2.2.2⟩
theorem kD{h:Heap}{l:List Int}{b:Addr}(x:IsTupleKey (intKind prog w) h l b):∃us,h.IsTuple b us:=x.elim λ o x=>x.elim λ us x=>x.elim λ n x=>⟨us,o,x.1,x.2.1,n,x.2.2.1⟩
theorem ao{p q:Prop}[Decidable p][Decidable q](h:p↔q):decide p=decide q:=by
 by_cases x:p
 ·rw[XI x,XI (h.mp x)]
 ·rw[XY x,XY λ z=>x (h.mpr z)]
theorem MT(hu:A.units<cLine){x y:Int ⊕ List Int}{u v:Value}(hx:TI prog w s.heap x u)(hy:TI prog w s.heap y v):EqAt A s u v (decide (x=y)):=by
 cases x with
 |inl i=>cases y with
  |inl j=>exact hx.elim λ t e=>hy.elim λ t' e'=>e▸e'▸(ao (p:=i=j) (q:=(.inl i:Int ⊕ List Int)=.inl j) ⟨Xq _,Sum.inl.inj⟩▸EqAt.int_int i t j t':EqAt A s (.int i t) (.int j t') (decide ((.inl i:Int ⊕ List Int)=.inl j)))
  |inr l=>exact hx.elim λ t e=>hy.elim λ b e'=>e▸e'.1▸(kD e'.2).elim λ us q=>EqAt.int_tuple i t q hu
 |inr l=>cases y with
  |inl j=>exact hx.elim λ b e=>hy.elim λ t e'=>e'▸e.1▸(kD e.2).elim λ us q=>EqAt.tuple_int j t q hu
  |inr m=>exact hx.elim λ b e=>hy.elim λ b' e'=>e.1▸e'.1▸(λ pK w' E' Q' hq=>wpAny_eqBool_tuple (knd:=intKind pK w') hu (pL e.2) (pL e'.2) ((ao (p:=l=m) (q:=(.inr l:Int ⊕ List Int)=.inr m) ⟨Xq _,Sum.inr.inj⟩).symm▸hq):EqAt A s (.ref b) (.ref b') _)
theorem LR.at{α β:Type}{R:α->β->Prop}{l:List α}{us:Array β}(x:LR R l us.toList)(p:j<us.size):∃a,l[j]?\a/\R a us[j]:=by have q:j<l.length:=x.len▸(YL (xs:=us)).symm▸p;refine dQ (x.get (Xz q)) λ u U h2=>?_;exact⟨_,Xz q,Xn (U.symm.trans ((Zd (xs:=us) (i:=j))^(aaG p)))▸h2⟩
theorem LR.size{α β:Type}{R:α->β->Prop}{l:List α}{us:Array β}(x:LR R l us.toList):us.size=l.length:=YL.symm.trans x.len
theorem vY{x y:KT}{a b:Addr}{Q:Bool->Shared->Prop}(hu:A.units+2<cLine)(hx:eY prog w s.heap x a)(hy:eY prog w s.heap y b)(h:Q (decide (x=y)) s):
  wpAny (model prog w) A (eqBool (.ref a) (.ref b)) Q E s:=by
 by_cases q:a=b
 ·subst q;rw[hx.inj hy,XI rfl]at h;exact EqAt.same _ prog w E Q h
 ·refine BK hx λ o us n ho hc hd hi=>?_;refine BK hy λ o' Sr n' FH pC FJ Hn=>?_;refine EqAt.of_refs q (RcAt.tuples (e:=λ j=>decide (x[j]?=y[j]?)) ⟨o,ho,hc,n,hd⟩ ⟨o',FH,pC,n',FJ⟩ (Xs (Ya _ _) hu) λ j p q=>?_) prog w E Q ?_
  ·refine dQ (LR.at hi p) λ u e1 r1=>?_;refine dQ (LR.at Hn q) λ v e2 r2=>?_;rw[e1,e2,ao (q:=u=v) ⟨Xn,Xq _⟩];exact MT (by rw[aaf];exact Xs (Ya _ 1) hu) r1 r2
  ·rw[hi.size,Hn.size,vW];exact h
theorem LR.MU{α β:Type}{R:α->β->Prop}{l:List α}{m:List β}(x:LR R l m){v:β}(h:v∈m):∃a,R a v:=by
 induction x with
 |nil=>exact nomatch h
 |cons r _ ih=>exact(XE.mp h).elim (λ e=>⟨_,e▸r⟩) ih
theorem ma{m:Nat}{a:Addr}{o:Obj}{items:Array Value}{n:Nat}{Q:Bool->Shared->Prop}(hT:s.TypeIs (.ref a) "tuple")(ho:s.heap.get? a\o)(hd:o.data=.seq items n)
  (hi:∀v∈items.toList,∀Q:Bool->Shared->Prop,Q true s->wpAny (model prog w) A (eqIsQuiet m v) Q E s) (h:Q true s):wpAny (model prog w) A (eqIsQuiet (m+1) (.ref a)) Q E s:=by
 unfold eqIsQuiet;refine XD (Zw hT F.slot_tuple_eq.lookup ?_);show wpAny _ _ (isInstance (.ref a) (.type "tuple")>>=_) _ _ s;refine XD (wpAny_isInstance hT isSubtype_tuple_tuple ?_);simp only[Bool.not_true,ZU,aax];refine XD (wpAny_seqItems ho hd ?_);refine XD ?_;show wpAny _ _ (forIn items _ _) _ _ s;rw[<-Array.forIn_toList];refine wpAny_forIn_list _ (λ rest r s'=>r.1=none/\s'=s/\∀v∈rest,v∈items.toList) _ ?_ ?_ _ _ ⟨rfl,rfl,λ _ h=>h⟩
 ·rintro v rest r s' ⟨hr,rfl,hz⟩;refine XD (hi v (hz v (.head _)) _ ?_);exact XT ⟨rfl,rfl,λ u h=>hz u (.tail _ h)⟩
 ·rintro⟨r1,r2⟩ s' ⟨hr,rfl,_⟩;cases hr;exact XT h
theorem zT{k:KT}{a:Addr}{Q:Bool->Shared->Prop}(hk:eY prog w s.heap k a)(h:Q true s):wpAny (model prog w) A (eqIsQuiet 8 (.ref a)) Q E s:=by
 have hT:=hk.typeIs;refine BK hk λ o items n ho _ hd hi=>?_;refine ma hT ho hd (λ v hv Q q=>?_) h;obtain⟨y,r⟩:=LR.MU hi hv;cases y with
 |inl i=>exact r.elim λ t e=>e▸(eqIsQuiet_byValue (v:=.int i t) 7 rfl).symm▸XT q
 |inr l=>exact r.elim λ b e=>e.1▸e.2.elim λ o x=>x.elim λ us x=>x.elim λ n x=>ma e.2.typeIs x.1 x.2.2.1 (λ v hv Q q=>(eqIsQuiet_byValue 6 (x.2.2.2.byValue v hv)).symm▸XT q) q
end
def II(prog:Program)(w:World):HeapKind prog w KT where
 is:=eY prog w
 hash:=zS prog w
 draws:=λ k=>bx k+1
 room:=λ A=>A.units+2<cLine
 inj:=λ hx hy=>hx.inj hy
 keeps:=λ x ho hd hs=>x.keeps ho hd hs
 pyHash:=λ hu hk h=>vV hu hk h
 eqBool:=λ hu hx hy h=>vY hu hx hy h
 quiet:=λ hk h=>zT hk h
def nF:Int ⊕ Str->Value->Bool
 |.inl i,v=>v.isInt i
 |.inr x,v=>v.isStrOf x
theorem Kh{k:Int ⊕ Str}{v:Value}{P:Int ⊕ Str->Value->Prop}(h:nF k v=true)(a:∀i t,P (.inl i) (.int i t))(b:∀x t,P (.inr x) (.str x t)):P k v:=by
 cases k with
 |inl i=>exact(Value.isInt_shape h).elim λ t e=>e▸a i t
 |inr x=>exact(Value.isStrOf_shape h).elim λ t e=>e▸b x t
def IJ(prog:Program)(w:World):KeyKind prog w (Int ⊕ Str)where
 is:=nF
 hash:=Sum.elim hashInt (hashStr w)
 inj:=λ v a b ha=>Kh (P:=λ a v=>nF b v=true->a=b) ha
  (λ i t hb=>match b,hb with|.inl j,hb=>Xq _ (Value.isInt_inj (.int i t) _ _ (aaC prog w i t) hb))
  (λ x t hb=>match b,hb with|.inr y,hb=>Xq _ (Value.isStrOf_inj (.str x t) _ _ (strKind_is prog w x t) hb))
 byValue:=λ k v h=>Kh (P:=λ _ v=>carriedByValue v=true) h (λ _ _=>rfl) λ _ _=>rfl
 «strs»:=λ k x t v h=>match k,h with|.inr y,h=>(strKind prog w).strs y x t v h
 pyHash:=fun {A E s k v Q} hv h=>Kh (P:=λ k v=>Q (Sum.elim hashInt (hashStr w) k) {s with toks:=s.toks+1}->wpAny (model prog w) A (PySem.pyHash v) Q E s) hv (λ _ _ h=>wpAny_pyHash_int h) (λ _ _ h=>wpAny_pyHash_str h) h
 eqBool:=fun {A E s a b u v Q} hu hv h=>Kh (P:=λ a u=>Q (decide (a=b)) s->wpAny (model prog w) A (PySem.eqBool u v) Q E s) hu
  (λ i t=>Kh (P:=λ b v=>Q (decide (.inl i=b)) s->wpAny (model prog w) A (PySem.eqBool (.int i t) v) Q E s) hv
   (λ j t' h=>wpAny_eqBool_int (Eq.mp (Xq (λ z=>Q z s) (ao (p:=(.inl i:Int ⊕ Str)=.inl j) (q:=i=j) ⟨Sum.inl.inj,Xq _⟩)) h)) λ _ _ h=>EqAt.int_str _ _ _ _ prog w E Q h)
  (λ x t=>Kh (P:=λ b v=>Q (decide (.inr x=b)) s->wpAny (model prog w) A (PySem.eqBool (.str x t) v) Q E s) hv
   (λ _ _ h=>EqAt.str_int _ _ _ _ prog w E Q h) λ y t' h=>wpAny_eqBool_str (Eq.mp (Xq (λ z=>Q z s) (ao (p:=(.inr x:Int ⊕ Str)=.inr y) (q:=x=y) ⟨Sum.inr.inj,Xq _⟩)) h)) h
end
end Mine
namespace Mine
open PySem
noncomputable section
inductive GV where
 |val (v:V)
 |fn (f:Nat)
 |cls (c:Nat)
 |bi (b:Bi)
 |range
 |keys (l:List Int)
structure Tab where
 nm:Nat->Str
 gl:Nat->Option GV
abbrev seq(a b:Str):Bool:=PySem.W.Fast.sEq a b
abbrev ű:=List (Str×NameKind)
def Đ:ű->Str->Option NameKind
 |[],_=>none
 |(n,k)::r,x=>match seq x n with
  |true=>some k
  |false=>Đ r x
def stored:Option NameKind->Bool
 |some .local=>true
 |some .cell=>true
 |some .free=>true
 |_=>false
def ć:Option NameKind->Bool
 |some .local=>true
 |some .cell=>true
 |_=>false
def zU:Option NameKind->Bool
 |some .globalImplicit=>true
 |_=>false
def dX(n m:Nat)(f:n=m->Bool):Bool:=if h:n=m then f h else false
def constOk(T:Tab):V->Const->Bool
 |.none,c=>Nat.beq c.ctorIdx 0
 |.bool a,c=>dX c.ctorIdx 1 λ h=>Const.bool.elim (motive:=λ _=>Bool) c h λ b=>a==b
 |.int a,c=>dX c.ctorIdx 2 λ h=>Const.int.elim (motive:=λ _=>Bool) c h λ b=>decide (a=b)
 |.str k,c=>dX c.ctorIdx 5 λ h=>Const.str.elim (motive:=λ _=>Bool) c h λ s=>seq (T.nm k) s
 |_,_=>false
def zV:fo->Operator
 |.add=>.Add|.sub=>.Sub|.mul=>.Mult|.fdiv=>.FloorDiv|.mod=>.Mod|.shr=>.RShift
def me(o:fo)(p:Operator):Bool:=decide (p=zV o)
def MV:qF->CmpOp
 |.eq=>.Eq|.ne=>.NotEq|.lt=>.Lt|.le=>.LtE|.gt=>.Gt|.ge=>.GtE|.is=>.Is|.bF=>.IsNot|.isin=>.In|.ũ=>.NotIn
def zW(o:qF)(p:CmpOp):Bool:=decide (p=MV o)
def MW(a b:Bi):Bool:=Nat.beq a.ctorIdx b.ctorIdx
mutual
noncomputable def MX:V->V->Bool
 |.none,.none=>true
 |.bool a,.bool b=>a==b
 |.int a,.int b=>decide (a=b)
 |.str a,.str b=>decide (a=b)
 |.tup a,.tup b=>IK a b
 |_,_=>false
noncomputable def IK:List V->List V->Bool
 |[],[]=>true
 |a::l,b::m=>MX a b&&IK l m
 |_,_=>false
end
def eZ(T:Tab)(sc:ű)(x:Nat)(id:Str):Bool:=seq (T.nm x) id&&zU (Đ sc id)
section
variable(y:Expr)(z:Stmt)
def nG(f:Const->Nat->Pos->Bool):Bool:=dX y.ctorIdx 19 λ h=>Expr.Constant.elim (motive_1:=λ _=>Bool) y h f
def gA(f:Str->Pos->Bool):Bool:=dX y.ctorIdx 23 λ h=>Expr.Name.elim (motive_1:=λ _=>Bool) y h f
def pN(f:Expr->Str->Pos->Bool):Bool:=dX y.ctorIdx 20 λ h=>Expr.Attribute.elim (motive_1:=λ _=>Bool) y h f
def zX(f:Expr->Expr->Pos->Bool):Bool:=dX y.ctorIdx 21 λ h=>Expr.Subscript.elim (motive_1:=λ _=>Bool) y h f
def zY(f:Option Expr->Option Expr->Pos->Bool):Bool:=dX y.ctorIdx 26 λ h=>Expr.Slice.elim (motive_1:=λ _=>Bool) y h λ a b c p=>c.isNone&&f a b p
def MY(f:Expr->Operator->Expr->Pos->Bool):Bool:=dX y.ctorIdx 2 λ h=>Expr.BinOp.elim (motive_1:=λ _=>Bool) y h f
def Su(f:UnaryOp->Expr->Pos->Bool):Bool:=dX y.ctorIdx 3 λ h=>Expr.UnaryOp.elim (motive_1:=λ _=>Bool) y h f
def eo(f:BoolOp->List Expr->Pos->Bool):Bool:=dX y.ctorIdx 0 λ h=>Expr.BoolOp.elim (motive_1:=λ _=>Bool) y h f
def one{α:Type}(l:List α)(f:α->Bool):Bool:=match l with
 |[a]=>f a
 |_=>false
def two{α:Type}(l:List α)(f:α->α->Bool):Bool:=match l with
 |[a,b]=>f a b
 |_=>false
def IM(f:Expr->CmpOp->Expr->Pos->Bool):Bool:=dX y.ctorIdx 15 λ h=>Expr.Compare.elim (motive_1:=λ _=>Bool) y h λ l o r p=>one o λ o=>one r λ r=>f l o r p
def zZ(f:Expr->List Expr->Pos->Bool):Bool:=dX y.ctorIdx 16 λ h=>Expr.Call.elim (motive_1:=λ _=>Bool) y h λ g a k p=>k.isEmpty&&f g a p
def dList(f:List Expr->Pos->Bool):Bool:=dX y.ctorIdx 24 λ h=>Expr.List.elim (motive_1:=λ _=>Bool) y h f
def oX(f:List Expr->Nat->Pos->Bool):Bool:=dX y.ctorIdx 25 λ h=>Expr.Tuple.elim (motive_1:=λ _=>Bool) y h f
def FK(f:List (Option Expr)->List Expr->Pos->Bool):Bool:=dX y.ctorIdx 6 λ h=>Expr.Dict.elim (motive_1:=λ _=>Bool) y h f
def FL(f:Expr->List Comprehension->Scope->Pos->Bool):Bool:=dX y.ctorIdx 8 λ h=>Expr.ListComp.elim (motive_1:=λ _=>Bool) y h f
def FN(f:Expr->Pos->Bool):Bool:=dX z.ctorIdx 24 λ h=>Stmt.Expr.elim (motive_2:=λ _=>Bool) z h f
def z5(f:Expr->Expr->Pos->Bool):Bool:=dX z.ctorIdx 5 λ h=>Stmt.Assign.elim (motive_2:=λ _=>Bool) z h λ l v p=>one l λ t=>f t v p
def DG(f:Expr->Operator->Expr->Pos->Bool):Bool:=dX z.ctorIdx 7 λ h=>Stmt.AugAssign.elim (motive_2:=λ _=>Bool) z h f
def Ws(f:Expr->List Stmt->List Stmt->Pos->Bool):Bool:=dX z.ctorIdx 12 λ h=>Stmt.If.elim (motive_2:=λ _=>Bool) z h f
def z6(f:Expr->List Stmt->Pos->Bool):Bool:=dX z.ctorIdx 11 λ h=>Stmt.While.elim (motive_2:=λ _=>Bool) z h λ c b o p=>o.isEmpty&&f c b p
def IP(f:Expr->Expr->List Stmt->Pos->Bool):Bool:=dX z.ctorIdx 9 λ h=>Stmt.For.elim (motive_2:=λ _=>Bool) z h λ t i b o p=>o.isEmpty&&f t i b p
def IQ(f:Option Expr->Pos->Bool):Bool:=dX z.ctorIdx 3 λ h=>Stmt.Return.elim (motive_2:=λ _=>Bool) z h f
end
def aA(y:Expr)(f:Str->Pos->List Expr->Pos->Bool):Bool:=zZ y λ g a p=>gA g λ i q=>f i q a p
def jm(y:Expr):Bool:=aA y λ _ _ a _=>a.isEmpty
def isStar(y:Expr):Bool:=Nat.beq y.ctorIdx 22
def isSlice(y:Expr):Bool:=Nat.beq y.ctorIdx 26
def ÿ(y:Expr):Bool:=Nat.beq y.ctorIdx 8||(Nat.beq y.ctorIdx 9||Nat.beq y.ctorIdx 10)
def isSet(y:Expr):Bool:=Nat.beq y.ctorIdx 7
def z7(y:Expr):Bool:=Nat.beq y.ctorIdx 21
def cInt(i:Int)(c:Const):Bool:=dX c.ctorIdx 2 λ h=>Const.int.elim (motive:=λ _=>Bool) c h λ j=>decide (j=i)
def z8:Option Nat->Option Expr->Bool
 |none,none=>true
 |some n,some y=>nG y λ c _ _=>cInt n c
 |_,_=>false
def keysOk(T:Tab):List V->List (Option Expr)->Bool
 |[],l=>l.isEmpty
 |k::ks,l=>match l with
  |some y::r=>(nG y λ c _ _=>constOk T k c)&&keysOk T ks r
  |_=>false
def MZ(v:V):Option GV->Bool
 |some (.val w)=>MX v w
 |_=>false
def FP(l:List Int):Option GV->Bool
 |some (.keys k)=>decide (l=k)
 |_=>false
def Wt(f:Nat):Option GV->Bool
 |some (.fn g)=>decide (f=g)
 |_=>false
def M0(f:Nat):Option GV->Bool
 |some (.cls g)=>decide (f=g)
 |_=>false
def Wu(f:Bi):Option GV->Bool
 |some (.bi g)=>MW f g
 |_=>false
def iu:Option GV->Bool
 |some .range=>true
 |_=>false
def Ki(ù:Option Nat)(a:Bool)(f:Nat->Bool):Bool:=match ù with
 |none=>a
 |some r=>f r
def opt(o:Option Expr)(f:Expr->Bool):Bool:=match o with
 |none=>false
 |some v=>f v
def DH(k:NameKind)(o:Option NameKind):Bool:=match o with
 |some q=>decide (q=k)
 |none=>false
def freeOk(sc:ű):ű->Bool
 |[]=>true
 |(n,k)::r=>(if k=.free then DH .cell (Đ sc n)else decide (k≠.cell))&&freeOk sc r
def Ĵ(x:Str)(full:ű):ű->Bool
 |[]=>true
 |(n,k)::r=>(if k=.local then (seq n x||seq n ⟨#[46,48]⟩)&&DH .local (Đ full n)else true)&&Ĵ x full r
mutual
noncomputable def ï (T:Tab) (sc:ű):E->Expr->Bool
 |.const v,y=>nG y λ c _ _=>constOk T v c
 |.loc x,y=>gA y λ i _=>seq (T.nm x) i&&stored (Đ sc i)
 |.glob x v,y=>gA y λ i _=>eZ T sc x i&&MZ v (T.gl x)
 |.attr e x,y=>pN y λ v a _=>seq (T.nm x) a&&(!jm v&&ï T sc e v)
 |.sub e i,y=>zX y λ v s _=>!isSlice s&&(ï T sc e v&&ï T sc i s)
 |.slice e lo hi,y=>zX y λ v s _=>zY s λ a b _=>z8 lo a&&(z8 hi b&&ï T sc e v)
 |.bin o a b,y=>MY y λ l op r _=>me o op&&(ï T sc a l&&ï T sc b r)
 |.neg a,y=>Su y λ o v _=>decide (o=.USub)&&ï T sc a v
 |.not a,y=>Su y λ o v _=>decide (o=.Not)&&ï T sc a v
 |.and l,y=>eo y λ o vs _=>decide (o=.And)&&(!l.isEmpty&&æ T sc l vs)
 |.or l,y=>eo y λ o vs _=>decide (o=.Or)&&(!l.isEmpty&&æ T sc l vs)
 |.cmp o a b,y=>IM y λ l op r _=>zW o op&&(!isSet r&&(ï T sc a l&&ï T sc b r))
 |.BL a x ks,y=>IM y λ l op r _=>gA r λ i _=>zW .isin op&&(eZ T sc x i&&(FP ks (T.gl x)&&ï T sc a l))
 |.Ñ x f args,y=>aA y λ i _ as _=>eZ T sc x i&&(Wt f (T.gl x)&&æ T sc args as)
 |.new x c args,y=>aA y λ i _ as _=>eZ T sc x i&&(M0 c (T.gl x)&&æ T sc args as)
 |.bi x f args,y=>aA y λ i _ as _=>eZ T sc x i&&(Wu f (T.gl x)&&æ T sc args as)
 |.ì o x args,y=>zZ y λ g as p=>pN g λ v a q=>seq (T.nm x) a&&(!jm v&&((q.endLine==p.line)&&(decide (args.length<20)&&(ï T sc o v&&æ T sc args as))))
 |.list l,y=>dList y λ es _=>decide (l.length<=1000)&&æ T sc l es
 |.tup l,y=>oX y λ es _ _=>decide (l.length<=1000)&&æ T sc l es
 |.dict ks l,y=>FK y λ k v _=>decide (ks.length<=15)&&(keysOk T ks k&&æ T sc l v)
 |.comp elt x src ù ifs,y=>FL y λ xe gs sp _=>one gs λ g=>gA g.target λ n _=>decide (g.is_async=0)&&(seq (T.nm x) n&&(decide (sp.kind=.function)&&(DH .local (Đ sp.names n)
  &&(Ĵ n sp.names sp.names&&(freeOk sc sp.names&&(ï T sp.names elt xe&&(æ T sp.names ifs g.ifs&&Ki ù (!isSet g.iter&&ï T sc src g.iter) λ r=>aA g.iter λ i _ as _=>one as λ a=>eZ T sc r i&&(iu (T.gl r)&&(!isStar a&&ï T sc src a)))))))))
noncomputable def æ (T:Tab) (sc:ű):List E->List Expr->Bool
 |[],l=>l.isEmpty
 |e::r,l=>match l with
  |[]=>false
  |x::xs=>!isStar x&&(ï T sc e x&&æ T sc r xs)
end
def ļ(T:Tab)(sc:ű)(x:Nat)(y:Expr):Bool:=gA y λ i _=>seq (T.nm x) i&&ć (Đ sc i)
mutual
noncomputable def IU (T:Tab) (sc:ű):S->Stmt->Bool
 |.bad,_=>true
 |.expr e,y=>FN y λ v _=>!ÿ v&&ï T sc e v
 |.asg x e,y=>z5 y λ t v _=>gA t λ i _=>seq (T.nm x) i&&(ć (Đ sc i)&&ï T sc e v)
 |.ou x y e,z=>z5 z λ t v _=>oX t λ l _ _=>two l λ a b=>z7 v&&(ļ T sc x a&&(ļ T sc y b&&(decide (x≠y)&&ï T sc e v)))
 |.mA o x e,y=>z5 y λ t v _=>pN t λ u a _=>seq (T.nm x) a&&(ï T sc o u&&ï T sc e v)
 |.é o i e,y=>z5 y λ t v _=>zX t λ u s _=>!isSlice s&&(ï T sc o u&&(ï T sc i s&&ï T sc e v))
 |.mB x o e,y=>DG y λ t op v _=>gA t λ i _=>me o op&&(seq (T.nm x) i&&(ć (Đ sc i)&&ï T sc e v))
 |.jw b x o e,y=>DG y λ t op v _=>pN t λ u a _=>me o op&&(seq (T.nm x) a&&(ï T sc b u&&ï T sc e v))
 |.lj b i o e,y=>DG y λ t op v _=>zX t λ u s _=>me o op&&(!isSlice s&&(ï T sc b u&&(ï T sc i s&&ï T sc e v)))
 |.ite c t f,y=>Ws y λ u a b _=>ï T sc c u&&(bQ T sc t a&&bQ T sc f b)
 |.while c b,y=>z6 y λ u a _=>ï T sc c u&&bQ T sc b a
 |.Č x e ù b,y=>IP y λ t i a _=>ļ T sc x t&&(bQ T sc b a&&Ki ù (!isSet i&&ï T sc e i) λ w=>aA i λ id _ as _=>one as λ a=>eZ T sc w id&&(iu (T.gl w)&&(!isStar a&&ï T sc e a)))
 |.g_ x y e b,z=>IP z λ t i a _=>oX t λ l _ _=>two l λ u v=>ļ T sc x u&&(ļ T sc y v&&(decide (x≠y)&&(!isSet i&&(ï T sc e i&&bQ T sc b a))))
 |.ret none,y=>IQ y λ o _=>o.isNone
 |.ret (some e),y=>IQ y λ o _=>opt o λ v=>ï T sc e v
noncomputable def bQ (T:Tab) (sc:ű):List S->List Stmt->Bool
 |[],l=>l.isEmpty
 |s::r,l=>match l with
  |[]=>false
  |x::xs=>IU T sc s x&&bQ T sc r xs
end
def z9(T:Tab)(sc:ű):List Nat->List Arg->Bool
 |[],l=>l.isEmpty
 |x::xs,l=>match l with
  |[]=>false
  |a::as=>seq (T.nm x) a.arg&&(ć (Đ sc a.arg)&&z9 T sc xs as)
def rZ:List Nat->Bool
 |[]=>true
 |x::r=>!r.contains x&&rZ r
def nH:ű->Bool
 |[]=>true
 |(n,k)::r=>(decide (k≠.free)&&decide (k≠.globalExplicit))&&((Đ r n).isNone&&nH r)
def uA(a:Arguments):Bool:=a.posonlyargs.isEmpty&&(a.vararg.isNone&&(a.kwonlyargs.isEmpty&&(a.kw_defaults.isEmpty&&(a.kwarg.isNone&&a.defaults.isEmpty))))
def pO(T:Tab)(f:Fn)(a:Arguments)(b:List Stmt)(sc:Scope):Bool:=decide (sc.kind=.function)&&(!sc.isGenerator&&(!sc.isCoroutine&&(nH sc.names&&(uA a&&(z9 T sc.names f.params a.args&&(rZ f.params&&bQ T sc.names f.body b))))))
end
end Mine
namespace Mine
open PySem
noncomputable section
variable{α:Type}{ks:List V}
theorem vb{a b:Bool}(h:V.bool a=V.bool b):a=b:=by cases h;rfl
theorem bn{a:Bool}(h:(!a)=true):a=false:=by
 cases a with
 |false=>rfl
 |true=>exact ft h
theorem an{a b:Bool}(h:(a&&b)=true):a=true/\b=true:=XK.mp h
theorem ŗ{a b c:Bool}(h:(a&&(b&&c))=true):a=true/\b=true/\c=true:=⟨(an h).1,an (an h).2⟩
theorem eI{a b c d:Bool}(h:(a&&(b&&(c&&d)))=true):a=true/\b=true/\c=true/\d=true:=⟨(an h).1,ŗ (an h).2⟩
theorem Kj{a b c d e:Bool}(h:(a&&(b&&(c&&(d&&e))))=true):a=true/\b=true/\c=true/\d=true/\e=true:=⟨(an h).1,eI (an h).2⟩
theorem Wv{a b c d e f:Bool}(h:(a&&(b&&(c&&(d&&(e&&f)))))=true):a=true/\b=true/\c=true/\d=true/\e=true/\f=true:=⟨(an h).1,Kj (an h).2⟩
theorem z_{l:List α}(h:l.isEmpty=true):l=[]:=ZK.mp h
theorem M1{l:Option α}(h:l.isNone=true):l=none:=by
 cases l with
 |none=>rfl
 |some _=>exact ft h
theorem Ċ{n m:Nat}{f:n=m->Bool}{P:Prop}(h:dX n m f=true)(k:∀e,f e=true->P):P:=if q:n=m then k q ((dif_pos q).symm.trans h)else ft ((dif_neg q).symm.trans h)
theorem kE{l:List α}{f:α->Bool}{P:List α->Prop}(h:one l f=true)(k:∀a,f a=true->P [a]):P l:=by
 cases l with
 |nil=>exact ft h
 |cons a r=>cases r with
  |nil=>exact k a h
  |cons _ _=>exact ft h
theorem Aa{l:List α}{f:α->α->Bool}{P:List α->Prop}(h:two l f=true)(k:∀a b,f a b=true->P [a,b]):P l:=by
 cases l with
 |nil=>exact ft h
 |cons a r=>cases r with
  |nil=>exact ft h
  |cons b r=>cases r with
   |nil=>exact k a b h
   |cons _ _=>exact ft h
theorem IV{ù:Option Nat}{a:Bool}{f:Nat->Bool}{P:Option Nat->Prop}(h:Ki ù a f=true)(k:a=true->P none)(k':∀r,f r=true->P (some r)):P ù:=by
 cases ù with
 |none=>exact k h
 |some r=>exact k' r h
theorem IW{o:Option Expr}{f:Expr->Bool}{P:Option Expr->Prop}(h:opt o f=true)(k:∀r,f r=true->P (some r)):P o:=by
 cases o with
 |none=>exact ft h
 |some r=>exact k r h
section
variable{y:Expr}{z:Stmt}{P:Expr->Prop}{Q:Stmt->Prop}
theorem aY{f:Const->Nat->Pos->Bool}(h:nG y f=true)(k:∀c n p,f c n p=true->P (.Constant c n p)):P y:=Ċ h λ e q=>Expr.Constant.elim (motive_1:=λ y=>∀e:y.ctorIdx=19,Expr.Constant.elim (motive_1:=λ _=>Bool) y e f=true->P y) y e (λ c n p _ q=>k c n p q) e q
theorem Ě{f:Str->Pos->Bool}(h:gA y f=true)(k:∀i p,f i p=true->P (.Name i p)):P y:=Ċ h λ e q=>Expr.Name.elim (motive_1:=λ y=>∀e:y.ctorIdx=23,Expr.Name.elim (motive_1:=λ _=>Bool) y e f=true->P y) y e (λ i p _ q=>k i p q) e q
theorem aZ{f:Expr->Str->Pos->Bool}(h:pN y f=true)(k:∀v a p,f v a p=true->P (.Attribute v a p)):P y:=Ċ h λ e q=>Expr.Attribute.elim (motive_1:=λ y=>∀e:y.ctorIdx=20,Expr.Attribute.elim (motive_1:=λ _=>Bool) y e f=true->P y) y e (λ v a p _ q=>k v a p q) e q
theorem aq{f:Expr->Expr->Pos->Bool}(h:zX y f=true)(k:∀v s p,f v s p=true->P (.Subscript v s p)):P y:=Ċ h λ e q=>Expr.Subscript.elim (motive_1:=λ y=>∀e:y.ctorIdx=21,Expr.Subscript.elim (motive_1:=λ _=>Bool) y e f=true->P y) y e (λ v s p _ q=>k v s p q) e q
theorem nK{f:Expr->Operator->Expr->Pos->Bool}(h:MY y f=true)(k:∀l o r p,f l o r p=true->P (.BinOp l o r p)):P y:=Ċ h λ e q=>Expr.BinOp.elim (motive_1:=λ y=>∀e:y.ctorIdx=2,Expr.BinOp.elim (motive_1:=λ _=>Bool) y e f=true->P y) y e (λ l o r p _ q=>k l o r p q) e q
theorem iw{f:UnaryOp->Expr->Pos->Bool}(h:Su y f=true)(k:∀o v p,f o v p=true->P (.UnaryOp o v p)):P y:=Ċ h λ e q=>Expr.UnaryOp.elim (motive_1:=λ y=>∀e:y.ctorIdx=3,Expr.UnaryOp.elim (motive_1:=λ _=>Bool) y e f=true->P y) y e (λ o v p _ q=>k o v p q) e q
theorem a_{f:BoolOp->List Expr->Pos->Bool}(h:eo y f=true)(k:∀o l p,f o l p=true->P (.BoolOp o l p)):P y:=Ċ h λ e q=>Expr.BoolOp.elim (motive_1:=λ y=>∀e:y.ctorIdx=0,Expr.BoolOp.elim (motive_1:=λ _=>Bool) y e f=true->P y) y e (λ o l p _ q=>k o l p q) e q
theorem kF{f:List Expr->Pos->Bool}(h:dList y f=true)(k:∀l p,f l p=true->P (.List l p)):P y:=Ċ h λ e q=>Expr.List.elim (motive_1:=λ y=>∀e:y.ctorIdx=24,Expr.List.elim (motive_1:=λ _=>Bool) y e f=true->P y) y e (λ l p _ q=>k l p q) e q
theorem gD{f:List Expr->Nat->Pos->Bool}(h:oX y f=true)(k:∀l n p,f l n p=true->P (.Tuple l n p)):P y:=Ċ h λ e q=>Expr.Tuple.elim (motive_1:=λ y=>∀e:y.ctorIdx=25,Expr.Tuple.elim (motive_1:=λ _=>Bool) y e f=true->P y) y e (λ l n p _ q=>k l n p q) e q
theorem kG{f:List (Option Expr)->List Expr->Pos->Bool}(h:FK y f=true)(k:∀m v p,f m v p=true->P (.Dict m v p)):P y:=Ċ h λ e q=>Expr.Dict.elim (motive_1:=λ y=>∀e:y.ctorIdx=6,Expr.Dict.elim (motive_1:=λ _=>Bool) y e f=true->P y) y e (λ m v p _ q=>k m v p q) e q
theorem pP{f:Expr->List Comprehension->Scope->Pos->Bool}(h:FL y f=true)(k:∀x g s p,f x g s p=true->P (.ListComp x g s p)):P y:=Ċ h λ e q=>Expr.ListComp.elim (motive_1:=λ y=>∀e:y.ctorIdx=8,Expr.ListComp.elim (motive_1:=λ _=>Bool) y e f=true->P y) y e (λ x g s p _ q=>k x g s p q) e q
theorem vZ{f:Option Expr->Option Expr->Pos->Bool}(h:zY y f=true)(k:∀a b p,f a b p=true->P (.Slice a b none p)):P y:=Ċ h λ e q=>Expr.Slice.elim (motive_1:=λ y=>∀e:y.ctorIdx=26,Expr.Slice.elim (motive_1:=λ _=>Bool) y e (λ a b c p=>c.isNone&&f a b p)=true->P y) y e (λ a b c p _ q=>(M1 (an q).1).symm▸k a b p (an q).2) e q
theorem dw{f:Expr->CmpOp->Expr->Pos->Bool}(h:IM y f=true)(k:∀l o r p,f l o r p=true->P (.Compare l [o] [r] p)):P y:=Ċ h λ e q=>Expr.Compare.elim (motive_1:=λ y=>∀e:y.ctorIdx=15,Expr.Compare.elim (motive_1:=λ _=>Bool) y e (λ l o r p=>one o λ o=>one r λ r=>f l o r p)=true->P y) y e (λ l o r p _ q=>kE (P:=λ o=>P (.Compare l o r p)) q λ o q=>kE (P:=λ r=>P (.Compare l [o] r p)) q λ r q=>k l o r p q) e q
theorem Ų{f:Expr->List Expr->Pos->Bool}(h:zZ y f=true)(k:∀g a p,f g a p=true->P (.Call g a [] p)):P y:=Ċ h λ e q=>Expr.Call.elim (motive_1:=λ y=>∀e:y.ctorIdx=16,Expr.Call.elim (motive_1:=λ _=>Bool) y e (λ g a k p=>k.isEmpty&&f g a p)=true->P y) y e (λ g a b p _ q=>(z_ (an q).1).symm▸k g a p (an q).2) e q
theorem ł{f:Str->Pos->List Expr->Pos->Bool}(h:aA y f=true)(k:∀i q a p,f i q a p=true->P (.Call (.Name i q) a [] p)):P y:=Ų h λ g a p h=>Ě (P:=λ g=>P (.Call g a [] p)) h λ i q h=>k i q a p h
theorem Ab{f:Expr->Pos->Bool}(h:FN z f=true)(k:∀v p,f v p=true->Q (.Expr v p)):Q z:=Ċ h λ e q=>Stmt.Expr.elim (motive_2:=λ z=>∀e:z.ctorIdx=24,Stmt.Expr.elim (motive_2:=λ _=>Bool) z e f=true->Q z) z e (λ v p _ q=>k v p q) e q
theorem nN{f:Expr->Operator->Expr->Pos->Bool}(h:DG z f=true)(k:∀t o v p,f t o v p=true->Q (.AugAssign t o v p)):Q z:=Ċ h λ e q=>Stmt.AugAssign.elim (motive_2:=λ z=>∀e:z.ctorIdx=7,Stmt.AugAssign.elim (motive_2:=λ _=>Bool) z e f=true->Q z) z e (λ t o v p _ q=>k t o v p q) e q
theorem IX{f:Expr->List Stmt->List Stmt->Pos->Bool}(h:Ws z f=true)(k:∀c a b p,f c a b p=true->Q (.If c a b p)):Q z:=Ċ h λ e q=>Stmt.If.elim (motive_2:=λ z=>∀e:z.ctorIdx=12,Stmt.If.elim (motive_2:=λ _=>Bool) z e f=true->Q z) z e (λ c a b p _ q=>k c a b p q) e q
theorem uB{f:Option Expr->Pos->Bool}(h:IQ z f=true)(k:∀o p,f o p=true->Q (.Return o p)):Q z:=Ċ h λ e q=>Stmt.Return.elim (motive_2:=λ z=>∀e:z.ctorIdx=3,Stmt.Return.elim (motive_2:=λ _=>Bool) z e f=true->Q z) z e (λ o p _ q=>k o p q) e q
theorem jn{f:Expr->Expr->Pos->Bool}(h:z5 z f=true)(k:∀t v p,f t v p=true->Q (.Assign [t] v p)):Q z:=Ċ h λ e q=>Stmt.Assign.elim (motive_2:=λ z=>∀e:z.ctorIdx=5,Stmt.Assign.elim (motive_2:=λ _=>Bool) z e (λ l v p=>one l λ t=>f t v p)=true->Q z) z e (λ l v p _ q=>kE (P:=λ l=>Q (.Assign l v p)) q λ t q=>k t v p q) e q
theorem v7{f:Expr->List Stmt->Pos->Bool}(h:z6 z f=true)(k:∀c b p,f c b p=true->Q (.While c b [] p)):Q z:=Ċ h λ e q=>Stmt.While.elim (motive_2:=λ z=>∀e:z.ctorIdx=11,Stmt.While.elim (motive_2:=λ _=>Bool) z e (λ c b o p=>o.isEmpty&&f c b p)=true->Q z) z e (λ c b o p _ q=>(z_ (an q).1).symm▸k c b p (an q).2) e q
theorem uC{f:Expr->Expr->List Stmt->Pos->Bool}(h:IP z f=true)(k:∀t i b p,f t i b p=true->Q (.For t i b [] p)):Q z:=Ċ h λ e q=>Stmt.For.elim (motive_2:=λ z=>∀e:z.ctorIdx=9,Stmt.For.elim (motive_2:=λ _=>Bool) z e (λ t i b o p=>o.isEmpty&&f t i b p)=true->Q z) z e (λ t i b o p _ q=>(z_ (an q).1).symm▸k t i b p (an q).2) e q
theorem DI{j:Int}{o:Const}(h:cInt j o=true):o=.int j:=Ċ h λ e q=>Const.int.elim (motive:=λ o=>∀e:o.ctorIdx=2,Const.int.elim (motive:=λ _=>Bool) o e (λ i=>decide (i=j))=true->o=.int j) o e (λ i _ q=>Xq _ (XA q)) e q
end
section
variable{T:Tab}{sc:ű}{e:E}{x:Nat}{l:List E}
theorem DJ{v:V}{g:Option GV}(h:MZ v g=true):∃w,g\(.val w)/\MX v w=true:=by
 cases g with
 |none=>exact ft h
 |some g=>cases g with
  |val w=>exact⟨w,rfl,h⟩
  |_=>exact ft h
theorem pQ{k:List Int}{g:Option GV}(h:FP k g=true):g\(.keys k):=by
 cases g with
 |none=>exact ft h
 |some g=>cases g with
  |keys w=>exact Xq _ (Xq _ (XA h).symm)
  |_=>exact ft h
theorem IY{k:Nat}{g:Option GV}(h:Wt k g=true):g\(.fn k):=by
 cases g with
 |none=>exact ft h
 |some g=>cases g with
  |fn w=>exact Xq _ (Xq _ (XA h).symm)
  |_=>exact ft h
theorem DK{k:Nat}{g:Option GV}(h:M0 k g=true):g\(.cls k):=by
 cases g with
 |none=>exact ft h
 |some g=>cases g with
  |cls w=>exact Xq _ (Xq _ (XA h).symm)
  |_=>exact ft h
theorem DM{a b:Bi}(h:MW a b=true):a=b:=by cases a<;>cases b<;>first|rfl|exact ft h
theorem I1{k:Bi}{g:Option GV}(h:Wu k g=true):g\(.bi k):=by
 cases g with
 |none=>exact ft h
 |some g=>cases g with
  |bi w=>exact Xq _ (Xq _ (DM h).symm)
  |_=>exact ft h
theorem v8{g:Option GV}(h:iu g=true):g=some .range:=by
 cases g with
 |none=>exact ft h
 |some g=>cases g with
  |range=>rfl
  |_=>exact ft h
theorem nO{k:NameKind}{g:Option NameKind}(h:DH k g=true):g\k:=by
 cases g with
 |none=>exact ft h
 |some g=>exact Xq _ (XA h)
theorem kH{v:V}{k:Const}{P:V->Const->Prop}(h:constOk T v k=true)(a:P .none .none)(b:∀b,P (.bool b) (.bool b))(i:∀i,P (.int i) (.int i))(d:∀x s,seq (T.nm x) s=true->P (.str x) (.str s)):P v k:=by
 cases v with
 |none=>exact Const.none.elim (motive:=P .none) k (YM h) a
 |bool x=>exact Ċ h λ e q=>Const.bool.elim (motive:=λ k=>∀e:k.ctorIdx=1,Const.bool.elim (motive:=λ _=>Bool) k e (λ b=>x==b)=true->P (.bool x) k) k e (λ y _ q=>Zy q▸b x) e q
 |int x=>exact Ċ h λ e q=>Const.int.elim (motive:=λ k=>∀e:k.ctorIdx=2,Const.int.elim (motive:=λ _=>Bool) k e (λ b=>decide (x=b))=true->P (.int x) k) k e (λ y _ q=>XA q▸i x) e q
 |str x=>exact Ċ h λ e q=>Const.str.elim (motive:=λ k=>∀e:k.ctorIdx=5,Const.str.elim (motive:=λ _=>Bool) k e (λ s=>seq (T.nm x) s)=true->P (.str x) k) k e (λ y _ q=>d x y q) e q
 |_=>exact ft h
theorem FQ{k:V}{ys:List (Option Expr)}{P:List (Option Expr)->Prop}(h:keysOk T (k::ks) ys=true)(q:∀ct kk pp r,constOk T k ct=true->keysOk T ks r=true->P (some (.Constant ct kk pp)::r)):P ys:=by
 cases ys with
 |nil=>exact ft h
 |cons o r=>
  cases o with
  |none=>exact ft h
  |some y=>exact aY (P:=λ y=>P (some y::r)) (an h).1 λ ct kk pp U=>q ct kk pp r U (an h).2
theorem Ad{ys:List (Option Expr)}(h:keysOk T [] ys=true):ys=[]:=z_ h
theorem bR{ys:List Expr}(h:æ T sc [] ys=true):ys=[]:=z_ h
theorem ų{ys:List Expr}{P:List Expr->Prop}(h:æ T sc (e::l) ys=true)(k:∀x xs,isStar x=false->ï T sc e x=true->æ T sc l xs=true->P (x::xs)):P ys:=by
 cases ys with
 |nil=>exact ft h
 |cons x xs=>exact k x xs (bn (an h).1) (an (an h).2).1 (an (an h).2).2
theorem I2{ys:List Stmt}(h:bQ T sc [] ys=true):ys=[]:=z_ h
theorem DN{s:S}{l:List S}{ys:List Stmt}{P:List Stmt->Prop}(h:bQ T sc (s::l) ys=true)(k:∀x xs,IU T sc s x=true->bQ T sc l xs=true->P (x::xs)):P ys:=by
 cases ys with
 |nil=>exact ft h
 |cons x xs=>exact k x xs (an h).1 (an h).2
theorem I3{src:E}{ù:Option Nat}{it:Expr}{P:Option Nat->Expr->Prop}(h:Ki ù (!isSet it&&ï T sc src it) (λ r=>aA it λ i _ as _=>one as λ a=>eZ T sc r i&&(iu (T.gl r)&&(!isStar a&&ï T sc src a)))=true)
  (k:isSet it=false->ï T sc src it=true->P none it) (k':∀r id np a p,eZ T sc r id=true->T.gl r=some .range->isStar a=false->ï T sc src a=true->P (some r) (.Call (.Name id np) [a] [] p)):P ù it:=
 IV (P:=λ ù=>P ù it) h (λ h=>k (bn (an h).1) (an h).2) λ r h=>ł (P:=λ it=>P (some r) it) h λ i q as p h=>kE (P:=λ as=>P (some r) (.Call (.Name i q) as [] p)) h λ a h=>k' r i q a p (eI h).1 (v8 (eI h).2.1) (bn (eI h).2.2.1) (eI h).2.2.2
end
end
end Mine
namespace Mine
open PySem PySem.W
noncomputable section
variable{α:Type}{us:List Value}
structure Cx where
 T:Tab
 prog:Program
 w:World
 K:Frag
 H0:Heap
 mg:Str->Option Value
 mb:Str->Option Value
 cls:Nat->Addr
 fn:Nat->Addr
 sig:sZ
abbrev Pl:=List (List Addr)
abbrev ģ(vs:Array Value)(n:Nat):Obj:={cls:=.type "tuple",data:=.seq vs n}
abbrev Ť(vs:Array Value)(n:Nat):Obj:={cls:=.type "list",data:=.seq vs n}
abbrev Ľ(es:List DictEntry)(n:Nat):Obj:={cls:=.type "dict",data:=.dict es.toArray n}
mutual
noncomputable def VR (c:Cx) (φ:Pl) (h:Heap):V->Value->Prop
 |.none,u=>u=.none
 |.bool b,u=>u=.bool b
 |.int i,u=>∃t,u=.int i t
 |.str k,u=>∃t,u=.str (c.T.nm k) t
 |.ref i,u=>∃a d,φ[i]?\(a::d)/\u=.ref a
 |.tup l,u=>∃a vs n,u=.ref a/\h.get? a\(ģ vs n)/\ö c φ h l vs.toList
 |.fl l,u=>∃a vs n,u=.ref a/\c.H0.get? a\(Ť vs n)/\PyProof.Rows.IntsAre vs.toList l
noncomputable def ö (c:Cx) (φ:Pl) (h:Heap):List V->List Value->Prop
 |[],us=>us=[]
 |x::l,us=>∃u r,us=u::r/\VR c φ h x u/\ö c φ h l r
end
def Ae(c:Cx):V->Int ⊕ Str->Prop
 |.int i,x=>x=.inl i
 |.str k,x=>x=.inr (c.T.nm k)
 |_,_=>False
def ER(c:Cx)(φ:Pl)(h:Heap):List (V×V)->List ((Int ⊕ Str)×Value)->Prop:=LR λ p q=>Ae c p.1 q.1/\VR c φ h p.2 q.2
def ET(c:Cx)(φ:Pl)(h:Heap):List (V×V)->List (KT×Addr×Value)->Prop:=LR λ p q=>(∃l,p.1=.tup l/\dF l\q.1/\VR c φ h (.tup l) (.ref q.2.1))/\VR c φ h p.2 q.2.2
abbrev Cx.kv(c:Cx):=IJ c.prog c.w
abbrev Cx.ki(c:Cx):=intKind c.prog c.w
abbrev Cx.kt(c:Cx):=II c.prog c.w
def DR(c:Cx)(φ:Pl)(h:Heap)(a:Addr)(es:List (V×V)):Prop:=(∃kvs,h.DictOf c.kv a kvs/\ER c φ h es kvs)\/(∃xs n,h.get? a\(Ľ (xs.map (entryOfKey c.kt)) n)/\(xs.map (·.1)).Nodup/\ET c φ h es xs)
def xc(c:Cx)(φ:Pl)(h:Heap):List (Nat×V)->List DictEntry->Prop:=LR λ p d=>∃t u,d=⟨PyData.keyHash c.w.params (c.T.nm p.1),.str (c.T.nm p.1) t,u⟩/\VR c φ h p.2 u
def OR(c:Cx)(φ:Pl)(h:Heap)(as:List Addr):O->Prop
 |.list l=>∃a vs n,as=[a]/\h.get? a\(Ť vs n)/\ö c φ h l vs.toList/\l.length<=lim
 |.dict es=>∃a,as=[a]/\DR c φ h a es/\es.length<=lim
 |.inst k fs=>∃a d ds n,as=[a,d]/\h.get? a\⟨.ref (c.cls k),some d,.plain,#[]⟩/\h.get? d\(Ľ ds n)/\xc c φ h fs ds/\fs.length<=900/\(c.sig.init k).isSome=true/\∀p∈fs,c.sig.fld k p.1=true
structure Rel (c:Cx) (φ:Pl) (σ:St) (h:Heap):Prop where
 len:φ.length=σ.n
 objs:∀i o,σ.get i\o->∃as,φ[i]?\as/\OR c φ h as o
 nodup:φ.flatten.Nodup
 above:∀b∈φ.flatten,c.H0.get? b=none
 e9:∀b o,c.H0.get? b\o->h.get? b\o
 full:∀i,i<σ.n->∃o,σ.get i\o
structure Step (X:List Addr) (φ ð:Pl) (s s':Shared):Prop where
 ext:∃ψ,ð=φ++ψ/\∀b∈ψ.flatten,s.heap.get? b=none
 alive:∀b,(s.heap.get? b).isSome=true->(s'.heap.get? b).isSome=true
 keep:∀b o,s.heap.get? b\o->b∉φ.flatten->b∉X->s'.heap.get? b\o
 tup:∀b vs n,s.heap.get? b\(ģ vs n)->s'.heap.get? b\(ģ vs n)
 gens:s'.gens=s.gens
 os:s'.os=s.os
 drawn:s'.drawn=s.drawn
theorem Step.refl(X:List Addr)(φ:Pl)(s:Shared):Step X φ φ s s:=⟨⟨[],(XQ φ).symm,λ _ h=>nomatch h⟩,λ _ h=>h,λ _ _ e _ _=>e,λ _ _ _ e=>e,rfl,rfl,rfl⟩
theorem ba{o:Option α}{P:Prop}(h:o.isSome=true)(e:o=none):P:=by rw[e]at h;exact ft h
theorem Ħ{o:Option α}{a:α}{P:Prop}(h:o\a)(e:o=none):P:=by rw[e]at h;exact ns h
theorem none_of{o p:Option α}(h:o.isSome=true->p.isSome=true)(e:p=none):o=none:=by
 cases o with
 |none=>rfl
 |some a=>exact ba (h rfl) e
theorem bz{φ ψ:Pl}{b:Addr}{P:Prop}(h:b∈(φ++ψ).flatten)(k:b∈φ.flatten->P)(k':b∈ψ.flatten->P):P:=(XC.mp (Y3▸h)).elim k k'
theorem Step.trans{X:List Addr}{φ Á Û:Pl}{s Â s₂:Shared}(x:Step X φ Á s Â)(y:Step X Á Û Â s₂):Step X φ Û s s₂ where
 ext:=x.ext.elim λ ψ h=>y.ext.elim λ Ww h'=>⟨ψ++Ww,(h'.1^(Xq (·++Ww) h.1))^(X4 ..),λ b hb=>bz hb (h.2 b) λ hb=>none_of (x.alive b) (h'.2 b hb)⟩
 alive b h:=y.alive b (x.alive b h)
 keep b o e n m:=y.keep _ _ (x.keep _ _ e n m) (x.ext.elim λ ψ h=>h.1▸λ q=>bz q n λ q=>Ħ e (h.2 b q)) m
 tup b vs n e:=y.tup _ _ _ (x.tup _ _ _ e)
 gens:=y.gens^x.gens
 os:=y.os^x.os
 drawn:=y.drawn^x.drawn
theorem Step.mono{X ZZ9:List Addr}{φ ð:Pl}{s s':Shared}(x:Step X φ ð s s')(h:∀b∈X,b∈ZZ9):Step ZZ9 φ ð s s':=⟨x.ext,x.alive,λ b o e n m=>x.keep b o e n (λ q=>m (h b q)),x.tup,x.gens,x.os,x.drawn⟩
theorem e_{φ ψ:Pl}{i:Nat}{x:List Addr}(h:φ[i]?\x):(φ++ψ)[i]?\x:=(Yp (Xv.mp h).1).trans h
def Tk(h h':Heap):Prop:=∀b vs n,h.get? b\(ģ vs n)->h'.get? b\(ģ vs n)
theorem ö.lr{c:Cx}{φ:Pl}{h:Heap}{l:List V}:∀{us:List Value},ö c φ h l us↔LR (VR c φ h) l us:=by
 induction l with
 |nil=>exact fun {us}=>⟨λ x=>(show us=[]from x)▸.nil,λ x=>(LR.DD x:us=[])⟩
 |cons a l ih=>exact fun {us}=>⟨λ x=>(show ∃u r,us=u::r/\VR c φ h a u/\ö c φ h l r from x).elim λ u x=>x.elim λ r x=>x.1▸.cons x.2.1 (ih.mp x.2.2),λ x=>x.zR λ u r e y x=>⟨u,r,e,y,ih.mpr x⟩⟩
theorem VR.mono{c:Cx}{φ ψ:Pl}{h h':Heap}(ht:Tk h h'){v:V}:∀{u:Value},VR c φ h v u->VR c (φ++ψ) h' v u:=by
 refine V.rec (motive_1:=λ v=>∀{u:Value},VR c φ h v u->VR c (φ++ψ) h' v u) (motive_2:=λ l=>∀{us:List Value},ö c φ h l us->ö c (φ++ψ) h' l us) ?_ ?_ ?_ ?_ ?_ ?_ ?_ ?_ ?_ v
 ·exact λ x=>x
 ·exact λ _ _ x=>x
 ·exact λ _ _ x=>x
 ·exact λ _ _ x=>x
 ·exact λ i u x=>(show ∃a d,φ[i]?\(a::d)/\u=.ref a from x).elim λ a x=>x.elim λ d x=>⟨a,d,e_ x.1,x.2⟩
 ·exact λ l ih u x=>(show ∃a vs n,u=.ref a/\h.get? a\(ģ vs n)/\ö c φ h l vs.toList from x).elim λ a x=>x.elim λ vs x=>x.elim λ n x=>⟨a,vs,n,x.1,ht _ _ _ x.2.1,ih x.2.2⟩
 ·exact λ _ _ x=>x
 ·exact λ x=>x
 ·exact λ a l ha ih us x=>(show ∃u r,us=u::r/\VR c φ h a u/\ö c φ h l r from x).elim λ u x=>x.elim λ r x=>⟨u,r,x.1,ha x.2.1,ih x.2.2⟩
theorem ö.mono{c:Cx}{φ ψ:Pl}{h h':Heap}(ht:Tk h h'){l:List V}{us:List Value}(x:ö c φ h l us):ö c (φ++ψ) h' l us:=ö.lr.mpr ((ö.lr.mp x).imp λ _ _=>VR.mono ht)
theorem FT{P:Pl->Prop}{φ:Pl}(x:P (φ++[])):P φ:=(XQ φ)▸x
theorem VR.step{c:Cx}{X:List Addr}{φ ð:Pl}{s s':Shared}(st:Step X φ ð s s'){v:V}{u:Value}(x:VR c φ s.heap v u):VR c ð s'.heap v u:=st.ext.elim λ _ h=>h.1▸x.mono st.tup
theorem ö.step{c:Cx}{X:List Addr}{φ ð:Pl}{s s':Shared}(st:Step X φ ð s s'){v:List V}{u:List Value}(x:ö c φ s.heap v u):ö c ð s'.heap v u:=st.ext.elim λ _ h=>h.1▸x.mono st.tup
theorem ER.mono{c:Cx}{φ ψ:Pl}{h h':Heap}(ht:Tk h h'){l:List (V×V)}{ds}(x:ER c φ h l ds):ER c (φ++ψ) h' l ds:=LR.imp x λ _ _ x=>⟨x.1,x.2.mono ht⟩
theorem ET.mono{c:Cx}{φ ψ:Pl}{h h':Heap}(ht:Tk h h'){l:List (V×V)}{ds}(x:ET c φ h l ds):ET c (φ++ψ) h' l ds:=LR.imp x λ _ _ x=>⟨x.1.elim λ l x=>⟨l,x.1,x.2.1,x.2.2.mono ht⟩,x.2.mono ht⟩
theorem iV{prog:Program}{w:World}{K:Type}[DecidableEq K]{knd:KeyKind prog w K}{h h':Heap}{a:Addr}{kvs:List (K×Value)}(hk:∀o,h.get? a\o->h'.get? a\o)(x:h.DictOf knd a kvs):h'.DictOf knd a kvs:=x.elim λ o x=>x.elim λ es x=>x.elim λ ep x=>⟨o,es,ep,hk o x.1,x.2⟩
theorem DR.mono{c:Cx}{φ ψ:Pl}{h h':Heap}(ht:Tk h h'){a:Addr}{es:List (V×V)}(hk:∀o,h.get? a\o->h'.get? a\o)(x:DR c φ h a es):DR c (φ++ψ) h' a es:=x.elim (λ x=>x.elim λ kvs x=>.inl ⟨kvs,iV hk x.1,x.2.mono ht⟩) λ x=>x.elim λ xs x=>x.elim λ n x=>.inr ⟨xs,n,hk _ x.1,x.2.1,x.2.2.mono ht⟩
theorem nP{o:Obj}{es ep}(c:o.ExactDict)(d:o.data=.dict es ep):o=Ľ es.toList ep:=by cases o;cases c.1;cases c.2.1;cases c.2.2;cases d;rfl
theorem kJ{prog:Program}{w:World}{K:Type}[DecidableEq K]{knd:KeyKind prog w K}{h:Heap}{a:Addr}{kvs:List (K×Value)}(x:h.DictOf knd a kvs):∃ds n,h.get? a\(Ľ ds n):=x.elim λ o x=>x.elim λ es x=>x.elim λ ep x=>⟨es.toList,ep,x.1^(Xq some (nP x.2.1 x.2.2.1))⟩
theorem DR.obj{c:Cx}{φ:Pl}{h:Heap}{a:Addr}{es:List (V×V)}(x:DR c φ h a es):∃ds n,h.get? a\(Ľ ds n):=x.elim (λ x=>x.elim λ _ x=>kJ x.1) λ x=>x.elim λ _ x=>x.elim λ n x=>⟨_,n,x.1⟩
theorem xc.mono{c:Cx}{φ ψ:Pl}{h h':Heap}(ht:Tk h h'){l:List (Nat×V)}{ds:List DictEntry}(x:xc c φ h l ds):xc c (φ++ψ) h' l ds:=LR.imp x λ _ _ x=>x.elim λ t x=>x.elim λ u x=>⟨t,u,x.1,x.2.mono ht⟩
theorem OR.mono{c:Cx}{φ ψ:Pl}{h h':Heap}(ht:Tk h h'){as:List Addr}(hk:∀a∈as,∀o,h.get? a\o->h'.get? a\o){o:O}(x:OR c φ h as o):OR c (φ++ψ) h' as o:=by
 cases o with
 |list l=>exact x.elim λ a x=>x.elim λ vs x=>x.elim λ n x=>⟨a,vs,n,x.1,hk a (x.1▸.head _) _ x.2.1,x.2.2.1.mono ht,x.2.2.2⟩
 |dict es=>exact x.elim λ a x=>⟨a,x.1,x.2.1.mono ht (hk a (x.1▸.head _)),x.2.2⟩
 |inst k fs=>exact x.elim λ a x=>x.elim λ d x=>x.elim λ ds x=>x.elim λ n x=>⟨a,d,ds,n,x.1,hk a (x.1▸.head _) _ x.2.1,hk d (x.1▸.tail _ (.head _)) _ x.2.2.1,x.2.2.2.1.mono ht,x.2.2.2.2⟩
theorem ö.length{c:Cx}{φ:Pl}{h:Heap}{l:List V}{us:List Value}(x:ö c φ h l us):us.length=l.length:=(ö.lr.mp x).len
theorem ö.get{c:Cx}{φ:Pl}{h:Heap}{l:List V}{us:List Value}{i:Nat}{v:V}(x:ö c φ h l us)(e:l[i]?\v):∃u,us[i]?\u/\VR c φ h v u:=(ö.lr.mp x).get e
theorem ö.append{c:Cx}{φ:Pl}{h:Heap}{l m:List V}{us ws:List Value}(x:ö c φ h l us)(y:ö c φ h m ws):ö c φ h (l++m) (us++ws):=ö.lr.mpr ((ö.lr.mp x).append (ö.lr.mp y))
theorem ö.nil{c:Cx}{φ:Pl}{h:Heap}:ö c φ h [] []:=show []=[]from rfl
theorem ö.cons{c:Cx}{φ:Pl}{h:Heap}{v:V}{u:Value}{l:List V}(x:VR c φ h v u)(y:ö c φ h l us):ö c φ h (v::l) (u::us):=⟨u,us,rfl,x,y⟩
theorem ö.set{c:Cx}{φ:Pl}{h:Heap}{l:List V}{us:List Value}{i:Nat}{v:V}{u:Value}(x:ö c φ h l us)(y:VR c φ h v u):ö c φ h (l.set i v) (us.set i u):=ö.lr.mpr ((ö.lr.mp x).set y)
theorem ö.take{c:Cx}{φ:Pl}{h:Heap}{l:List V}{us:List Value}{n:Nat}(x:ö c φ h l us):ö c φ h (l.take n) (us.take n):=ö.lr.mpr (ö.lr.mp x).take
theorem ö.drop{c:Cx}{φ:Pl}{h:Heap}{l:List V}{us:List Value}{n:Nat}(x:ö c φ h l us):ö c φ h (l.drop n) (us.drop n):=ö.lr.mpr (ö.lr.mp x).drop
variable{φ:Pl}{σ:St}{vs:Array Value}{j:Nat}
theorem ŏ{i:Nat}{as:List Addr}(h:φ[i]?\as){a:Addr}(ha:a∈as):a∈φ.flatten:=Y5.mpr ⟨as,Xt h,ha⟩
theorem v9(nd:φ.flatten.Nodup):∀{i j:Nat} {as bs:List Addr},φ[i]?\as->φ[j]?\bs->i≠j->∀a∈as,a∉bs:=by
 induction φ with
 |nil=>exact λ h=>nomatch h
 |cons x φ ih=>
  have n:=Yn.mp (Yj▸nd)
  exact fun {i j as bs} U h2 N8 a ha hb=>match i,j with
   |0,0=>N8 rfl
   |0,j+1=>n.2.2 a (Xn U▸ha) a (ŏ (i:=j) h2 hb) rfl
   |i+1,0=>n.2.2 a (Xn h2▸hb) a (ŏ (i:=i) U ha) rfl
   |i+1,j+1=>ih n.2.1 (i:=i) (j:=j) U h2 (λ e=>N8 (Xq _ e)) a ha hb
theorem Rel.at{c:Cx}{h:Heap}(R:Rel c φ σ h){b:Addr}(hb:b∈φ.flatten){P:Prop}(k:∀as o,b∈as->OR c φ h as o->P):P:=
 (Y5.mp hb).elim λ as x=>(YW x.1).elim λ i hi=>
  (R.full i (R.len▸(Xv.mp hi).1)).elim λ o ho=>(R.objs i o ho).elim λ as' y=>k as' o (Xn (hi.symm.trans y.1)▸x.2) y.2
theorem gE{a b:α}(h:b∈[a]):b=a:=XH.mp h
theorem M3{a b d:α}{P:Prop}(h:b∈[a,d])(k:b=a->P)(k':b=d->P):P:=(XE.mp h).elim k λ h=>k' (gE h)
def dyn(o:Obj):Prop:=o.cls≠.type "tuple"
theorem kK{n:Nat}:dyn (Ť vs n):=by intro e;injection e with e;exact absurd e (by decide)
theorem Ŵ{ds:List DictEntry}{n:Nat}:dyn (Ľ ds n):=by intro e;injection e with e;exact absurd e (by decide)
theorem DO{a:Addr}{d}{t}{z}:dyn ⟨.ref a,d,t,z⟩:=by intro e;cases e
theorem OR.dyn{c:Cx}{φ:Pl}{h:Heap}{as:List Addr}{o:O}(x:OR c φ h as o):∀a∈as,∃o,h.get? a\o/\dyn o:=by
 cases o with
 |list l=>exact x.elim λ a x=>x.elim λ vs x=>x.elim λ n x=>λ b hb=>⟨_,(gE (x.1▸hb)).symm▸x.2.1,kK⟩
 |dict es=>exact x.elim λ a x=>x.2.1.obj.elim λ ds y=>y.elim λ n y=>λ b hb=>⟨_,(gE (x.1▸hb)).symm▸y,Ŵ⟩
 |inst k fs=>exact x.elim λ a x=>x.elim λ d x=>x.elim λ ds x=>x.elim λ n x=>λ b hb=>M3 (x.1▸hb) (λ e=>⟨_,e▸x.2.1,DO⟩) λ e=>⟨_,e▸x.2.2.1,Ŵ⟩
theorem Rel.I4{c:Cx}{h:Heap}(R:Rel c φ σ h){b:Addr}{n:Nat}(e:h.get? b\(ģ vs n)):b∉φ.flatten:=λ hb=>R.at hb λ _ _ m x=>(x.dyn b m).elim λ _ y=>y.2 (Xn (y.1.symm^e)▸rfl)
theorem get_none{h:Heap}{a:Addr}(e:h.objs.size<=a):h.get? a=none:=by
 cases q:h.get? a with
 |none=>rfl
 |some o=>exact absurd (aaw q) (aaz.mpr e)
theorem Ā{o:Option α}{a:α}(h:o\a):o.isSome=true:=h▸rfl
theorem OR.live{c:Cx}{h:Heap}{as:List Addr}{o:O}(x:OR c φ h as o):∀a∈as,(h.get? a).isSome=true:=λ a ha=>(x.dyn a ha).elim λ _ y=>Ā y.1
theorem Rel.live{c:Cx}{φ:Pl}{σ:St}{h:Heap}(R:Rel c φ σ h):∀b∈φ.flatten,(h.get? b).isSome=true:=λ b hb=>R.at hb λ _ _ m x=>x.live b m
theorem dy{h h':Heap}(k:∀b o,h.get? b\o->h'.get? b\o):∀b,(h.get? b).isSome=true->(h'.get? b).isSome=true:=λ b e=>(X_.mp e).elim λ o ho=>Ā (k b o ho)
theorem OR.ý{c:Cx}{h h':Heap}(ht:Tk h h'){as:List Addr}(hk:∀a∈as,∀o,h.get? a\o->h'.get? a\o){o:O}(x:OR c φ h as o):OR c φ h' as o:=FT (P:=λ φ=>OR c φ h' as o) (x.mono ht hk)
theorem ö.ý{c:Cx}{h h':Heap}(ht:Tk h h'){l:List V}(x:ö c φ h l us):ö c φ h' l us:=FT (P:=λ φ=>ö c φ h' l us) (x.mono ht)
theorem VR.ý{c:Cx}{h h':Heap}(ht:Tk h h'){v:V}{u:Value}(x:VR c φ h v u):VR c φ h' v u:=FT (P:=λ φ=>VR c φ h' v u) (x.mono ht)
theorem Rel.ē{c:Cx}{h h':Heap}(R:Rel c φ σ h)(k:∀b o,h.get? b\o->h'.get? b\o):Rel c φ σ h':=⟨R.len,λ i o e=>(R.objs i o e).elim λ as x=>⟨as,x.1,x.2.ý (λ b vs n e=>k _ _ e) λ a _ o e=>k _ _ e⟩,R.nodup,R.above,λ b o e=>k _ _ (R.e9 b o e),R.full⟩
theorem Rel.DP{c:Cx}{h h':Heap}(R:Rel c φ σ h)(k:∀b o,h.get? b\o->h'.get? b\o)(hz:h.objs.size<=h'.objs.size):Rel c φ σ h':=R.ē k
theorem Step.ē{X:List Addr}{φ:Pl}{s s':Shared}(k:∀b o,s.heap.get? b\o->s'.heap.get? b\o)(g:s'.gens=s.gens:=by rfl)(os:s'.os=s.os:=by rfl)(d:s'.drawn=s.drawn:=by rfl):Step X φ φ s s':=⟨⟨[],(XQ φ).symm,λ _ h=>nomatch h⟩,dy k,λ b o e _ _=>k b o e,λ b vs n e=>k _ _ e,g,os,d⟩
theorem Step.DP{φ:Pl}{s s':Shared}(k:∀b o,s.heap.get? b\o->s'.heap.get? b\o)(hz:s.heap.objs.size<=s'.heap.objs.size)(g:s'.gens=s.gens:=by rfl)(os:s'.os=s.os:=by rfl)(d:s'.drawn=s.drawn:=by rfl):Step [] φ φ s s':=Step.ē k g os d
theorem mP{o o':O}{i:Nat}{P:Prop}(e:(σ.new o).get i\o')(k:i=σ.n->o=o'->P)(k':σ.get i\o'->P):P:=by
 unfold St.new at e;by_cases hi:i=σ.n
 ·exact k hi (Xn ((XR hi).symm.trans e))
 ·exact k' ((XW hi).symm.trans e)
theorem DQ{o o':O}{i j:Nat}{P:Prop}(e:(σ.set j o).get i\o')(k:i=j->o=o'->P)(k':i≠j->σ.get i\o'->P):P:=by
 unfold St.set at e;by_cases hi:i=j
 ·exact k hi (Xn ((XR hi).symm.trans e))
 ·exact k' hi ((XW hi).symm.trans e)
theorem Af(f:∀i,i<σ.n->∃o,σ.get i\o){o:O}(i:Nat)(h:i<(σ.new o).n):∃o',(σ.new o).get i\o':=by
 by_cases hi:i=σ.n
 ·exact⟨o,XR hi⟩
 ·exact(f i (Nat.lt_of_le_of_ne (Nat.le_of_lt_succ h) hi)).elim λ o' e=>⟨o',(XW hi)^e⟩
theorem Ag(f:∀i,i<σ.n->∃o,σ.get i\o){o:O}(i:Nat)(h:i<σ.n):∃o',(σ.set j o).get i\o':=by
 by_cases hi:i=j
 ·exact⟨o,XR hi⟩
 ·exact(f i h).elim λ o' e=>⟨o',(XW hi)^e⟩
theorem kL{n:Nat}(e:φ.length=n)(as:List Addr):(φ++[as])[n]?\as:=by rw[<-e,YC (XS _),Z5];rfl
theorem mf{as:List Addr}{b:Addr}(h:b∈[as].flatten):b∈as:=(XQ as).symm▸h
theorem Rel.add{c:Cx}{φ:Pl}{σ:St}{h h':Heap}{as:List Addr}{o:O}(R:Rel c φ σ h)(k:∀b o,h.get? b\o->b∉as->h'.get? b\o)
  (out:∀a∈as,a∉φ.flatten) (fresh:∀a∈as,c.H0.get? a=none) (nt:∀a∈as,∀vs n,h.get? a≠some (ģ vs n)) (nd:as.Nodup) (x:OR c (φ++[as]) h' as o):Rel c (φ++[as]) (σ.new o) h' where
 len:=(Xr ..)^(Xq (·+1) R.len)
 objs i o' e:=mP e (λ hi e=>⟨as,hi▸kL R.len as,e▸x⟩) λ e=>(R.objs i o' e).elim λ bs y=>⟨bs,e_ y.1,y.2.mono (λ b vs n e=>k _ _ e λ hb=>nt b hb vs n e) λ q hq o e=>k _ _ e λ hb=>out q hb (ŏ y.1 hq)⟩
 nodup:=Y3▸Yn.mpr ⟨R.nodup,(show as=[as].flatten from(XQ as).symm)▸nd,λ a ha b hb e=>out a (e▸mf hb) ha⟩
 above b hb:=bz hb (R.above b) λ hb=>fresh b (mf hb)
 e9 b o e:=k _ _ (R.e9 b o e) λ hb=>Ħ e (fresh b hb)
 full:=Af R.full
theorem Rel.fresh{c:Cx}{h:Heap}(R:Rel c φ σ h){a:Addr}(e:h.get? a=none):a∉φ.flatten/\c.H0.get? a=none:=by
 refine⟨λ hb=>ba (R.live a hb) e,?_⟩;cases q:c.H0.get? a with
 |none=>rfl
 |some o=>exact Ħ (R.e9 a o q) e
theorem Rel.alloc{c:Cx}{φ:Pl}{σ:St}{h h':Heap}{as:List Addr}{o:O}(R:Rel c φ σ h)(k:∀b o,h.get? b\o->h'.get? b\o)(hz:h.objs.size<=h'.objs.size)
  (fresh:∀a∈as,h.objs.size<=a/\a<h'.objs.size) (nd:as.Nodup) (x:OR c (φ++[as]) h' as o):Rel c (φ++[as]) (σ.new o) h':=
 R.add (λ b o e _=>k b o e) (λ a ha=>(R.fresh (get_none (fresh a ha).1)).1) (λ a ha=>(R.fresh (get_none (fresh a ha).1)).2)
  (λ a ha vs n e=>Ħ e (get_none (fresh a ha).1)) nd x
theorem Step.alloc{φ:Pl}{as:List Addr}{s s':Shared}(k:∀b o,s.heap.get? b\o->s'.heap.get? b\o)(hz:s.heap.objs.size<=s'.heap.objs.size)
  (fresh:∀a∈as,s.heap.objs.size<=a) (g:s'.gens=s.gens:=by rfl) (os:s'.os=s.os:=by rfl) (d:s'.drawn=s.drawn:=by rfl):Step [] φ (φ++[as]) s s':=
 ⟨⟨[as],rfl,λ b hb=>get_none (fresh b (mf hb))⟩,dy k,λ b o e _ _=>k b o e,λ b vs n e=>k _ _ e,g,os,d⟩
theorem Rel.both{c:Cx}{φ:Pl}{σ:St}{s s':Shared}{i:Nat}{as:List Addr}{o o':O}(R:Rel c φ σ s.heap)(hi:φ[i]?\as)(hs:σ.get i\o)
  (k:∀b o,s.heap.get? b\o->b∉as->s'.heap.get? b\o) (x:OR c φ s'.heap as o') (g:s'.gens=s.gens:=by rfl) (os:s'.os=s.os:=by rfl) (d:s'.drawn=s.drawn:=by rfl):
  Step [] φ φ s s'/\Rel c φ (σ.set i o') s'.heap:=
 have tk:Tk s.heap s'.heap:=λ b vs n e=>k _ _ e λ hb=>R.I4 e (ŏ hi hb)
 ⟨⟨⟨[],(XQ φ).symm,λ _ h=>nomatch h⟩,λ b e=>(Classical.em (b∈as)).elim (x.live b) λ hb=>(X_.mp e).elim λ o ho=>Ā (k b o ho hb),λ b o e n _=>k b o e λ hb=>n (ŏ hi hb),tk,g,os,d⟩,
  ⟨R.len,λ j p e=>DQ e (λ hj e=>⟨as,hj▸hi,e▸x⟩) λ hj e=>(R.objs j p e).elim λ bs y=>⟨bs,y.1,y.2.ý tk λ q hq o e=>k _ _ e (v9 R.nodup y.1 hi hj q hq)⟩,
   R.nodup,R.above,λ b o e=>k _ _ (R.e9 b o e) λ hb=>Ħ e (R.above b (ŏ hi hb)),Ag R.full⟩⟩
end
end Mine
namespace Mine
open PySem PySem.W PyProof.Rows PySem.Calls
noncomputable section
variable{Á:Pl}{env:Env}
abbrev Cx.M(c:Cx):Model:=model c.prog c.w
abbrev Ø:Value->Shared->Prop:=λ _ _=>False
structure uD (A:Around) (d:Nat):Prop where
 handled:A.handled=none
 depth:A.depth+3*d<=900
 units:A.units+40*d<=9000
structure ŵ (A:Around) (d:Nat):Prop where
 handled:A.handled=none
 depth:A.depth+3*d+2<=900
 units:A.units+40*d+30<=9000
theorem ŵ.call{A:Around}{d:Nat}(x:ŵ A d):uD A d:=⟨x.handled,by have:=x.depth;exact Xp (Ya _ _) this,by have:=x.units;exact Xp (Ya _ _) this⟩
structure M4 (c:Cx) (k:Nat):Prop where
 get:plainGet c.K (c.cls k) ""=true
 set:findIn c.K (.ref (c.cls k)) "__setattr__"\(some (.builtin "object.__setattr__"))
 over:plainOver c.K (c.cls k)=true
 has:hasDictIn c.K (c.cls k)=true
 makes:makesIn c.K (c.cls k)=true
structure ă (c:Cx):Prop where
 ns:c.H0.Ns mainGlobals c.mg
 nb:c.H0.Ns builtinsNs c.mb
 nolimit:c.H0.NoLimit
 Wx:c.K.In c.H0
 DS:∀x y,c.T.nm x=c.T.nm y->x=y
 uE:∀x,(c.T.nm x==("__debug__":Str))=false
 Wy:∀x v,c.T.gl x\(.val v)->∃u,c.mg (c.T.nm x)\u/\VR c [] c.H0 v u
 Wz:∀x f,c.T.gl x\(.fn f)->c.mg (c.T.nm x)\(.ref (c.fn f))
 WA:∀x k,c.T.gl x\(.cls k)->c.mg (c.T.nm x)\(.ref (c.cls k))
 cl:∀k,(c.sig.init k).isSome=true->M4 c k
 fld:∀k x,c.sig.fld k x=true->∃attr,findIn c.K (.ref (c.cls k)) (c.T.nm x)\attr/\noGet c.K attr=true/\takerIn c.K (c.cls k) (c.T.nm x)\none
 FU:∀k,(c.sig.init k).isSome=true->keepIn c.K (.ref (c.cls k))=true
 FV:∀k,c.sig.init k\none->findIn c.K (.ref (c.cls k)) "__init__"\(some (.builtin "object.__init__"))
 FW:∀k f,c.sig.init k\(some f)->findIn c.K (.ref (c.cls k)) "__init__"\(some (.ref (c.fn f)))/\typeIn c.K (.ref (c.fn f))\(.type "function")
 ì:∀k x f,c.sig.ì k x\f->findIn c.K (.ref (c.cls k)) (c.T.nm x)\(some (.ref (c.fn f)))/\typeIn c.K (.ref (c.fn f))\(.type "function")
 M5:c.T.nm dg=("append":Str)
 WB:c.T.nm xl=("pop":Str)
 WC:c.T.nm xn=("get":Str)
 FX:∀x,c.T.nm x≠⟨#[46,48]⟩
 WE:∀x b,c.T.gl x\(.bi b)->c.mg (c.T.nm x)=none/\c.mb (c.T.nm x)\(.builtin (match b with|.len=>"len"|.sorted=>"sorted"|.min=>"min"))
 Sv:∀x,c.T.gl x=some .range->c.mg (c.T.nm x)=none/\c.mb (c.T.nm x)\(.type "range")
 WG:∀x ks,c.T.gl x\(.keys ks)->∃a kvs,c.mg (c.T.nm x)\(.ref a)/\c.H0.DictOf c.ki a kvs/\kvs.map (·.1)=ks/\(a==sysModules)=false
 fns:∀f,(∃x,c.T.gl x\(.fn f))\/(∃k x,c.sig.ì k x\f)\/(∃k,c.sig.init k\(some f))->∃o fd,c.H0.get? (c.fn f)\o/\o.data=.func fd
 FY:(c.H0.get? sysModules).isSome=true
def r6(env:Env)(sc:ű):Prop:=∀n,match Đ sc n with
 |some .local=>env.kindOf n=some .local
 |some .cell=>env.kindOf n=some .cell
 |some .free=>env.kindOf n=some .cell
 |some .globalImplicit=>env.kindOf n=some .globalImplicit
 |_=>True
structure FR (c:Cx) (φ:Pl) (env:Env) (ρ:Loc) (h:Heap):Prop where
 fn:env.scope.kind=.function
 glob:env.globals=mainGlobals
 blt:env.builtins=builtinsNs
 lo:c.H0.get? env.locals=none
 out:env.locals∉φ.flatten
 ns:∃m,h.Ns env.locals m/\∀x v,ρ x\v->env.kindOf (c.T.nm x)=some .local->∃u,m (c.T.nm x)\u/\VR c φ h v u
 cells:∀n a,env.cells.lookup n\a->a∉φ.flatten/\a≠env.locals/\c.H0.get? a=none/\∃v,h.IsCell a v
 apart:∀n m a,env.cells.lookup n\a->env.cells.lookup m\a->n=m
 has:∀n,env.kindOf n=some .cell->∃a,env.cells.lookup n\a
 cZ:∀x v a,ρ x\v->env.kindOf (c.T.nm x)=some .cell->env.cells.lookup (c.T.nm x)\a->∃u,h.IsCell a (some u)/\VR c φ h v u
theorem ť{h h':Heap}{a:Addr}{m:Str->Option Value}(x:h.Ns a m)(k:∀o,h.get? a\o->h'.get? a\o):h'.Ns a m:=x.elim λ o x=>x.elim λ es x=>x.elim λ ep x=>⟨o,es,ep,k o x.1,x.2⟩
theorem ĵ{h h':Heap}{a:Addr}{v}(x:h.IsCell a v)(k:∀o,h.get? a\o->h'.get? a\o):h'.IsCell a v:=x.elim λ o x=>⟨o,k o x.1,x.2⟩
theorem Step.out{φ ð:Pl}{s s':Shared}(st:Step [] φ ð s s'){a:Addr}(ha:a∉φ.flatten){o:Obj}(h:s.heap.get? a\o):a∉ð.flatten:=st.ext.elim λ ψ x=>x.1▸λ hm=>bz hm ha λ q=>Ħ h (x.2 a q)
theorem Step.get{φ ð:Pl}{s s':Shared}(st:Step [] φ ð s s'){a:Addr}(ha:a∉φ.flatten)(o:Obj)(h:s.heap.get? a\o):s'.heap.get? a\o:=st.keep _ _ h ha Yh
theorem FR.step{c:Cx}{φ ð:Pl}{env:Env}{ρ:Loc}{s s':Shared}(F:FR c φ env ρ s.heap)(st:Step [] φ ð s s'):FR c ð env ρ s'.heap where
 fn:=F.fn
 glob:=F.glob
 blt:=F.blt
 lo:=F.lo
 out:=F.ns.elim λ m hn=>hn.1.elim λ o x=>x.elim λ es x=>x.elim λ ep x=>st.out F.out x.1
 ns:=F.ns.elim λ m hn=>⟨m,ť hn.1 (st.get F.out),λ x v e k=>(hn.2 x v e k).elim λ u y=>⟨u,y.1,y.2.step st⟩⟩
 cells n a e:=have h:=F.cells n a e;h.2.2.2.elim λ v h4=>⟨h4.elim λ o x=>st.out h.1 x.1,h.2.1,h.2.2.1,v,ĵ h4 (st.get h.1)⟩
 apart:=F.apart
 has:=F.has
 cZ x v a e k l:=(F.cZ x v a e k l).elim λ u y=>⟨u,ĵ y.1 (st.get (F.cells _ _ l).1),y.2.step st⟩
def Gd(c:Cx)(φ:Pl)(s:Shared)(X:List Addr)(Ú:St)(v:V):Value->Shared->Prop:=λ u s'=>∃ð,Step X φ ð s s'/\Rel c ð Ú s'.heap/\VR c ð s'.heap v u
def Gds(c:Cx)(φ:Pl)(s:Shared)(X:List Addr)(Ú:St)(v:List V):List Value->Shared->Prop:=λ u s'=>∃ð,Step X φ ð s s'/\Rel c ð Ú s'.heap/\ö c ð s'.heap v u
def QP(s:Shared)(Q:Value->Prop):Value->Shared->Prop:=λ u s'=>Q u/\∃tk,s'={s with toks:=tk}
theorem QP.gd{c:Cx}{φ:Pl}{s Â:Shared}{σ:St}{v:V}(st:Step [] φ Á s Â)(R:Rel c Á σ Â.heap):∀u s',QP Â (VR c Á Â.heap v) u s'->Gd c φ s [] σ v u s':=λ u s' h=>h.2.elim λ tk e=>⟨Á,e▸st.trans (Step.ē (λ _ _ e=>e)),e▸R,e▸h.1⟩
def û(c:Cx)(C:Call)(d:Nat):Prop:=∀f args σ v Ú,C f args σ\(v,Ú)->∀A φ s us,uD A d->Rel c φ σ s.heap->ö c φ s.heap args us->
 codeAny c.M A (.call (.ref (c.fn f)) ⟨us,[]⟩) (λ r s'=>∃u,r=.ok (.ret u)/\Gd c φ s [] Ú v u s') s
section
variable{c:Cx}{φ:Pl}{A:Around}{s:Shared}{σ:St}{d:Nat}
theorem pT(S:ă c){v:V}{k:Const}(e:constOk c.T v k=true):wpAny c.M A (constValue env k) (QP s (VR c φ s.heap v)) Ø s:=kH (P:=λ v k=>wpAny c.M A (constValue env k) (QP s (VR c φ s.heap v)) Ø s) e (XT ⟨rfl,s.toks,rfl⟩) (λ _=>XT ⟨rfl,s.toks,rfl⟩) (λ _=>wpAny_mkInt ⟨⟨_,rfl⟩,_,rfl⟩) λ x y q=>aam.mp q▸wpAny_mkText ⟨⟨_,rfl⟩,_,rfl⟩
end
end
end Mine
namespace Mine
open PySem PySem.W PyProof.Rows PySem.Calls
noncomputable section
section
variable{c:Cx}{φ:Pl}{A:Around}{s:Shared}{σ:St}{d:Nat}
variable{us:List Value}
theorem QP.here{s:Shared}{Q:Value->Prop}{u:Value}(h:Q u):QP s Q u s:=⟨h,s.toks,rfl⟩
theorem QP.tok{s:Shared}{Q:Value->Prop}{u:Value}{tk:Nat}(h:Q u):QP s Q u {s with toks:=tk}:=⟨h,tk,rfl⟩
theorem VR.Ah{h:Heap}{r:Nat}{u:Value}{P:Value->Prop}(x:VR c φ h (.ref r) u)(k:∀a d,φ[r]?\(a::d)->P (.ref a)):P u:=(show ∃a d,φ[r]?\(a::d)/\u=.ref a from x).elim λ a x=>x.elim λ d x=>x.2▸k a d x.1
theorem VR.Ŷ{h:Heap}{i:Int}{u:Value}{P:Value->Prop}(x:VR c φ h (.int i) u)(k:∀t,P (.int i t)):P u:=(show ∃t,u=.int i t from x).elim λ t e=>e▸k t
theorem VR.I5{h:Heap}{i:Nat}{u:Value}{P:Value->Prop}(x:VR c φ h (.str i) u)(k:∀t,P (.str (c.T.nm i) t)):P u:=(show ∃t,u=.str (c.T.nm i) t from x).elim λ t e=>e▸k t
theorem VR.ff{h:Heap}{l:List V}{u:Value}{P:Value->Prop}(x:VR c φ h (.tup l) u)(k:∀a vs n,h.get? a\(ģ vs n)->ö c φ h l vs.toList->P (.ref a)):P u:=(show ∃a vs n,u=.ref a/\h.get? a\(ģ vs n)/\ö c φ h l vs.toList from x).elim λ a x=>x.elim λ vs x=>x.elim λ n x=>x.1▸k a vs n x.2.1 x.2.2
theorem VR.Sw{h:Heap}{l:List Int}{u:Value}{P:Value->Prop}(x:VR c φ h (.fl l) u)(k:∀a vs n,c.H0.get? a\(Ť vs n)->PyProof.Rows.IntsAre vs.toList l->P (.ref a)):P u:=(show ∃a vs n,u=.ref a/\c.H0.get? a\(Ť vs n)/\PyProof.Rows.IntsAre vs.toList l from x).elim λ a x=>x.elim λ vs x=>x.elim λ n x=>x.1▸k a vs n x.2.1 x.2.2
theorem VR.pU{h:Heap}{u:Value}(x:VR c φ h .none u):u=.none:=x
theorem VR.kM{h:Heap}{b:Bool}{u:Value}(x:VR c φ h (.bool b) u):u=.bool b:=x
theorem ö.au{h:Heap}{v:V}{l:List V}{P:List Value->Prop}(x:ö c φ h (v::l) us)(k:∀u r,VR c φ h v u->ö c φ h l r->P (u::r)):P us:=(show ∃u r,us=u::r/\VR c φ h v u/\ö c φ h l r from x).elim λ u x=>x.elim λ r x=>x.1▸k u r x.2.1 x.2.2
theorem ö.lJ{h:Heap}(x:ö c φ h [] us):us=[]:=x
theorem ö.size{h:Heap}{l:List V}{us:Array Value}(x:ö c φ h l us.toList):us.size=l.length:=YL.symm.trans x.length
theorem Ai{x y:List Addr}{o:Option (List Addr)}(e:o\x)(e':o\y):x=y:=Xn (e.symm^e')
theorem Rel.listE{r:Nat}{l:List V}{u:Value}{P:Value->Prop}{h:Heap}(R:Rel c φ σ h)(e:σ.get r\(.list l))(hv:VR c φ h (.ref r) u)
  (k:∀a vs n,φ[r]?\[a]->h.get? a\(Ť vs n)->ö c φ h l vs.toList->l.length<=lim->P (.ref a)):P u:=
 hv.Ah λ a d e1=>(R.objs r _ e).elim λ as x=>x.2.elim λ a' y=>y.elim λ vs y=>y.elim λ n y=>
  (aai (Ai e1 (y.1▸x.1))).1.symm▸k a' vs n (y.1▸x.1) y.2.1 y.2.2.1 y.2.2.2
theorem Rel.kP{r:Nat}{l:List (V×V)}{u:Value}{P:Value->Prop}{h:Heap}(R:Rel c φ σ h)(e:σ.get r\(.dict l))(hv:VR c φ h (.ref r) u)
  (k:∀a,φ[r]?\[a]->DR c φ h a l->l.length<=lim->P (.ref a)):P u:=
 hv.Ah λ a d e1=>(R.objs r _ e).elim λ as x=>x.2.elim λ a' y=>
  (aai (Ai e1 (y.1▸x.1))).1.symm▸k a' (y.1▸x.1) y.2.1 y.2.2
theorem Rel.Aj{r i:Nat}{fs:List (Nat×V)}{u:Value}{P:Value->Prop}{h:Heap}(R:Rel c φ σ h)(e:σ.get r\(.inst i fs))(hv:VR c φ h (.ref r) u)
  (k:∀a d ds n,φ[r]?\[a,d]->h.get? a\⟨.ref (c.cls i),some d,.plain,#[]⟩->h.get? d\(Ľ ds n)->xc c φ h fs ds->fs.length<=900->(c.sig.init i).isSome=true->(∀p∈fs,c.sig.fld i p.1=true)->P (.ref a)):P u:=
 hv.Ah λ a d e1=>(R.objs r _ e).elim λ as x=>x.2.elim λ a' y=>y.elim λ d' y=>y.elim λ ds y=>y.elim λ n y=>
  (aai (Ai e1 (y.1▸x.1))).1.symm▸k a' d' ds n (y.1▸x.1) y.2.1 y.2.2.1 y.2.2.2.1 y.2.2.2.2.1 y.2.2.2.2.2.1 y.2.2.2.2.2.2
theorem pW{l:List V}{i:Int}{r:V}(e:Ū l i\r):0<=i/\l[i.toNat]?\r/\i.toNat<l.length:=if h:0<=i then have e:=(XR h).symm.trans e;⟨h,e,(Xv.mp e).1⟩else ns ((XW h).symm.trans e)
theorem ö.at{h:Heap}{l:List V}{us:Array Value}(x:ö c φ h l us.toList){i:Nat}{v:V}(e:l[i]?\v):∃u,us[i]?\u/\VR c φ h v u:=(x.get e).elim λ u y=>⟨u,Zd.symm.trans y.1,y.2⟩
theorem v_{h:Heap}(R:Rel c φ σ s.heap){r:Nat}{l:List V}{i:Int}{t:Tok}{x:V}{u:Value}(hl:σ.get r\(.list l))(e:Ū l i\x)(hv:VR c φ s.heap (.ref r) u):
  wpAny c.M A (getItem u (.int i t)) (QP s (VR c φ s.heap x)) Ø s:=
 have h:=pW e
 R.listE (P:=λ u=>wpAny c.M A (getItem u (.int i t)) (QP s (VR c φ s.heap x)) Ø s) hl hv λ a vs n _ g Ĥ hz=>(Ĥ.at h.2.1).elim λ w y=>
  wpAny_getItem_list (items:=vs) ⟨_,g,rfl,n,rfl⟩ h.1 (li [_,_] [_] (.c 1 (.v 0) (.k 100000) (.c 1 (.a (.v 1) (.k 1)) (.v 0) (.i 1 (.v 0) (.n (.v 1)) .e))) 0 (.a (.v 0) (.k 1)) (.k 9223372036854775808) rfl hz h.2.2 (XU _)) y.1 (QP.here y.2)
theorem gF{i:Int}{n:Nat}(h0:0<=i)(h:i.toNat<n):seqIndex? i n\i.toNat:=by unfold seqIndex?;have q:¬i<0:=Yc.mpr h0;have q2:i<(n:Int):=(ZY h0).mp h;simp[q,h0,q2]
theorem Ak{l:List V}{i:Int}{t:Tok}{x:V}{u:Value}(hi:i<1000)(e:Ū l i\x)(hv:VR c φ s.heap (.tup l) u):
  wpAny c.M A (getItem u (.int i t)) (QP s (VR c φ s.heap x)) Ø s:=
 have h:=pW e
 hv.ff (P:=λ u=>wpAny c.M A (getItem u (.int i t)) (QP s (VR c φ s.heap x)) Ø s) λ a vs n g Ĥ=>(Ĥ.at h.2.1).elim λ w y=>
  P.getItem_tuple (items:=vs) (n:=n) (k:=i.toNat) g (YZ (by decide) h.1) (YZ hi (by decide)) (gF h.1 (Ĥ.size▸h.2.2)) y.1 (QP.here y.2)
end
end
end Mine
namespace Mine
open PySem PySem.W PyProof.Rows PySem.Calls PySem.SeqAt
noncomputable section
theorem all_succ(n:Nat)(e:Nat->Bool):(List.range (n+1)).all e=(e 0&&(List.range n).all λ j=>e (j+1)):=by rw[List.range_succ_eq_map,List.all_cons,List.all_map];rfl
theorem DT(a b:Nat):(a+1==b+1)=(a==b):=by rw[Ze,ZW,ZW];exact Nat.add_right_cancel_iff
theorem pX{f:V->V->Option Bool}{l:List V}:∀{m:List V} {b:Bool},ŋ f l m\b->
  ∃e:Nat->Bool,(∀j x y,l[j]?\x->m[j]?\y->f x y\(e j))/\b=((List.range (min l.length m.length)).all e&&(l.length==m.length)):=by
 induction l with
 |nil=>exact fun {m b} h=>match m,h with
  |[],h=>⟨λ _=>true,λ _ _ _ h=>(nomatch h),(Xn h).symm⟩
  |_::_,h=>⟨λ _=>true,λ _ _ _ h=>(nomatch h),(Xn h).symm⟩
 |cons x l ih=>exact fun {m b} h=>match m,h with
  |[],h=>⟨λ _=>true,λ _ _ _ _ h=>(nomatch h),(Xn h).symm⟩
  |y::m,h=>í (show bo (f x y) (λ p=>bo (ŋ f l m) λ q=>some (p&&q))\b from h) λ p hp h=>í h λ q hq h=>(ih hq).elim λ e g=>
   ⟨λ j=>Nat.rec p (λ j _=>e j) j,λ j a b ha hb=>match j with
    |0=>Xn ha▸Xn hb▸hp
    |j+1=>g.1 j a b ha hb,by rw[Yi,Yi,Nat.succ_min_succ,all_succ,Bool.and_assoc,<-Xn h,g.2,DT];rfl⟩
theorem Al{s:St}{n:Nat}{v w:V}{b:Bool}{P:Prop}(e:dh s (n+1) v w\b)(k1:∀i j,v=.int i->w=.int j->decide (i=j)=b->P)(k2:∀l m,v=.tup l->w=.tup m->ŋ (dh s n) l m\b->P)
  (k3:∀i j l m,v=.ref i->w=.ref j->s.get i\(.list l)->s.get j\(.list m)->(if l.length=m.length then ŋ (dh s n) l m else some false)\b->P):P:=
 mG (show BM v (λ i=>wi w λ j=>some (decide (i=j))) (λ l=>wt w λ m=>ŋ (dh s n) l m) (λ i=>wr w λ j=>ol (s.get i) λ l=>ol (s.get j) λ m=>if l.length=m.length then ŋ (dh s n) l m else some false)\b from e)
  (λ i h e=>Ĺ e λ j h' e=>k1 i j h h' (Xn e)) (λ l h e=>ox e λ m h' e=>k2 l m h h' e) λ i h e=>bY e λ j h' e=>aE e λ l g e=>aE e λ m g' e=>k3 i j l m h h' g g' e
section
variable{c:Cx}{φ:Pl}{s:Shared}{σ:St}
theorem pY{h:Heap}{a:Addr}{vs aw:Array Value}{n n':Nat}(f:Array Value->Nat->Obj)(hf:∀x y n m,f x n=f y m->x=y)(g:h.get? a\(f vs n))(g':h.get? a\(f aw n')):vs=aw:=hf _ _ _ _ (Xn (g.symm^g'))
theorem Am(x y:Array Value)(n m:Nat)(h:ģ x n=ģ y m):x=y:=by injection h with _ _ h _;injection h
theorem An(x y:Array Value)(n m:Nat)(h:Ť x n=Ť y m):x=y:=by injection h with _ _ h _;injection h
theorem aS{n:Nat}(ih:∀(v w:V) (b:Bool) (u:Value),dh σ n v w\b->VR c φ s.heap v u->VR c φ s.heap w u->b=true)(l:List V):∀{m:List V} {b:Bool} {us:List Value},ŋ (dh σ n) l m\b->ö c φ s.heap l us->ö c φ s.heap m us->b=true:=by
 induction l with
 |nil=>exact fun {m b us} h hl hm=>match m,h,hm with
  |[],h,_=>(Xn h).symm
  |_::_,_,hm=>hm.au (P:=λ us=>us=[]->b=true) (λ _ _ _ _ h=>(nomatch h)) hl.lJ
 |cons x l Sx=>exact fun {m b us} h hl hm=>match m,h,hm with
  |[],_,hm=>hl.au (P:=λ us=>us=[]->b=true) (λ _ _ _ _ h=>(nomatch h)) hm.lJ
  |y::m,h,hm=>í (show bo (dh σ n x y) (λ p=>bo (ŋ (dh σ n) l m) λ q=>some (p&&q))\b from h) λ p hp h=>í h λ q hq h=>
   hl.au (P:=λ us=>ö c φ s.heap (y::m) us->b=true) (λ u r hx hl hm=>(show ∃u' r',u::r=u'::r'/\VR c φ s.heap y u'/\ö c φ s.heap m r' from hm).elim λ u' z=>z.elim λ r' z=>
    have e:=aai z.1
    Xn h▸XK.mpr ⟨ih x y p u hp hx (e.1▸z.2.1),Sx hq hl (e.2▸z.2.2)⟩) hm
theorem Ň{a b:Addr}(h:Value.ref a=.ref b):a=b:=by injection h
theorem pZ(R:Rel c φ σ s.heap)(n:Nat):∀(v w:V) (b:Bool) (u:Value),dh σ n v w\b->VR c φ s.heap v u->VR c φ s.heap w u->b=true:=by
 induction n with
 |zero=>exact λ _ _ _ _ h _ _=>ns h
 |succ n ih=>
  intro v w b u h hv hw;refine Al h (λ i j e1 e2 e=>?_) (λ l m e1 e2 e=>?_) λ i j l m e1 e2 g1 g2 e=>?_
  ·subst e1 e2;exact e▸hv.Ŷ (P:=λ u=>VR c φ s.heap (.int j) u->decide (i=j)=true) (λ t h=>(show ∃t',Value.int i t=.int j t' from h).elim λ t' e=>by injection e with e _;exact XI e) hw
  ·subst e1 e2
   exact hv.ff (P:=λ u=>VR c φ s.heap (.tup m) u->b=true) (λ a vs k g hl h=>(show ∃a' aw k',Value.ref a=.ref a'/\s.heap.get? a'\(ģ aw k')/\ö c φ s.heap m aw.toList from h).elim λ a' z=>z.elim λ aw z=>z.elim λ k' z=>
    aS ih _ e hl (pY ģ Am g (Ň z.1▸z.2.1)▸z.2.2)) hw
  ·subst e1 e2
   exact R.listE (P:=λ u=>VR c φ s.heap (.ref j) u->b=true) g1 hv (λ a vs k p1 g hl _ h=>R.listE (P:=λ u=>u=.ref a->b=true) g2 h (λ a' aw k' p2 g' hm _ q=>
    have hm:=pY Ť An g (Ň q▸g')▸hm
    aS ih _ ((XR (hl.length.symm^hm.length)).symm.trans e) hl hm) rfl) hw
variable{A:Around}
theorem nQ{n:Nat}(ih:∀(v w:V) (b:Bool) (u z:Value),dh σ n v w\b->VR c φ s.heap v u->VR c φ s.heap w z->EqAt A.in1 s u z b){l m:List V}{vs aw:Array Value}(hl:ö c φ s.heap l vs.toList)(hm:ö c φ s.heap m aw.toList)
  {e:Nat->Bool} (h:∀j x y,l[j]?\x->m[j]?\y->dh σ n x y\(e j)) (j:Nat) (p:j<vs.size) (q:j<aw.size):EqAt A.in1 s vs[j] aw[j] (e j):=
 ((ö.lr.mp hl).at p).elim λ x hx=>((ö.lr.mp hm).at q).elim λ y hy=>ih x y (e j) _ _ (h j x y hx.1 hy.1) hx.2 hy.2
def iW(A:Around)(s:Shared)(u z:Value)(b:Bool):Prop:=EqAt A s u z b/\RcAt A s u z b/\RcNeAt A s u z (!b)
theorem FZ{a a':Addr}{b:Bool}(same:a=a'->b=true)(r:RcAt A s (.ref a) (.ref a') b):EqAt A s (.ref a) (.ref a') b:=if q:a=a' then same q▸q▸EqAt.same _ else EqAt.of_refs q r
theorem Ao(R:Rel c φ σ s.heap)(n:Nat):∀(v w:V) (b:Bool) (u z:Value),dh σ n v w\b->VR c φ s.heap v u->VR c φ s.heap w z->
  ∀A:Around,A.units+n<cLine->iW A s u z b:=by
 induction n with
 |zero=>exact λ _ _ _ _ _ h=>ns h
 |succ n ih=>
  intro v w b u z h hv hw A hA;have hu:A.units<cLine:=Xs (Ya _ _) hA;have OO:∀(v w:V) (b:Bool) (u z:Value),dh σ n v w\b->VR c φ s.heap v u->VR c φ s.heap w z->EqAt A.in1 s u z b:=λ v w b u z h hv hw=>(ih v w b u z h hv hw A.in1 (by rw[aaf,aaQ,aau 1];exact hA)).1;refine Al h (λ i j e1 e2 e=>?_) (λ l m e1 e2 e=>?_) λ i j l m e1 e2 g1 g2 e=>?_
  ·subst e1 e2 e
   exact hv.Ŷ (P:=λ u=>iW A s u z (decide (i=j))) λ t=>hw.Ŷ (P:=λ z=>iW A s (.int i t) z (decide (i=j))) λ t'=>
    (show decide (i=j)=(i==j)from rfl)▸⟨EqAt.int_int i t j t',RcAt.int_int i t j t',RcNeAt.int_int i t j t'⟩
  ·subst e1 e2;refine hv.ff (P:=λ u=>VR c φ s.heap (.tup l) u->iW A s u z b) (λ a vs k g hl hv=>hw.ff (P:=λ z=>VR c φ s.heap (.tup m) z->iW A s (.ref a) z b) (λ a' aw k' g' hm hw=>?_) hw) hv;refine dQ (pX e) λ e' U h2=>?_;rw[<-hl.size,<-hm.size]at h2;have i1:s.heap.IsTuple a vs:=⟨_,g,rfl,k,rfl⟩;have i2:s.heap.IsTuple a' aw:=⟨_,g',rfl,k',rfl⟩;have r1:RcAt A s (.ref a) (.ref a') b:=h2▸RcAt.tuples i1 i2 hu (nQ OO hl hm U);exact⟨FZ (λ q=>pZ R (n+1) _ _ _ (.ref a) h hv (q.symm▸hw)) r1,r1,h2▸RcNeAt.tuples i1 i2 hu (nQ OO hl hm U)⟩
  ·subst e1 e2;refine R.listE (P:=λ u=>VR c φ s.heap (.ref i) u->iW A s u z b) g1 hv (λ a vs k _ g hl _ hv=>R.listE (P:=λ z=>VR c φ s.heap (.ref j) z->iW A s (.ref a) z b) g2 hw (λ a' aw k' _ g' hm _ hw=>?_) hw) hv;have i1:s.heap.IsList a vs:=⟨_,g,rfl,k,rfl⟩;have i2:s.heap.IsList a' aw:=⟨_,g',rfl,k',rfl⟩
   have done:RcAt A s (.ref a) (.ref a') b/\RcNeAt A s (.ref a) (.ref a') (!b)->iW A s (.ref a) (.ref a') b:=λ r=>⟨FZ (λ q=>pZ R (n+1) _ _ _ (.ref a) h hv (q.symm▸hw)) r.1,r⟩
   refine done ?_;rw[<-hl.size,<-hm.size]at e;by_cases sz:vs.size=aw.size
   ·rw[XR sz]at e;refine dQ (pX e) λ e' U h2=>?_;rw[<-hl.size,<-hm.size,<-sz,Nat.min_self,Z9,Bool.and_true]at h2;exact h2▸⟨RcAt.lists i1 i2 sz hu (nQ OO hl hm U),RcNeAt.lists i1 i2 sz hu (nQ OO hl hm U)⟩
   ·rw[XW sz]at e;have sz:(vs.size !=aw.size)=true:=bne_iff_ne.mpr sz;exact Xn e▸⟨RcAt.lists_lengths i1 i2 sz hu,RcNeAt.lists_lengths i1 i2 sz hu⟩
end
end
end Mine
namespace Mine
open PySem PySem.W PyProof.Rows PySem.Calls PySem.SeqAt
noncomputable section
section
variable{c:Cx}{φ:Pl}{A:Around}{s:Shared}{σ:St}{d:Nat}
theorem fg{v:V}{x:Int ⊕ Str}{P:V->Int ⊕ Str->Prop}(h:Ae c v x)(a:∀i,P (.int i) (.inl i))(b:∀k,P (.str k) (.inr (c.T.nm k))):P v x:=by
 cases v with
 |int i=>exact(show x=.inl i from h)▸a i
 |str k=>exact(show x=.inr (c.T.nm k)from h)▸b k
 |_=>exact h.elim
theorem Aq{h:Heap}{k:V}{x:Int ⊕ Str}{w:Value}(hx:Ae c k x)(hk:VR c φ h k w):nF x w=true:=fg (P:=λ k x=>VR c φ h k w->nF x w=true) hx (λ i hk=>hk.Ŷ (P:=λ w=>nF (.inl i) w=true) λ t=>aaC c.prog c.w i t) (λ i hk=>hk.I5 (P:=λ w=>nF (.inr (c.T.nm i)) w=true) λ t=>strKind_is c.prog c.w _ t) hk
theorem uF{k:V}{P:Prop}(h:ó k=true)(k1:∀x,Ae c k x->P)(k2:∀l x,k=.tup l->dF l\x->P):P:=(X_.mp h).elim λ _ e=>xA e (λ i h _=>k1 (.inl i) (h▸rfl)) (λ i h _=>k1 (.inr (c.T.nm i)) (h▸rfl)) λ l h e=>â e λ x hx _=>k2 l x h hx
theorem r7(S:ă c){v w:V}{x y:Int ⊕ Str}{b:Bool}(hv:Ae c v x)(hw:Ae c w y):mC v w\b->b=decide (x=y):=
 fg (P:=λ v x=>mC v w\b->b=decide (x=y)) hv
  (λ i=>fg (P:=λ w y=>mC (.int i) w\b->b=decide (.inl i=y)) hw (λ j e=>(Xn e).symm.trans (ao ⟨Xq _,Sum.inl.inj⟩)) λ _ e=>ns e)
  λ i=>fg (P:=λ w y=>mC (.str i) w\b->b=decide (.inr (c.T.nm i)=y)) hw (λ _ e=>ns e) λ j e=>(Xn e).symm.trans (ao ⟨λ h=>Xq _ (Xq _ h),λ h=>S.DS _ _ (Sum.inr.inj h)⟩)
theorem Ar{l m:List V}{x y:KT}(hl:dF l\x)(hm:dF m\y):mC (.tup l) (.tup m)\(decide (x=y)):=show bo (dF l) (λ x=>bo (dF m) λ y=>some (decide (x=y)))=_ from ò hl (ò hm rfl)
theorem I6{v:V}{x:Int ⊕ Str}{l:List V}(hv:Ae c v x):mC v (.tup l)=none:=fg (P:=λ v _=>mC v (.tup l)=none) hv (λ _=>rfl) λ _=>rfl
theorem I7{v:V}{x:Int ⊕ Str}{l:List V}(hv:Ae c v x):mC (.tup l) v=none:=fg (P:=λ v _=>mC (.tup l) v=none) hv (λ _=>rfl) λ _=>rfl
def OV(c:Cx)(φ:Pl)(h:Heap):Option V->Option Value->Prop
 |none,z=>z=none
 |some v,z=>∃u,z\u/\VR c φ h v u
section
variable{K W:Type}[DecidableEq K]{R:V×V->K×W->Prop}{k v:V}{x:K}
theorem LR.find(hf:∀p q b,R p q->mC p.1 k\b->b=decide (q.1=x)){es kvs}(e:LR R es kvs):∀{r},è es k\r->(r=none/\kvs.find? (λ q=>decide (q.1=x))=none)\/∃p q,r\p.2/\R p q/\kvs.find? (λ q=>decide (q.1=x))\q:=by
 induction e with
 |nil=>exact λ h=>.inl ⟨(Xn h).symm,rfl⟩
 |cons a _ ih=>
  exact fun {r} h=>xw h (λ hk e=>.inr ⟨_,_,(Xn e).symm,a,Y_ (p:=λ q:K×W=>decide (q.1=x)) (hf _ _ _ a hk).symm⟩) λ hk e=>
   (Za (p:=λ q:K×W=>decide (q.1=x)) (λ t=>Yy ((hf _ _ _ a hk)^t))).symm▸ih e
def pu(x:K)(u:W->W)(n:W):List (K×W)->List (K×W)
 |[]=>[(x,n)]
 |q::r=>if q.1=x then (q.1,u q.2)::r else q::pu x u n r
theorem kQ{u:W->W}{n:W}{q:K×W}{r:List (K×W)}(h:q.1=x):pu x u n (q::r)=(q.1,u q.2)::r:=XR h
theorem gG{u:W->W}{n:W}{q:K×W}{r:List (K×W)}(h:¬q.1=x):pu x u n (q::r)=q::pu x u n r:=XW h
theorem LR.put{u:W->W}{n:W}(hf:∀p q b,R p q->mC p.1 k\b->b=decide (q.1=x))(hit:∀p q,R p q->R (p.1,v) (q.1,u q.2))(new:R (k,v) (x,n)){es kvs}(e:LR R es kvs):∀{ř},putK es k v\ř->LR R ř (pu x u n kvs):=by
 induction e with
 |nil=>exact λ h=>Xn h▸.cons new .nil
 |cons a y ih=>
  exact λ h=>xw h (λ hk e=>Xn e▸(kQ (XA (hf _ _ _ a hk).symm)).symm▸.cons (hit _ _ a) y) λ hk e=>â e λ m hm e=>e▸(gG (of_decide_eq_false (hf _ _ _ a hk).symm)).symm▸.cons a (ih hm)
end
theorem iy{K:Type}[DecidableEq K](x:K)(z:Value)(kvs:List (K×Value))(nd:(kvs.map (·.1)).Nodup):PySem.stored kvs x z=pu x (λ _=>z) z kvs:=by
 induction kvs with
 |nil=>rfl
 |cons q r ih=>
  have nd:=X0.mp nd;by_cases h:q.1=x
  ·exact((XR (by rw[ZQ,XI h];rfl))^(congr (Xq List.cons (XR h)) (map_store_of_not_mem r x z (h▸nd.1)))).trans (kQ (u:=λ _=>z) (n:=z) h).symm
  ·rw[gG h,<-ih nd.2];unfold PySem.stored;rw[ZQ,XY h,abe,Yd,XW h];cases r.any λ kv=>decide (kv.1=x)<;>rfl
theorem wa{K:Type}[DecidableEq K]{x:K}{q:K×Addr×Value}{r:List (K×Addr×Value)}(h:q.1=x):atKey (q::r) x\q.2:=by unfold atKey;rw[Y_ (p:=λ q:K×Addr×Value=>decide (q.1=x)) (XI h)];rfl
theorem r8{K:Type}[DecidableEq K]{x:K}{q:K×Addr×Value}{r:List (K×Addr×Value)}(h:¬q.1=x):atKey (q::r) x=atKey r x:=by unfold atKey;rw[Za (p:=λ q:K×Addr×Value=>decide (q.1=x)) (λ t=>h (XA t))]
theorem r9{K:Type}[DecidableEq K](x:K)(a:Addr)(z:Value)(xs:List (K×Addr×Value))(nd:(xs.map (·.1)).Nodup):storedH xs x a z=pu x (λ w=>(w.1,z)) (a,z) xs:=by
 induction xs with
 |nil=>rfl
 |cons q r ih=>
  have nd:=X0.mp nd;by_cases h:q.1=x
  ·exact((XR (wa h▸rfl))^(congr (Xq List.cons (XR h)) (map_putAt_of_not_mem r x z (h▸nd.1)))).trans (kQ (u:=λ w=>(w.1,z)) (n:=(a,z)) h).symm
  ·rw[gG h,<-ih nd.2];unfold storedH;rw[r8 h,Yd,show putAt x z q=q from XW h];cases (atKey r x).isSome<;>rfl
theorem As{h:Heap}{l:List V}:∀{us:List Value} {m:List Int},ö c φ h l us->Mine.xp l\m->ItemsAre (intKind c.prog c.w) m us:=by
 induction l with
 |nil=>exact λ x e=>Xn e▸x.lJ▸.nil
 |cons a l ih=>
  exact fun {us m} x e=>Ĺ (show wi a (λ i=>bo (Mine.xp l) λ l=>some (i::l))\m from e) λ i h e=>í e λ m' hm e=>Xn e▸x.au (P:=λ us=>ItemsAre (intKind c.prog c.w) (i::m') us) λ u r hu hr=>
   (h▸hu:VR c φ _ (.int i) u).Ŷ (P:=λ u=>ItemsAre (intKind c.prog c.w) (i::m') (u::r)) λ t=>.cons (aaC _ _ i t) (ih hr hm)
theorem Au{h:Heap}{l:List V}:∀{us:List Value} {m:KT},ö c φ h l us->dF l\m->OM c.prog c.w h m us:=by
 induction l with
 |nil=>exact λ x e=>Xn e▸x.lJ▸.nil
 |cons a l ih=>
  exact fun {us m} x e=>x.au (P:=λ us=>OM c.prog c.w h m us) λ u r hu hr=>
   xA (show EU a (λ i=>bo (dF l) λ k=>some (.inl i::k)) (λ _=>none) (λ l'=>bo (Mine.xp l') λ a=>bo (dF l) λ k=>some (.inr a::k))\m from e)
    (λ i q e=>í e λ k hk e=>Xn e▸.cons (show ∃t,u=.int i t from(q▸hu:VR c φ h (.int i) u)) (ih hr hk)) (λ _ _ e=>ns e)
    λ l' q e=>í e λ a ha e=>í e λ k hk e=>Xn e▸.cons ((q▸hu:VR c φ h (.tup l') u).ff (P:=λ u=>TI c.prog c.w h (.inr a) u) λ b vs n g hq=>⟨b,rfl,_,vs,n,g,rfl,rfl,As hq ha⟩) (ih hr hk)
theorem VR.I8{h:Heap}{l:List V}{m:KT}{a:Addr}(x:VR c φ h (.tup l) (.ref a))(e:dF l\m):eY c.prog c.w h m a:=x.ff (P:=λ u=>u=.ref a->eY c.prog c.w h m a) (λ b vs n g r q=>⟨_,vs,n,Ň q▸g,rfl,rfl,Au r e⟩) rfl
theorem ET.is{h:Heap}{es:List (V×V)}{xs}(e:ET c φ h es xs)(x)(hx:x∈xs):c.kt.is h x.1 x.2.1:=(LR.MU e hx).elim λ _ y=>y.1.elim λ _ y=>VR.I8 y.2.2 y.2.1
theorem ET.dictOf{h:Heap}{a:Addr}{es:List (V×V)}{xs:List (KT×Addr×Value)}{n:Nat}(g:h.get? a\(Ľ (xs.map (entryOfKey c.kt)) n))(nd:(xs.map (·.1)).Nodup)(e:ET c φ h es xs):h.DictOfH c.kt a xs:=⟨_,_,n,g,⟨rfl,rfl,rfl⟩,rfl,rfl,e.is,nd⟩
theorem ER.ý{h h':Heap}(ht:Tk h h'){es:List (V×V)}{ds}(x:ER c φ h es ds):ER c φ h' es ds:=FT (P:=λ φ=>ER c φ h' es ds) (x.mono ht)
theorem ET.ý{h h':Heap}(ht:Tk h h'){es:List (V×V)}{ds}(x:ET c φ h es ds):ET c φ h' es ds:=FT (P:=λ φ=>ET c φ h' es ds) (x.mono ht)
theorem r_{prog:Program}{w:World}{K:Type}[DecidableEq K]{knd:KeyKind prog w K}{h:Heap}{a:Addr}(x:h.DictOf knd a []):∃n,h.get? a\(Ľ [] n):=x.elim λ o x=>x.elim λ es x=>x.elim λ ep x=>⟨ep,x.1^(Xq some ((nP x.2.1 x.2.2.1)^(Zo x.2.2.2.2.1.length▸rfl)))⟩
theorem ň{prog:Program}{w:World}{K:Type}[DecidableEq K]{knd:KeyKind prog w K}{h:Heap}{a:Addr}{n:Nat}(x:h.get? a\(Ľ [] n)):h.DictOf knd a []:=⟨_,#[],n,x,⟨rfl,rfl,rfl⟩,rfl,λ _ he=>absurd he (Array.not_mem_empty _),.nil,YU⟩
theorem LR.both{α β:Type}{R:α->β->Prop}{l:List α}{m:List β}{P:Prop}(x:LR R l m)(n:l=[]->m=[]->P)(k:∀a l' b,l=a::l'->R a b->P):P:=by
 cases x with
 |nil=>exact n rfl rfl
 |cons r _=>exact k _ _ _ rfl r
theorem DR.kind{h:Heap}{a:Addr}{es:List (V×V)}{k:V}{P:Prop}(D:DR c φ h a es)(ok:ó k=true)(hq:∀p r,es=p::r->mC p.1 k≠none)
  (k1:∀x kvs,Ae c k x->h.DictOf c.kv a kvs->ER c φ h es kvs->P) (k2:∀l x xs n,k=.tup l->dF l\x->h.get? a\(Ľ (xs.map (entryOfKey c.kt)) n)->(xs.map (·.1)).Nodup->ET c φ h es xs->P):P:=
 uF (c:=c) ok (λ x hx=>D.elim (λ y=>y.elim λ kvs y=>k1 x kvs hx y.1 y.2) λ y=>y.elim λ xs y=>y.elim λ n y=>LR.both y.2.2 (λ e e'=>k1 x [] hx (ň (e'▸y.1)) (e▸.nil)) λ p r q e a=>absurd (a.1.elim λ l z=>z.1▸I7 hx) (hq p r e))
  λ l x e hx=>D.elim (λ y=>y.elim λ kvs y=>LR.both y.2 (λ e1 e2=>(r_ (e2▸y.1)).elim λ n g=>k2 l x [] n e hx g YU (e1▸.nil)) λ p r q e1 a=>absurd (e▸I6 a.1) (hq p r e1)) λ y=>y.elim λ xs y=>y.elim λ n y=>k2 l x xs n e hx y.1 y.2.1 y.2.2
theorem F3{β:Type}{o:Option Bool}{a b:Option β}{r:β}(e:ob o a b\r):o≠none:=λ h=>by rw[h]at e;exact ns e
theorem sa{es:List (V×V)}{k:V}{r:Option V}(e:è es k\r)(p q)(h:es=p::q):mC p.1 k≠none:=by subst h;exact F3 e
theorem we{es ř:List (V×V)}{k v:V}(e:putK es k v\ř)(p q)(h:es=p::q):mC p.1 k≠none:=by subst h;exact F3 e
theorem DR.look(S:ă c){h:Heap}{a:Addr}{es:List (V×V)}{k:V}{w:Value}{r:Option V}{P:Prop}(D:DR c φ h a es)(ok:ó k=true)(e:è es k\r)(hk:VR c φ h k w)
  (q1:∀x f,c.kv.is x w=true->h.MapOf c.kv a f->OV c φ h r (f x)->P) (q2:∀b x xs,w=.ref b->c.kt.is h x b->h.DictOfH c.kt a xs->OV c φ h r ((atKey xs x).map (·.2))->P):P:=
 D.kind ok (sa e) (λ x kvs hx d ee=>q1 x _ (Aq hx hk) d.mapOf ((LR.find (λ p q b y=>r7 S y.1 hx) ee e).elim (λ y=>y.1▸Xq (Option.map _) y.2) λ y=>y.elim λ p y=>y.elim λ q y=>y.1▸⟨q.2,Xq (Option.map _) y.2.2,y.2.1.2⟩))
  λ l x xs n ek hx g nd ee=>(ek▸hk:VR c φ h (.tup l) w).ff (P:=λ w=>VR c φ h (.tup l) w->(∀b x xs,w=.ref b->c.kt.is h x b->h.DictOfH c.kt a xs->OV c φ h r ((atKey xs x).map (·.2))->P)->P) (λ b _ _ _ _ hk q2=>q2 b x xs rfl (VR.I8 hk hx) (ee.dictOf g nd)
   ((LR.find (λ p q b y e=>y.1.elim λ l' y=>Xn (e.symm^(y.1▸ek▸Ar y.2.1 hx))) ee e).elim (λ y=>y.1▸(by unfold atKey;rw[y.2];rfl)) λ y=>y.elim λ p y=>y.elim λ q y=>y.1▸⟨q.2.2,by unfold atKey;rw[y.2.2];rfl,y.2.1.2⟩)) (ek▸hk) q2
theorem Rel.se(S:ă c)(R:Rel c φ σ s.heap){r:Nat}{a:Addr}{l:List Addr}(e:φ[r]?\(a::l)):(a==sysModules)=false:=beq_eq_false_iff_ne.mpr λ q=>ba S.FY (q▸R.above a (ŏ e (X2 ..)))
theorem bc(hA:ŵ A d):c.kt.room A.in1:=by show A.in1.units+2<cLine;rw[aaf];have:=hA.units;unfold cLine;exact ln [_,_] [] (.c 1 (.a (.a (.v 0) (.m 40 (.v 1))) (.k 30)) (.k 9000) .e) 0 (.a (.a (.a (.v 0) (.k 1)) (.k 2)) (.k 1)) (.k 9900) rfl this
theorem p_(S:ă c)(hA:ŵ A d)(R:Rel c φ σ s.heap){v k r:V}{u w:Value}(e:jy σ v k\r)(hv:VR c φ s.heap v u)(hk:VR c φ s.heap k w):wpAny c.M A (getItem u w) (QP s (VR c φ s.heap r)) Ø s:=
 mF e (λ i h e=>mH e (λ l hl e=>Ĺ e λ z h' e=>(h'▸hk:VR c φ s.heap (.int z) w).Ŷ (P:=λ w=>wpAny c.M A (getItem u w) (QP s (VR c φ s.heap r)) Ø s) λ t=>v_ (h:=s.heap) R hl e (h▸hv))
  λ es hl e=>ñ e λ ok e=>match hf:è es k,e with
   |some q,e=>R.kP (P:=λ u=>wpAny c.M A (getItem u w) (QP s (VR c φ s.heap r)) Ø s) hl (h▸hv) λ a p D _=>D.look S ok (hf^(Xq some (show q\r from e))) hk
    (λ x f i m o=>o.elim λ y o=>wpAny_getItem_of i m o.1 (QP.tok o.2)) λ b x xs eb i m o=>o.elim λ y o=>(Zr.mp o.1).elim λ p z=>eb▸wpAny_getItem_heap (bc hA) i m z.1 (QP.tok (z.2.symm▸o.2))
   |none,e=>ns e) λ l h e=>Ĺ e λ z h' e=>ñ e λ hi e=>(h'▸hk:VR c φ s.heap (.int z) w).Ŷ (P:=λ w=>wpAny c.M A (getItem u w) (QP s (VR c φ s.heap r)) Ø s) λ t=>Ak hi e (h▸hv)
variable{Ú:St}
def Gu(c:Cx)(φ:Pl)(s:Shared)(X:List Addr)(Ú:St){α:Type}:α->Shared->Prop:=λ _ s'=>∃ð,Step X φ ð s s'/\Rel c ð Ú s'.heap
theorem bA{h h':Heap}{a:Addr}(x:Heap.SameBut a h h')(b o)(e:h.get? b\o)(n:b∉[a]):h'.get? b\o:=(x.2 b λ q=>n (q▸aaX a)).trans e
theorem Ő{h h':Heap}{a:Addr}{o:Obj}(x:Heap.SameBut a h h')(g:h.get? a\o)(hc:dyn o):Tk h h':=λ b vs n e=>(x.2 b λ q=>hc (Xn (g.symm^(q▸e))▸rfl))^e
theorem list_set{M:Program}{w:World}{l:Addr}{items:Array Value}{n:Nat}{k:Int}{t:Tok}{v:Value}{E:Value->Shared->Prop}{Q:Unit->Shared->Prop}(hl:s.heap.get? l\(Ť items n))
  (h0:0<=k) (hj:k.toNat<items.size) (M6:k<2^63)
  (hQ:Q () {s with heap:=s.heap.update l (Obj.mapSeq (·.setIfInBounds k.toNat v))}):wpAny (model M w) A (setItem (.ref l) (.int k t) v) Q E s:=by
 have hT:s.TypeIs (.ref l) "list":=⟨_,hl,rfl⟩;unfold setItem
 with_reducible refine YJ ?_
 refine XD (wpAny_sequenceKey hT (by decide) ?_);refine XD (wpAny_callSpecial?_slot (name:=Str.ofString "__setitem__") hT slot_list_setitem (wpAny_call_entry slot_list_setitem hT entry_list_setitem ?_ (args_list_setitem _ _ _)));show wpAny _ _ (Builtin.List.listSubscript? (.int k t)>>=_) _ _ s;refine XD (wpAny_listSubscript_int (fitsIndex_of h0 M6) ?_);clear M6;obtain⟨j,rfl⟩:=Int.eq_ofNat_of_zero_le h0;show wpAny _ _ ((seqItemAt l j>>=λ r=>pure (r.map (j,·)))>>=_) _ _ s;refine XD (XD (wpAny_seqItemAt hl rfl (XT ?_)));rw[show items[j]?=some items[j]from aaG hj];show wpAny _ _ (setSeqItemAt l j v>>=_) _ _ s;exact XD (wpAny_setSeqItemAt hl rfl (XT ⟨.none,rfl,XT hQ⟩))
theorem gH{r:Nat}{a:Addr}{l l':List V}{vs:Array Value}{n:Nat}{us:List Value}{f:Array Value->Array Value}{tk:Nat}(R:Rel c φ σ s.heap)(p:φ[r]?\[a])(hs:σ.get r\(.list l))(g:s.heap.get? a\(Ť vs n))
  (hf:(f vs).toList=us) (BG:ö c φ s.heap l' us) (hz:l'.length<=lim):Step [] φ φ s {s with heap:=s.heap.update a (Obj.mapSeq f),toks:=tk}/\Rel c φ (σ.set r (.list l')) (s.heap.update a (Obj.mapSeq f)):=
 have sb:=Heap.SameBut.update s.heap a (Obj.mapSeq f)
 R.both (s':={s with heap:=s.heap.update a (Obj.mapSeq f),toks:=tk}) p hs (bA sb) (o':=.list l') ⟨a,f vs,_,rfl,Heap.get?_update_self _ g rfl,hf.symm▸BG.ý (Ő sb g kK),hz⟩
theorem qa{es:List (V×V)}{k v:V}:∀{ř:List (V×V)},putK es k v\ř->ř.length<=es.length+1:=by
 induction es with
 |nil=>exact λ h=>Xn h▸XS _
 |cons q r ih=>
  exact λ h=>xw h (λ _ e=>Xn e▸Zj _) λ _ e=>â e λ m hm e=>e▸aag (ih hm)
theorem qc{a b:Nat}(e:a=b)(h:b<lim):a<=sizeLine:=e▸XJ (Ye h (by decide))
theorem M7{i:Int}{n:Nat}(h:i.toNat<n)(hz:n<=lim):i<2^63:=li [_,_] [_] (.c 1 (.a (.v 0) (.k 1)) (.v 1) (.c 1 (.v 1) (.k 100000) (.i 1 (.v 0) (.n (.v 0)) .e))) 0 (.a (.v 0) (.k 1)) (.k 9223372036854775808) rfl h hz (XU _)
theorem wg{prog:Program}{w:World}{K:Type}[DecidableEq K]{knd:KeyKind prog w K}{h:Heap}{a:Addr}{kvs:List (K×Value)}(x:h.DictOf knd a kvs):(kvs.map (·.1)).Nodup:=x.elim λ _ x=>x.elim λ _ x=>x.elim λ _ x=>x.2.2.2.2.2
theorem qd{h:Heap}{a:Addr}{xs:List (KT×Addr×Value)}(x:h.DictOfH c.kt a xs):∃n,h.get? a\(Ľ (xs.map (entryOfKey c.kt)) n)/\(xs.map (·.1)).Nodup:=x.elim λ o x=>x.elim λ es x=>x.elim λ ep x=>⟨ep,x.1^(Xq some ((nP x.2.1 x.2.2.1)^(x.2.2.2.1▸rfl))),x.2.2.2.2.2⟩
theorem DR.put(S:ă c){h:Heap}{a:Addr}{es ř:List (V×V)}{k z:V}{w u:Value}{P:Prop}(D:DR c φ h a es)(ok:ó k=true)(hz:es.length<lim)(hp:putK es k z\ř)(hk:VR c φ h k w)(hv:VR c φ h z u)
  (q1:∀x kvs,c.kv.is x w=true->h.DictOf c.kv a kvs->kvs.length<=sizeLine->(∀h',h'.DictOf c.kv a (PySem.stored kvs x u)->Heap.SameBut a h h'->DR c φ h' a ř)->P)
  (q2:∀b x xs,w=.ref b->c.kt.is h x b->h.DictOfH c.kt a xs->xs.length<=sizeLine->(∀h',h'.DictOfH c.kt a (storedH xs x b u)->Heap.SameBut a h h'->DR c φ h' a ř)->P):P:=
 D.kind ok (we hp) (λ x kvs hx d ee=>q1 x kvs (Aq hx hk) d (qc (LR.len ee) hz) λ h' d' sb=>.inl ⟨_,d',d.elim λ _ _=>(kJ d).elim λ _ g=>g.elim λ _ g=>ER.ý (Ő sb g Ŵ) (iy x u kvs (wg d)▸LR.put (λ p q b y=>r7 S y.1 hx) (λ p q y=>⟨y.1,hv⟩) ⟨hx,hv⟩ ee hp)⟩)
  λ l x xs n ek hx g nd ee=>(ek▸hk:VR c φ h (.tup l) w).ff (P:=λ w=>VR c φ h (.tup l) w->(∀b x xs,w=.ref b->c.kt.is h x b->h.DictOfH c.kt a xs->xs.length<=sizeLine->(∀h',h'.DictOfH c.kt a (storedH xs x b u)->Heap.SameBut a h h'->DR c φ h' a ř)->P)->P)
   (λ b _ _ _ _ hk q2=>q2 b x xs rfl (VR.I8 hk hx) (ee.dictOf g nd) (qc (LR.len ee) hz) λ h' d' sb=>(qd d').elim λ m y=>.inr ⟨_,m,y.1,y.2,ET.ý (Ő sb g Ŵ)
    (r9 x b u xs nd▸LR.put (λ p q b y e=>y.1.elim λ l' y=>Xn (e.symm^(y.1▸ek▸Ar y.2.1 hx))) (λ p q y=>⟨y.1,hv⟩) ⟨⟨l,ek,hx,hk⟩,hv⟩ ee hp)⟩) (ek▸hk) q2
theorem DU(R:Rel c φ σ s.heap){r:Nat}{l:List V}{i:Int}{v:V}{u w z:Value}(hl:σ.get r\(.list l))(hi:0<=i/\i.toNat<l.length)(ho:VR c φ s.heap (.ref r) u)(hk:VR c φ s.heap (.int i) w)(hv:VR c φ s.heap v z):
  wpAny c.M A (setItem u w z) (Gu c φ s [] (σ.set r (.list (l.set i.toNat v)))) Ø s:=
 hk.Ŷ (P:=λ w=>wpAny c.M A (setItem u w z) (Gu c φ s [] (σ.set r (.list (l.set i.toNat v)))) Ø s) λ t=>R.listE (P:=λ u=>wpAny c.M A (setItem u (.int i t) z) (Gu c φ s [] (σ.set r (.list (l.set i.toNat v)))) Ø s) hl ho λ a vs n p g Ĥ hz=>
  list_set g hi.1 (Ĥ.size▸hi.2) (M7 hi.2 hz) ⟨φ,gH (tk:=s.toks) (f:=(·.setIfInBounds i.toNat z)) R p hl g Array.toList_setIfInBounds (Ĥ.set hv) (Zu.symm▸hz)⟩
theorem DV(S:ă c)(hA:ŵ A d)(R:Rel c φ σ s.heap){r:Nat}{es ř:List (V×V)}{k v:V}{u w z:Value}(hl:σ.get r\(.dict es))(ok:ó k=true/\es.length<lim)(hp:putK es k v\ř)(ho:VR c φ s.heap (.ref r) u)(hk:VR c φ s.heap k w)(hv:VR c φ s.heap v z):
  wpAny c.M A (setItem u w z) (Gu c φ s [] (σ.set r (.dict ř))) Ø s:=
 R.kP (P:=λ u=>wpAny c.M A (setItem u w z) (Gu c φ s [] (σ.set r (.dict ř))) Ø s) hl ho λ a p D hz=>
  have BC:ř.length<=lim:=Xp (qa hp) ok.2
  D.put S ok.1 ok.2 hp hk hv (λ x kvs i d hs f=>wpAny_setItem_pairs i d (λ h' d' sb=>⟨φ,R.both p hl (bA sb) ⟨a,rfl,f h' d' sb,BC⟩⟩) hs)
   λ b x xs eb i d hs f=>eb▸wpAny_setItem_heap (bc hA) i d (λ h' d' sb=>⟨φ,R.both p hl (bA sb) ⟨a,rfl,f h' d' sb,BC⟩⟩) hs
theorem uG(S:ă c)(hA:ŵ A d)(R:Rel c φ σ s.heap){o k v:V}{u w z:Value}(e:é σ o k v\Ú)(ho:VR c φ s.heap o u)(hk:VR c φ s.heap k w)(hv:VR c φ s.heap v z):
  wpAny c.M A (setItem u w z) (Gu c φ s [] Ú) Ø s:=
 bY e λ i h e=>mH e (λ l hl e=>Ĺ e λ j h' e=>ñ e λ hi e=>Xn e▸DU R hl hi (h▸ho) (h'▸hk) hv) λ l hl e=>ñ e λ ok e=>â e λ l' hp e=>e▸DV S hA R hl ok hp (h▸ho) hk hv
variable{vs:Array Value}
theorem sf{prog:Program}{w:World}{K:Type}[DecidableEq K]{knd:HeapKind prog w K}{E:Value->Shared->Prop}{dd a:Addr}{k:K}{xs:List (K×Addr×Value)}
  {Q:Value->Shared->Prop} (hu:knd.room A.in1) (Sy:knd.is s.heap k a) (hd:(dd==sysModules)=false) (hm:s.heap.DictOfH knd dd xs)
  (h:Q (.bool (!(atKey xs k).isSome)) {s with toks:=s.toks+knd.draws k}):wpAny (model prog w) A (compareOp .NotIn (.ref a) (.ref dd)) Q E s:=by
 show wpAny _ _ (do return .bool (!(<-contains (.ref dd) (.ref a)))) Q E s;refine XD ?_;unfold contains
 try with_reducible refine YJ ?_
 refine XD (Zw hm.typeIs aaD.lookup ?_);show wpAny _ _ (if (some (Value.builtin "dict.__contains__")==some Value.none)=true then _ else _) _ E s;rw[XW (by rw[beq_builtin_none];exact Yy)];refine XD (wpAny_callSpecialUnlessNone?_slot (name:=Str.ofString "__contains__") hm.typeIs aaD (wpAny_call_entry aaD hm.typeIs entry_dict_contains ?_ (args_dict_contains _ _)));show wpAny _ _ (dictGet dd (.ref a)>>=_) _ _ s;refine XD (wpAny_dictGet_heap hu Sy hm ?_);cases hf:atKey xs k with
 |some p=>
  rw[hf]at h;show wpAny _ _ (ret (.bool true)) _ _ _;exact XT ⟨_,rfl,Y2 (XT h)⟩
 |none=>
  rw[hf]at h;show wpAny _ _ (Builtin.Dict.pendingKey? dd (.ref a)>>=_) _ _ _;exact XD (wpAny_pendingKey_other hd (XT ⟨_,rfl,Y2 (XT h)⟩))
def wj(neg:Bool):CmpOp:=if neg then .NotIn else .In
theorem ğ{h:Heap}{b:Bool}:VR c φ h (.bool b) (.bool b):=show Value.bool b=.bool b from rfl
theorem OV.OP{h:Heap}{r:Option V}{z:Option Value}(o:OV c φ h r z):z.isSome=r.isSome:=by
 cases r with
 |none=>exact(show z=none from o)▸rfl
 |some v=>exact(show ∃u,z\u/\VR c φ h v u from o).elim λ u o=>o.1▸rfl
theorem qb{b x:Bool}{tk:Nat}(h:x=b):QP s (VR c φ s.heap (.bool b)) (.bool x) {s with toks:=tk}:=h▸QP.tok ğ
theorem in_dict(S:ă c)(hA:ŵ A d)(R:Rel c φ σ s.heap)(neg:Bool){r:Nat}{es:List (V×V)}{k:V}{x:Option V}{u w:Value}(hl:σ.get r\(.dict es))(ok:ó k=true)(e:è es k\x)(hv:VR c φ s.heap (.ref r) u)(hk:VR c φ s.heap k w):
  wpAny c.M A (compareOp (wj neg) w u) (QP s (VR c φ s.heap (.bool (neg^^x.isSome)))) Ø s:=
 R.kP (P:=λ u=>wpAny c.M A (compareOp (wj neg) w u) (QP s (VR c φ s.heap (.bool (neg^^x.isSome)))) Ø s) hl hv λ a p D _=>
  have dP:=R.se S p
  match neg with
  |false=>D.look S ok e hk (λ y f i m o=>wpAny_in_of i dP m (qb (o.OP.trans (aaE _).symm))) λ b y xs eb i m o=>eb▸wpAny_in_heap (bc hA) i dP m (qb ((Z4).symm.trans (o.OP.trans (aaE _).symm)))
  |true=>D.look S ok e hk (λ y f i m o=>wpAny_notIn_of i dP m (qb ((Xq not o.OP).trans (aaS _).symm))) λ b y xs eb i m o=>eb▸sf (bc hA) i dP m (qb ((Xq not ((Z4).symm.trans o.OP)).trans (aaS _).symm))
def sg(i:Int):Value->Bool
 |.int j _=>decide (j=i)
 |_=>false
theorem DW{h:Heap}{i:Int}{l:List V}:∀{us:List Value} {b:Bool},Br i l\b->ö c φ h l us->us.any (sg i)=b/\∀u∈us,∃j t,u=.int j t:=by
 induction l with
 |nil=>exact λ e x=>Xn e▸x.lJ▸⟨rfl,λ _ h=>nomatch h⟩
 |cons a l ih=>
  exact fun {us b} e x=>Ĺ (show wi a (λ b=>bo (Br i l) λ x=>some (decide (b=i)||x))\b from e) λ j h e=>í e λ y hy e=>x.au (P:=λ us=>us.any (sg i)=b/\∀u∈us,∃j t,u=.int j t) λ u r hu hr=>
   (h▸hu:VR c φ _ (.int j) u).Ŷ (P:=λ u=>(u::r).any (sg i)=b/\∀v∈u::r,∃j t,v=.int j t) λ t=>have q:=ih hy hr
    ⟨ZQ.trans (q.1▸Xn e),λ v hv=>(XE.mp hv).elim (λ e=>⟨j,t,e⟩) (q.2 v)⟩
theorem in_list(S:ă c)(R:Rel c φ σ s.heap)(neg:Bool){r:Nat}{l:List V}{i:Int}{b:Bool}{u w:Value}(hl:σ.get r\(.list l))(e:Br i l\b)(hv:VR c φ s.heap (.ref r) u)(hk:VR c φ s.heap (.int i) w):
  wpAny c.M A (compareOp (wj neg) w u) (QP s (VR c φ s.heap (.bool (neg^^b)))) Ø s:=
 R.listE (P:=λ u=>wpAny c.M A (compareOp (wj neg) w u) (QP s (VR c φ s.heap (.bool (neg^^b)))) Ø s) hl hv λ a vs n p g Ĥ _=>hk.Ŷ (P:=λ w=>wpAny c.M A (compareOp (wj neg) w (.ref a)) (QP s (VR c φ s.heap (.bool (neg^^b)))) Ø s) λ t=>
  have q:=DW e Ĥ;have he:∀y,y∈vs->EqAt A.in1 s y (.int i t) (sg i y):=λ y hy=>(q.2 y (Array.mem_toList_iff.mpr hy)).elim λ j z=>z.elim λ t' z=>z▸EqAt.int_int j t' i t;have h3:vs.any (sg i)=b:=aaY.symm.trans q.1
  match neg with
  |false=>in_listAt (sg i) ⟨_,g,rfl,n,rfl⟩ he (h3▸(aaE _).symm▸QP.here ğ)
  |true=>notIn_listAt (sg i) ⟨_,g,rfl,n,rfl⟩ he (h3▸(aaS _).symm▸QP.here ğ)
theorem uH(S:ă c)(hA:ŵ A d)(R:Rel c φ σ s.heap)(neg:Bool){a b:V}{r:Bool}{u w:Value}(e:isIn σ a b\r)(ha:VR c φ s.heap a w)(hb:VR c φ s.heap b u):
  wpAny c.M A (compareOp (wj neg) w u) (QP s (VR c φ s.heap (.bool (neg^^r)))) Ø s:=
 bY e λ i U e=>mH e (λ l hl e=>Ĺ e λ z h2 e=>in_list S R neg hl e (U▸hb) (h2▸ha)) λ l hl e=>ñ e λ ok e=>â e λ f hf h=>h▸in_dict S hA R neg hl ok hf (U▸hb) ha
theorem dz{h:Heap}{v:V}{u:Value}(hv:VR c φ h v u):plainIs u .none=true/\(u==.none)=isNone v:=by
 cases v with
 |none=>rw[hv.pU];exact⟨rfl,rfl⟩
 |bool b=>rw[show u=.bool b from hv];exact⟨rfl,rfl⟩
 |int i=>exact hv.Ŷ (P:=λ u=>plainIs u .none=true/\(u==.none)=false) λ _=>⟨rfl,rfl⟩
 |str k=>exact hv.I5 (P:=λ u=>plainIs u .none=true/\(u==.none)=false) λ _=>⟨rfl,rfl⟩
 |ref r=>exact hv.Ah (P:=λ u=>plainIs u .none=true/\(u==.none)=false) λ _ _ _=>⟨rfl,rfl⟩
 |tup l=>exact hv.ff (P:=λ u=>plainIs u .none=true/\(u==.none)=false) λ _ _ _ _ _=>⟨rfl,rfl⟩
 |fl l=>exact hv.Sw (P:=λ u=>plainIs u .none=true/\(u==.none)=false) λ _ _ _ _ _=>⟨rfl,rfl⟩
theorem uI{v k:V}{r:Bool}{u w:Value}{f:Int->Int->Bool}{P:Value->Value->Bool->Prop}(e:(wi v λ i=>wi k λ j=>some (f i j))\r)(hv:VR c φ s.heap v u)(hk:VR c φ s.heap k w)(q:∀i j t t',P (.int i t) (.int j t') (f i j)):P u w r:=Ĺ e λ i h e=>Ĺ e λ j h' e=>Xn e▸(h▸hv:VR c φ s.heap (.int i) u).Ŷ (P:=λ u=>P u w (f i j)) λ t=>(h'▸hk:VR c φ s.heap (.int j) w).Ŷ (P:=λ w=>P (.int i t) w (f i j)) λ t'=>q i j t t'
theorem uJ(S:ă c)(hA:ŵ A d)(R:Rel c φ σ s.heap){o:qF}{p:CmpOp}(ho:zW o p=true){v k:V}{r:Bool}{u w:Value}(e:BN σ o v k\r)(hv:VR c φ s.heap v u)(hk:VR c φ s.heap k w):wpAny c.M A (compareOp p u w) (QP s (VR c φ s.heap (.bool r))) Ø s:=by
 have hu:A.units+6<cLine:=Xs (Xp (YD (Ya _ _) (by decide)) hA.units) (by decide);rw[XA ho];clear ho;cases o with
 |eq=>exact(Ao R 6 v k r u w e hv hk A hu).2.1 _ _ _ _ (QP.here ğ)
 |ne=>exact â e λ b h e=>e▸(Ao R 6 v k b u w h hv hk A hu).2.2 _ _ _ _ (QP.here ğ)
 |lt=>exact uI (P:=λ u w r=>wpAny c.M A (compareOp .Lt u w) (QP s (VR c φ s.heap (.bool r))) Ø s) e hv hk λ i j t t'=>lt_int (QP.here ğ)
 |le=>exact uI (P:=λ u w r=>wpAny c.M A (compareOp .LtE u w) (QP s (VR c φ s.heap (.bool r))) Ø s) e hv hk λ i j t t'=>le_int (QP.here ğ)
 |gt=>exact uI (P:=λ u w r=>wpAny c.M A (compareOp .Gt u w) (QP s (VR c φ s.heap (.bool r))) Ø s) e hv hk λ i j t t'=>gt_int (QP.here ğ)
 |ge=>exact uI (P:=λ u w r=>wpAny c.M A (compareOp .GtE u w) (QP s (VR c φ s.heap (.bool r))) Ø s) e hv hk λ i j t t'=>ge_int (QP.here ğ)
 |is=>exact xy e λ h h'=>(h▸hk:VR c φ s.heap .none w).pU▸wpAny_is_plain (dz hv).1 (Xn h'▸(dz hv).2▸QP.here ğ)
 |bF=>exact xy e λ h h'=>(h▸hk:VR c φ s.heap .none w).pU▸wpAny_isNot_plain (dz hv).1 (Xn h'▸(dz hv).2▸QP.here ğ)
 |isin=>exact aaE r▸uH S hA R false e hv hk
 |ũ=>exact â e λ b h e=>e▸aaS b▸uH S hA R true h hv hk
theorem DX(R:Rel c φ σ s.heap){v r:V}{u:Value}(e:Gk v\r)(hv:VR c φ s.heap v u):wpAny c.M A (unaryOp .USub u) (QP s (VR c φ s.heap r)) Ø s:=Ĺ e λ i h h'=>Xn h'▸(h▸hv:VR c φ s.heap (.int i) u).Ŷ (P:=λ u=>wpAny c.M A (unaryOp .USub u) (QP s (VR c φ s.heap (.int (-i)))) Ø s) λ t=>neg_int (QP.here (show ∃t,_=Value.int (-i) t from⟨_,rfl⟩))
theorem iz(R:Rel c φ σ s.heap){i:Int}{t:Tok}{tk:Nat}:Gd c φ s [] σ (.int i) (.int i t) {s with toks:=tk}:=⟨φ,Step.ē (λ _ _ e=>e),R,(⟨t,rfl⟩:∃t',Value.int i t=.int i t')⟩
theorem jo{h:Heap}{o:Obj}:h.objs.size<=(h.push o).objs.size:=Array.size_push ..▸Zj _
theorem newList(R:Rel c φ σ s.heap){l:List V}{tk:Nat}(Ĥ:ö c φ s.heap l vs.toList)(hz:l.length<=lim):
  Gd c φ s [] (σ.new (.list l)) (.ref σ.n) (.ref s.heap.objs.size) {s with heap:=s.heap.push (Ť vs 0),toks:=tk}:=
 have kp:∀b o,s.heap.get? b\o->(s.heap.push (Ť vs 0)).get? b\o:=λ b o e=>X7 _ e;have U:∀a∈[s.heap.objs.size],s.heap.get? a=none:=λ a ha=>gE ha▸get_none (XS _)
 ⟨φ++[[s.heap.objs.size]],Step.alloc kp jo (λ a ha=>gE ha▸XS _),R.add (λ b o e _=>kp b o e) (λ a ha=>(R.fresh (U a ha)).1) (λ a ha=>(R.fresh (U a ha)).2) (λ a ha vs n e=>Ħ e (U a ha)) (X0.mpr ⟨Yh,YU⟩)
  ⟨_,vs,0,rfl,Yu _ rfl,Ĥ.mono (λ _ _ _ e=>kp _ _ e),hz⟩,⟨_,[],kL R.len _,rfl⟩⟩
theorem WH{i:Int}(h:i.natAbs<1000):-2^64<i/\i<2^64:=by omega
theorem j30{j:Int}(h:0<j/\j<1073741824):j.natAbs<1073741824:=by omega
theorem M8{i:Int}(h:16<=i):i.natAbs≠0/\2^4<=i.natAbs:=by omega
theorem M9{i:Int}(U:16<=i):¬(2:Int)≥((Builtin.Int.intBits i:Nat):Int):=by
 have aux:(4:Nat)<=i.natAbs.log2:=(Nat.le_log2 (M8 U).1).mpr (M8 U).2;unfold Builtin.Int.intBits;split
 ·rename_i h0;exact absurd h0 λ e=>absurd (Zy e▸U) (by decide)
 ·exact λ q0=>lL [_] [] (.c 1 (.k 4) (.v 0) (.i 1 (.n (.a (.v 0) (.k 1))) (.k 2) .e)) rfl aux q0
theorem M_(R:Rel c φ σ s.heap){o:fo}{i j r:Int}{t t':Tok}(e:binI o i j\r):wpAny c.M A (binaryOp (zV o) (.int i t) (.int j t')) (Gd c φ s [] σ (.int r)) Ø s:=by
 cases o with
 |add=>exact Xn e▸add_int (iz R)
 |sub=>exact Xn e▸sub_int (iz R)
 |mul=>exact ñ e λ hz e=>Xn e▸mul_int (iz R) (IntMulOk.of_left (intBits_le_64 (WH hz).1 (WH hz).2))
 |fdiv=>exact ñ e λ hz e=>Xn e▸floordiv_int (Yz hz.1) (iz R) (.inl (PyProof.noPylong_small (j30 hz)))
 |mod=>exact ñ e λ hz e=>Xn e▸mod_int' (Yz hz.1) (iz R)
 |shr=>exact ñ e λ hz e=>Xn e▸hz.1▸AutoIntOps.rshift_2 (by decide) (M9 hz.2.1) (iz R)
theorem I9(R:Rel c φ σ s.heap){i j:Nat}{l m:List V}{u w:Value}(hl:σ.get i\(.list l))(hm:σ.get j\(.list m))(hz:l.length+m.length<=lim)(hv:VR c φ s.heap (.ref i) u)(hk:VR c φ s.heap (.ref j) w):wpAny c.M A (binaryOp .Add u w) (Gd c φ s [] (σ.new (.list (l++m))) (.ref σ.n)) Ø s:=
 R.listE (P:=λ u=>wpAny c.M A (binaryOp .Add u w) (Gd c φ s [] (σ.new (.list (l++m))) (.ref σ.n)) Ø s) hl hv λ a vs n p g Ĥ _=>R.listE (P:=λ w=>wpAny c.M A (binaryOp .Add (.ref a) w) (Gd c φ s [] (σ.new (.list (l++m))) (.ref σ.n)) Ø s) hm hk λ a' aw n' p' g' Na _=>
  P.add_list g g' (newList (tk:=s.toks) R (by rw[Array.toList_append];exact Ĥ.append Na) (Xr▸hz)) (Ĥ.size▸Na.size▸Xp hz (by decide))
theorem Av{o:fo}(h:isAdd o=true):o=.add:=fo.add.elim (motive:=λ o=>o=.add) o (YM h) rfl
theorem DY(S:ă c)(hA:ŵ A d)(R:Rel c φ σ s.heap){o:fo}{p:Operator}(ho:me o p=true){v k r:V}{u w:Value}(e:xq σ o v k\(r,Ú))(hv:VR c φ s.heap v u)(hk:VR c φ s.heap k w):wpAny c.M A (binaryOp p u w) (Gd c φ s [] Ú r) Ø s:=
 XA ho▸Gn e (λ i h e=>Ĺ e λ j h' e=>â e λ n hn e=>(h▸hv:VR c φ s.heap (.int i) u).Ŷ (P:=λ u=>wpAny c.M A (binaryOp (zV o) u w) (Gd c φ s [] Ú r) Ø s) λ t=>(h'▸hk:VR c φ s.heap (.int j) w).Ŷ (P:=λ w=>wpAny c.M A (binaryOp (zV o) (.int i t) w) (Gd c φ s [] Ú r) Ø s) λ t'=>
   (YX e).1▸(YX e).2▸M_ R hn)
  λ i h e=>bY e λ j h' e=>ñ e λ ad e=>aE e λ l hl e=>aE e λ m hm e=>ñ e λ hz e=>Av ad▸(YX (Xn e)).1▸(YX (Xn e)).2▸I9 R hl hm hz (h▸hv) (h'▸hk)
theorem str_beq{a b:Str}:(a==b)=decide (a=b):=by by_cases q:a=b<;>rfl
theorem kS(S:ă c){x y:Nat}{t:Tok}:(Value.str (c.T.nm y) t).isStr (c.T.nm x)=decide (y=x):=str_beq^(ao ⟨λ e=>S.DS _ _ e,λ e=>e▸rfl⟩)
theorem Aw{n:Str}{e:DictEntry}{r:List DictEntry}(h:e.key.isStr n=true):getL n (e::r)\(some e.val):=by unfold getL;rw[Y_ (p:=λ e:DictEntry=>e.key.isStr n) h]
theorem wm{n:Str}{e:DictEntry}{r:List DictEntry}(h:e.key.isStr n=false)(h':e.refKey=false):getL n (e::r)=getL n r:=by unfold getL;rw[Za (p:=λ e:DictEntry=>e.key.isStr n) (by rw[h];exact Yy),ZQ,h'];rfl
theorem kT(S:ă c){h:Heap}{x:Nat}{fs:List (Nat×V)}{ds:List DictEntry}(F:xc c φ h fs ds):∃z,getL (c.T.nm x) ds\z/\OV c φ h (look fs x) z:=by
 induction F with
 |nil=>exact⟨none,rfl,rfl⟩
 |@cons p d l m a _ ih=>
  exact a.elim λ t z=>z.elim λ u z=>if q:p.1=x then ⟨some u,z.1▸Aw ((kS S)^(XI q)),(show look (p::l) x\p.2 from XR q).symm▸⟨u,rfl,z.2⟩⟩
   else (show look (p::l) x=look l x from XW q).symm▸z.1▸(wm (n:=c.T.nm x) (e:=⟨PyData.keyHash c.w.params (c.T.nm p.1),.str (c.T.nm p.1) t,u⟩) (r:=m) ((kS S)^(XY q)) rfl).symm▸ih
theorem xc.put(S:ă c){h:Heap}{x:Nat}{v:V}{u:Value}{t:Tok}(hv:VR c φ h v u){fs:List (Nat×V)}{ds:List DictEntry}(F:xc c φ h fs ds):
  xc c φ h (av fs x v) (putL (c.T.nm x) (PyData.keyHash c.w.params (c.T.nm x)) (.str (c.T.nm x) t) u ds):=by
 induction F with
 |nil=>exact .cons ⟨t,u,rfl,hv⟩ .nil
 |@cons p d l m a y ih=>
  exact a.elim λ t' z=>z.elim λ u' z=>
   have e1:d.key.isStr (c.T.nm x)=decide (p.1=x):=z.1▸kS S
   if q:p.1=x then (show av (p::l) x v=(p.1,v)::l from XR q).symm▸(show putL (c.T.nm x) (PyData.keyHash c.w.params (c.T.nm x)) (.str (c.T.nm x) t) u (d::m)=⟨d.hash,d.key,u⟩::m from XR (e1^(XI q))).symm▸.cons ⟨t',u,z.1▸rfl,hv⟩ y
   else (show av (p::l) x v=p::av l x v from XW q).symm▸(show putL (c.T.nm x) (PyData.keyHash c.w.params (c.T.nm x)) (.str (c.T.nm x) t) u (d::m)=d::putL (c.T.nm x) (PyData.keyHash c.w.params (c.T.nm x)) (.str (c.T.nm x) t) u m from XW (λ w=>Yy ((XY q).symm.trans (e1.symm^w)))).symm▸.cons a ih
theorem qe(x:Nat)(v:V)(fs:List (Nat×V)):(av fs x v).length<=fs.length+1:=by
 induction fs with
 |nil=>exact XS _
 |cons p l ih=>exact if q:p.1=x then (show av (p::l) x v=(p.1,v)::l from XR q).symm▸Zj _ else (show av (p::l) x v=p::av l x v from XW q).symm▸aag ih
theorem Ax{x:Nat}{v:V}{P:Nat->Prop}(hx:P x){fs:List (Nat×V)}(h:∀p∈fs,P p.1):∀p∈av fs x v,P p.1:=by
 induction fs with
 |nil=>exact λ p hp=>gE hp▸hx
 |cons q l ih=>
  exact if e:q.1=x then (show av (q::l) x v=(q.1,v)::l from XR e).symm▸λ p hp=>(XE.mp hp).elim (λ e'=>e'▸h q (X2 ..)) λ hp=>h p (XM _ hp)
   else (show av (q::l) x v=q::av l x v from XW e).symm▸λ p hp=>(XE.mp hp).elim (λ e'=>e'▸h q (X2 ..)) (ih (λ p hp=>h p (XM _ hp)) p)
theorem Ay{x:Nat}{v:V}{fs:List (Nat×V)}(e:look fs x\v){P:Nat->Prop}(h:∀p∈fs,P p.1):P x:=by
 induction fs with
 |nil=>exact ns e
 |cons q l ih=>exact if e':q.1=x then e'▸h q (X2 ..)else ih ((show look (q::l) x=look l x from XW e').symm.trans e) λ p hp=>h p (XM _ hp)
theorem VR.handed{h:Heap}{v:V}{u:Value}(hv:VR c φ h v u):handedIn u=true:=by
 cases v with
 |none=>rw[hv.pU];rfl
 |bool b=>rw[hv.kM];rfl
 |int i=>exact hv.Ŷ (P:=λ u=>handedIn u=true) λ _=>rfl
 |str k=>exact hv.I5 (P:=λ u=>handedIn u=true) λ _=>rfl
 |ref r=>exact hv.Ah (P:=λ u=>handedIn u=true) λ _ _ _=>rfl
 |tup l=>exact hv.ff (P:=λ u=>handedIn u=true) λ _ _ _ _ _=>rfl
 |fl l=>exact hv.Sw (P:=λ u=>handedIn u=true) λ _ _ _ _ _=>rfl
theorem Rel.K(S:ă c)(R:Rel c φ σ s.heap):c.K.In s.heap:=λ a o e=>R.e9 _ _ (S.Wx a o e)
theorem si{h:Heap}{a dx C:Addr}{ds:List DictEntry}{n:Nat}(g:h.get? a\⟨.ref C,some dx,.plain,#[]⟩)(g':h.get? dx\(Ľ ds n)):InstAt h a ⟨.ref C,some dx,.plain,#[]⟩ C (some (Ľ ds n)):=⟨g,rfl,rfl,g'⟩
theorem uK(S:ă c)(R:Rel c φ σ s.heap){v r:V}{x:Nat}{u:Value}(e:fp σ x v\r)(hv:VR c φ s.heap v u){b:Bool}:wpAny c.M A (getAttr u (c.T.nm x) b) (QP s (VR c φ s.heap r)) Ø s:=
 bY e λ i h e=>EY e λ k fs hl e=>R.Aj (P:=λ u=>wpAny c.M A (getAttr u (c.T.nm x) b) (QP s (VR c φ s.heap r)) Ø s) hl (h▸hv) λ a dx ds n p g g' F hz hc hf=>
  (kT S (x:=x) F).elim λ z y=>(show OV c φ s.heap (some r) z from e▸y.2).elim λ u w=>(S.fld k x (Ay (P:=λ x=>c.sig.fld k x=true) e hf)).elim λ attr z=>
   get_value (K:=c.K) (R.K S) (si g g') (plainGet_of (S.cl k hc).get).1 (findObj_own (S.cl k hc).has z.1 z.2.1 (w.1▸y.1)) w.2.handed (QP.tok w.2)
theorem Az{n:Str}{ds:List DictEntry}{z:Option Value}(h:getL n ds\z):(!ds.toArray.any (·.key.isStr n)&&ds.toArray.any (·.refKey))=false:=by
 rw[<-aaY,<-aaY];unfold getL at h;split at h
 ·rename_i en he;rw[List.any_eq_true.mpr ⟨en,ZL he,aa5 he⟩];rfl
 ·split at h
  ·exact ns h
  ·rename_i z;rw[Bool.not_eq_true]at z;rw[z,Bool.and_false]
theorem DZ{h:Heap}{a dx b:Addr}{ds:List DictEntry}{n:Nat}(g:h.get? a\⟨.ref b,some dx,.plain,#[]⟩)(g':h.get? dx\(Ľ ds n)):a≠dx:=λ q=>absurd (Xn (g.symm^(q▸g'))) λ e=>by injection e with e;exact nomatch e
theorem I_{a dx C:Addr}{ds:List DictEntry}{n:Nat}{name:Str}{z:Value}{cd:ClassData}{Q:Unit->Shared->Prop}(X:c.K.In s.heap)(g:s.heap.get? a\⟨.ref C,some dx,.plain,#[]⟩)(g':s.heap.get? dx\(Ľ ds n))
  (hs:findIn c.K (.ref C) "__setattr__"\(some (.builtin "object.__setattr__"))) (hp:plainOver c.K C=true) (ht:takerIn c.K C name\none) (Nb:clsIn c.K C\cd) (hd:cd.hasDict=true) {w:Option Value} (hl:getL name ds\w) (hz:(putL name (PyData.keyHash c.w.params name) (.str name (s.toks+1)) z ds).length<=1000)
  (q:∀h' m,Heap.SameBut dx s.heap h'->h'.get? dx\(Ľ (putL name (PyData.keyHash c.w.params name) (.str name (s.toks+1)) z ds) m)->Q () {s with heap:=h',toks:=s.toks+2}):
  wpAny c.M A (setAttr (.ref a) name z) Q Ø s:=by
 have I:=si g g';refine set_plain (K:=c.K) X I hs (osa_open (s:={s with toks:=s.toks+1}) X I hp ht λ b=>?_);let f:=Obj.putName name (PyData.keyHash c.w.params name) (.str name (s.toks+1)) z;have ef:f (Ľ ds n)=Ľ (putL name (PyData.keyHash c.w.params name) (.str name (s.toks+1)) z ds) (putN name ds n):=putName_dict _ _ _ _ _ _
 have D':(s.heap.update dx f).get? dx\(Ľ (putL name (PyData.keyHash c.w.params name) (.str name (s.toks+1)) z ds) (putN name ds n)):=(Heap.get?_update_self _ g' (ef.symm▸rfl)).trans (Xq some ef)
 refine XD (XT (XD (XD (wpAny_loadPart g (XD (Looks.here (s:={s with toks:=s.toks+1}) (looks_clsIn X Nb) ?_))))));rw[hd];refine XT (a:=some dx) (XD (XT (XD ?_)));unfold nsSet;refine XD (XD (wpAny_askSetting (XT (XD (wpAny_mkText (XD (wpAny_loadPart g' ?_)))))));dsimp only;rw[aRefKeyMayBeTheName_at,Az hl];exact wpAny_updatePart g' (XD (wpAny_lookBehind D' (pastItsLine_dict (List.size_toArray▸Xp hz (by decide))) (XT (q _ _ (Heap.SameBut.update s.heap dx f) D'))))
theorem AA(S:ă c)(R:Rel c φ σ s.heap){r k:Nat}{fs:List (Nat×V)}{v:V}{x:Nat}{u z:Value}(hl:σ.get r\(.inst k fs))(pC:fs.length<900/\c.sig.fld k x=true)(ho:VR c φ s.heap (.ref r) u)(hv:VR c φ s.heap v z):
  wpAny c.M A (setAttr u (c.T.nm x) z) (Gu c φ s [] (σ.set r (.inst k (av fs x v)))) Ø s:=
 R.Aj (P:=λ u=>wpAny c.M A (setAttr u (c.T.nm x) z) (Gu c φ s [] (σ.set r (.inst k (av fs x v)))) Ø s) hl ho λ a dx ds n p g g' F hz hc hf=>
  have CO:=S.cl k hc;have F2:=xc.put S (x:=x) (t:=s.toks+1) hv F;have Nc:=qe x v fs
  (any_some CO.has).elim λ cd Nb=>(kT S (x:=x) F).elim λ w y=>(S.fld k x pC.2).elim λ attr ha=>
   I_ (R.K S) g g' CO.set CO.over ha.2.2 Nb.1 Nb.2 y.1 (LR.len F2▸Xp Nc (Xp pC.1 (by decide))) λ h' m sb D=>
    have ht2:=Ő sb g' Ŵ
    ⟨φ,R.both p hl (λ b o e n=>(sb.2 b (λ q=>n (q▸XM _ (X2 ..))))^e) ⟨a,dx,_,_,rfl,(sb.2 a (DZ g g'))^g,D,FT (P:=λ φ=>xc c φ h' _ _) (xc.mono ht2 F2),Xp Nc pC.1,hc,Ax (P:=λ y=>c.sig.fld k y=true) pC.2 hf⟩⟩
theorem uL(S:ă c)(R:Rel c φ σ s.heap){o v:V}{x:Nat}{u z:Value}(e:jA c.sig σ x v o\Ú)(ho:VR c φ s.heap o u)(hv:VR c φ s.heap v z):
  wpAny c.M A (setAttr u (c.T.nm x) z) (Gu c φ s [] Ú) Ø s:=
 bY e λ i h e=>EY e λ k fs hl e=>ñ e λ q e=>Xn e▸AA S R hl q (h▸ho) hv
end
end
end Mine
namespace Mine
open PySem PySem.W PyProof.Rows PySem.Calls PySem.SeqAt
noncomputable section
variable{α:Type}{Á:Pl}{Â:Shared}{Ú:St}{ě:St}{id:Str}
structure On (c:Cx) (d:Nat) (A:Around) (env:Env) (sc:ű) (ρ:Loc) (φ:Pl) (s:Shared) (σ:St):Prop where
 hA:ŵ A d
 hK:r6 env sc
 R:Rel c φ σ s.heap
 F:FR c φ env ρ s.heap
def Ev(c:Cx)(A:Around)(env:Env)(φ:Pl)(s:Shared)(r:V×St)(y:Expr):Prop:=wpAny c.M A (eval y env) (Gd c φ s [] r.2 r.1) Ø s
def Evs(c:Cx)(A:Around)(env:Env)(φ:Pl)(s:Shared)(p:Pos)(r:List V×St)(y:List Expr):Prop:=wpAny c.M A (spliced (backTo p (starEach y env))) (Gds c φ s [] r.2 r.1) Ø s
def IE(c:Cx)(C:Call)(d:Nat)(e:E):Prop:=∀{A env sc x φ s σ ρ r},On c d A env sc ρ φ s σ->ï c.T sc e x=true->Ä c.sig C ρ e σ\r->Ev c A env φ s r x
def xd(c:Cx)(C:Call)(d:Nat)(e:List E):Prop:=∀{A env sc x φ s σ ρ r p},On c d A env sc ρ φ s σ->æ c.T sc e x=true->ß c.sig C ρ e σ\r->Evs c A env φ s p r x
section
variable{c:Cx}{C:Call}{d:Nat}{φ:Pl}{A:Around}{s:Shared}{σ:St}{env:Env}{sc:ű}{ρ:Loc}
theorem sj{M:Model}{m m':Sem α}{Q:α->Shared->Prop}{E:Value->Shared->Prop}(e:m=m')(h:wpAny M A m' Q E s):wpAny M A m Q E s:=e▸h
theorem Ü{M:Model}{m:Sem α}{Q Q':α->Shared->Prop}{E:Value->Shared->Prop}(h:wpAny M A m Q E s)(k:∀a s',Q a s'->Q' a s'):wpAny M A m Q' E s:=YV h k λ _ _ x=>x
theorem On.step{Á:Pl}{Â:Shared}{ě:St}(O:On c d A env sc ρ φ s σ)(st:Step [] φ Á s Â)(R:Rel c Á ě Â.heap):On c d A env sc ρ Á Â ě:=⟨O.hA,O.hK,R,O.F.step st⟩
theorem IE.on{e:E}{x:Expr}{v:V}{ě:St}{Q:Value->Shared->Prop}(ih:IE c C d e)(O:On c d A env sc ρ φ s σ)(q:ï c.T sc e x=true)(h:Ä c.sig C ρ e σ\(v,ě))
  (k:∀u Â Á,Step [] φ Á s Â->On c d A env sc ρ Á Â ě->VR c Á Â.heap v u->Q u Â):wpAny c.M A (eval x env) Q Ø s:=
 Ü (ih O q h) λ u Â z=>z.elim λ Á z=>k u Â Á z.1 (O.step z.1 z.2.1) z.2.2
theorem xd.on{e:List E}{x:List Expr}{v:List V}{ě:St}{p:Pos}{Q:List Value->Shared->Prop}(ih:xd c C d e)(O:On c d A env sc ρ φ s σ)(q:æ c.T sc e x=true)(h:ß c.sig C ρ e σ\(v,ě))
  (k:∀u Â Á,Step [] φ Á s Â->On c d A env sc ρ Á Â ě->ö c Á Â.heap v u->Q u Â):wpAny c.M A (spliced (backTo p (starEach x env))) Q Ø s:=
 Ü (ih (p:=p) O q h) λ u Â z=>z.elim λ Á z=>k u Â Á z.1 (O.step z.1 z.2.1) z.2.2
theorem Gd.go{v:V}{X:List Addr}(st:Step X φ Á s Â){m:Sem Value}(h:wpAny c.M A m (Gd c Á Â X Ú v) Ø Â):wpAny c.M A m (Gd c φ s X Ú v) Ø Â:=Ü h λ u s₂ z=>z.elim λ Û z=>⟨Û,st.trans z.1,z.2⟩
theorem QP.go{m:Sem Value}{v:V}(st:Step [] φ Á s Â)(R:Rel c Á σ Â.heap)(h:wpAny c.M A m (QP Â (VR c Á Â.heap v)) Ø Â):wpAny c.M A m (Gd c φ s [] σ v) Ø Â:=Ü h λ u s₂ q=>q.gd st R u s₂
theorem Gd.here{u:Value}{v:V}(st:Step [] φ Á s Â)(R:Rel c Á ě Â.heap)(hv:VR c Á Â.heap v u):Gd c φ s [] ě v u Â:=⟨Á,st,R,hv⟩
theorem Ĉ{M:Model}{p:Pos}{m:Sem α}{Q:α->Shared->Prop}{E:Value->Shared->Prop}(h:wpAny M A m Q E s):wpAny M A (standAt p>>=λ _=>m) Q E s:=XD (wpAny_standAt h)
theorem seq_eq{a b:Str}(h:seq a b=true):a=b:=aam.mp h
theorem jq{a:Addr}{m}(R:Rel c φ σ s.heap)(h:c.H0.Ns a m):s.heap.Ns a m:=ť h λ o e=>R.e9 _ _ e
theorem AB(S:ă c)(v:V):IE c C d (.const v):=λ O hc e=>Xn e▸aY hc λ k b p q=>sj (arm_eval_Constant ..) (QP.go (Step.refl _ _ _) O.R (pT S q))
theorem r6.stored(hK:r6 env sc){n:Str}(hs:stored (Đ sc n)=true):env.kindOf n=some .local\/env.kindOf n=some .cell:=by
 have h:=hK n;cases e:Đ sc n with
 |none=>rw[e]at hs;exact ft hs
 |some k=>
  rw[e]at h hs;cases k<;>first|exact .inl h|exact .inr h|exact ft hs
theorem r6.glob(hK:r6 env sc){n:Str}(hs:zU (Đ sc n)=true):env.kindOf n=some .globalImplicit:=by
 have h:=hK n;cases e:Đ sc n with
 |none=>rw[e]at hs;exact ft hs
 |some k=>
  rw[e]at h hs;cases k<;>first|exact h|exact ft hs
theorem qf(S:ă c)(O:On c d A env sc ρ φ s σ){x:Nat}{v:V}(e:ρ x\v)(hs:stored (Đ sc (c.T.nm x))=true){Q:Value->Shared->Prop}(q:∀u,VR c φ s.heap v u->Q u s):
  wpAny c.M A (loadName env (c.T.nm x)) Q Ø s:=
 (O.hK.stored hs).elim (λ hk=>O.F.ns.elim λ m z=>(z.2 x v e hk).elim λ u y=>wpAny_loadName_local O.F.fn hk z.1 y.1 (q u y.2))
  λ hk=>(O.F.has _ hk).elim λ a ha=>(O.F.cZ x v a e hk ha).elim λ u y=>wpAny_loadName_cell O.F.fn hk ha y.1 (q u y.2)
theorem Ja(S:ă c)(x:Nat):IE c C d (.loc x):=fun {A env sc y φ s σ ρ r} O hc e=>â (o:=ρ x) e λ v hx e2=>Ě hc λ i p q=>
 e2▸seq_eq (an q).1▸wpAny_Name (qf S O hx ((seq_eq (an q).1).symm▸(an q).2) λ u hu=>Gd.here (Step.refl _ _ _) O.R hu) (S.uE x)
theorem dA(S:ă c)(O:On c d A env sc ρ φ s σ){x:Nat}{p:Pos}(hc:eZ c.T sc x id=true){u:Value}{Q:Value->Shared->Prop}(hm:c.mg (c.T.nm x)\u)(q:Q u s):
  wpAny c.M A (eval (.Name id p) env) Q Ø s:=
 have e:=seq_eq (an hc).1
 e▸Name_function_global O.F.fn (O.hK.glob (e▸(an hc).2)) (loadGlobal_global (O.F.glob▸jq O.R S.ns) hm q) (S.uE x)
theorem kU(S:ă c)(O:On c d A env sc ρ φ s σ){x:Nat}{p:Pos}(hc:eZ c.T sc x id=true){u:Value}{Q:Value->Shared->Prop}(hm:c.mg (c.T.nm x)=none)(hb:c.mb (c.T.nm x)\u)(q:Q u s):
  wpAny c.M A (eval (.Name id p) env) Q Ø s:=
 have e:=seq_eq (an hc).1
 e▸Name_function_global O.F.fn (O.hK.glob (e▸(an hc).2)) (loadGlobal_builtin (O.F.glob▸jq O.R S.ns) hm (O.F.blt▸jq O.R S.nb) hb q) (S.uE x)
theorem Jb(a:V):∀b,MX a b=true->a=b:=by
 refine V.rec (motive_1:=λ a=>∀b,MX a b=true->a=b) (motive_2:=λ a=>∀b,IK a b=true->a=b) ?_ ?_ ?_ ?_ ?_ ?_ ?_ ?_ ?_ a
 ·intro b h;cases b<;>first|rfl|exact ft h
 ·intro a b h;cases b<;>first|exact Xq _ (Zy h)|exact ft h
 ·intro a b h;cases b<;>first|exact Xq _ (XA h)|exact ft h
 ·intro a b h;cases b<;>first|exact Xq _ (XA h)|exact ft h
 ·intro a b h;exact ft h
 ·intro a ih b h;cases b<;>first|exact Xq _ (ih _ h)|exact ft h
 ·intro a b h;exact ft h
 ·intro b h;cases b<;>first|rfl|exact ft h
 ·intro a l ha hl b h;cases b with
  |nil=>exact ft h
  |cons x y=>exact congr (Xq _ (ha x (an h).1)) (hl y (an h).2)
theorem D6(S:ă c)(x:Nat)(v:V):IE c C d (.glob x v):=fun {A env sc y φ s σ ρ r} O hc e=>Xn e▸Ě hc λ i p q=>(DJ (an q).2).elim λ w z=>
 (S.Wy x v (Jb v w z.2▸z.1)).elim λ u y=>dA S O (an q).1 y.1 (Gd.here (Step.refl _ _ _) O.R (VR.mono (φ:=[]) (ψ:=φ) (λ b vs n e=>O.R.e9 _ _ e) y.2))
theorem uM{v:Expr}{a:Str}{whole:Sem Value}(h:jm v=false):attributeBase v a env whole=whole:=by cases v<;>(first|rfl|skip);rename_i f l k p;cases f<;>(first|rfl|skip);cases l<;>(first|rfl|skip);cases k<;>(first|rfl|skip);exact tf h
theorem D7(S:ă c){e:E}(ih:IE c C d e)(x:Nat):IE c C d (.attr e x):=λ O hc ee=>Ò (fy.symm^ee) λ v ç U ee=>â ee λ r h2 e2=>aZ hc λ val a p q=>
 e2▸seq_eq (ŗ q).1▸sj (arm_eval_Attribute ..) (XD (sj (uM (bn (ŗ q).2.1)) (ih.on O (ŗ q).2.2 U λ u Â Á st Ù hv=>Ĉ (XD (YJ
  (Ü (uK S Ù.R h2 hv) λ u' s₂ q=>XD (aan (XT (q.gd st Ù.R _ _)))))))))
theorem sm{u:Value}{v k r:V}(R:Rel c φ σ s.heap)(e:jy σ v k\r)(hv:VR c φ s.heap v u){Q:Bool->Shared->Prop}(q:Q false s):wpAny c.M A (getitemInPython u) Q Ø s:=
 have key:∀{T id:String} {u:Value},s.TypeIs u T->typeLookup (.type T) "__getitem__"=pure (some (.builtin id))->wpAny c.M A (getitemInPython u) Q Ø s:=λ hT hl=>
  sj (getitemInPython_of_ne hT.not_modules) (XD (Zw hT hl (XT q)))
 mF e (λ i h e=>mH e (λ l hl _=>R.listE (P:=λ u=>wpAny c.M A (getitemInPython u) Q Ø s) hl (h▸hv) λ a vs n p g _ _=>key ⟨_,g,rfl⟩ slot_list_getitem.lookup)
   λ es hl _=>R.kP (P:=λ u=>wpAny c.M A (getitemInPython u) Q Ø s) hl (h▸hv) λ a p D _=>D.obj.elim λ ds z=>z.elim λ n g=>key ⟨_,g,rfl⟩ slot_dict_getitem.lookup)
  λ l h _=>(h▸hv:VR c φ s.heap (.tup l) u).ff (P:=λ u=>wpAny c.M A (getitemInPython u) Q Ø s) λ a vs n g _=>key ⟨_,g,rfl⟩ slot_tuple_getitem.lookup
theorem gJ{x:Expr}{o i:Value}(h:isSlice x=false):subscripted x false o i=operate [o,i] (getItem o i):=by cases x<;>(first|rfl|(exact tf h;done))
theorem Jc(S:ă c){e i:E}(ih:IE c C d e)(oq:IE c C d i):IE c C d (.sub e i):=λ O hc ee=>Ò (tc.symm^ee) λ v ç U ee=>Ò ee λ k ŷ h2 ee=>â ee λ r h3 e2=>aq hc λ val sl p q=>
 e2▸sj (arm_eval_Subscript ..) (XD (ih.on O (ŗ q).2.1 U λ u Â Á st Ù hv=>XD (YJ (oq.on Ù (ŗ q).2.2 h2 λ w s₂ Û ô Ĝ hw=>Ĉ (XD (sm Ĝ.R h3 (hv.step ô)
  (XD (sj (gJ (bn (ŗ q).1)) (wpAny_operateT (Ü (p_ S O.hA Ĝ.R h3 (hv.step ô) hw) λ u' Ġ q=>XD (aan (XT (q.gd (st^ô) Ĝ.R _ _)))))))))))))
theorem Jd(S:ă c){a b:E}(o:fo)(ih:IE c C d a)(oq:IE c C d b):IE c C d (.bin o a b):=λ O hc ee=>Ò (td.symm^ee) λ v ç U ee=>Ò ee λ k ŷ h2 ee=>nK hc λ l op r p q=>
 wpAny_BinOp (ih.on O (ŗ q).2.1 U λ u Â Á st Ù hv=>oq.on Ù (ŗ q).2.2 h2 λ w s₂ Û ô Ĝ hw=>Gd.go (st^ô) (DY S O.hA Ĝ.R (ŗ q).1 ee (hv.step ô) hw))
theorem Je(S:ă c){a:E}(ih:IE c C d a):IE c C d (.neg a):=λ O hc ee=>Ò (ti.symm^ee) λ v ç U ee=>â ee λ r h2 e2=>iw hc λ o x p q=>
 e2▸XA (an q).1▸wpAny_UnaryOp (ih.on O (an q).2 U λ u Â Á st Ù hv=>QP.go st Ù.R (DX Ù.R h2 hv))
theorem Jf(S:ă c){a:E}(ih:IE c C d a):IE c C d (.not a):=λ O hc ee=>Ò (mI.symm^ee) λ v ç U ee=>fw ee λ b hb ee=>iw hc λ o x p q=>
 Xn ee▸XA (an q).1▸wpAny_UnaryOp (ih.on O (an q).2 (hb▸U) λ u Â Á st Ù hv=>hv.kM▸not_value (Y2 (Gd.here st Ù.R ğ)))
theorem mh{op:CmpOp}{r:Expr}(h:isSet r=false):behindInMarks op r=false:=by cases r<;>first|rfl|exact tf h
theorem Jg(S:ă c){a b:E}(o:qF)(ih:IE c C d a)(oq:IE c C d b):IE c C d (.cmp o a b):=λ O hc ee=>Ò (je.symm^ee) λ v ç U ee=>Ò ee λ k ŷ h2 ee=>â ee λ r h3 e2=>dw hc λ l op x p q=>
 e2▸wpAny_Compare1 (ih.on O (eI q).2.2.1 U λ u Â Á st Ù hv=>oq.on Ù (eI q).2.2.2 h2 λ w s₂ Û ô Ĝ hw=>QP.go (st^ô) Ĝ.R (uJ S O.hA Ĝ.R (eI q).1 h3 (hv.step ô) hw)) (mh (bn (eI q).2.1))
end
end
end Mine
namespace Mine
open PySem PySem.W PyProof.Rows PySem.Calls PySem.SeqAt
noncomputable section
section
variable{c:Cx}{C:Call}{d:Nat}{φ:Pl}{A:Around}{s:Shared}{σ:St}{env:Env}{sc:ű}{ρ:Loc}
theorem D8:xd c C d []:=λ O hc e=>Xn e▸bR hc▸wpAny_items_nil ⟨_,Step.refl _ _ _,O.R,ö.nil⟩
theorem Ũ{x:Expr}{xs:List Expr}(h:isStar x=false):starEach (x::xs) env=(false,eval x env)::starEach xs env:=by cases x<;>(first|rfl|(exact tf h;done))
theorem AD{e:E}{r:List E}(ih:IE c C d e)(wo:xd c C d r):xd c C d (e::r):=fun {A env sc x φ s σ ρ r p} O hc ee=>Ò (aF.symm^ee) λ v1 ç U ee=>Ò ee λ vs ŷ h2 ee=>ų hc λ x xs q1 q2 q3=>
 Xn ee▸wpAny_items_cons (ih.on O q2 U λ u Â Á st Ù hv=>wo.on Ù q3 h2 λ us s₂ Û ô Ĝ Ĥ=>⟨Û,st^ô,Ĝ.R,.cons (hv.step ô) Ĥ⟩) (Ũ q1)
theorem AE{K:Type}[DecidableEq K](i:K)(kvs:List (K×Value)):(valueAt kvs i).isSome=(kvs.map (·.1)).any λ k=>decide (k=i):=by
 induction kvs with
 |nil=>rfl
 |cons p r ih=>
  unfold valueAt at ih ⊢;rw[Yd,ZQ];by_cases q:p.1=i
  ·rw[Y_ (p:=λ p:K×Value=>decide (p.1=i)) (XI q),XI q];rfl
  ·rw[Za (p:=λ p:K×Value=>decide (p.1=i)) (λ e=>q (XA e)),XY q,ih];rfl
theorem bB{l:List E}:∀{σ:St} {r:List V×St},ß c.sig C ρ l σ\r->r.1.length=l.length:=by
 induction l with
 |nil=>exact λ e=>Xn e▸rfl
 |cons e l ih=>exact λ ee=>Ò (aF.symm^ee) λ v1 ç U ee=>Ò ee λ vs ŷ h2 ee=>Xn ee▸Xq (·+1) (ih h2)
theorem F5{a b m:Nat}(h:a=b)(e:b=m)(l:m<=1000):a<=sizeLine:=h▸e▸Xp l (by decide)
theorem D9(S:ă c){l:List E}(ih:xd c C d l):IE c C d (.list l):=λ O hc ee=>Ò (oB.symm^ee) λ vs ç U ee=>kF hc λ es p q=>
 have hl:=XA (an q).1
 Xn ee▸wpAny_List_spliced (ih.on O (an q).2 U λ us Â Á st Ù Ĥ=>(newList (tk:=Â.toks) (vs:=us.toArray) Ù.R Ĥ (bB U▸Xp hl (by decide))).elim λ Û z=>⟨F5 Ĥ.length (bB U) hl,Û,st.trans z.1,z.2⟩)
theorem Jh(S:ă c){l:List E}(ih:xd c C d l):IE c C d (.tup l):=λ O hc ee=>Ò (tl.symm^ee) λ vs ç U ee=>gD hc λ es k p q=>
 have hl:=XA (an q).1
 Xn ee▸wpAny_Tuple_spliced (ih.on O (an q).2 U λ us Â Á st Ù Ĥ=>
  have kp:∀b o,Â.heap.get? b\o->(Â.heap.push (ģ us.toArray 0)).get? b\o:=λ b o e=>X7 _ e
  ⟨F5 Ĥ.length (bB U) hl,Á,st^(Step.ē kp),Ù.R.ē kp,⟨_,us.toArray,0,rfl,Yu _ rfl,Ĥ.ý λ _ _ _ e=>kp _ _ e⟩⟩)
theorem qg(S:ă c)(O:On c d A env sc ρ φ s σ){x:Nat}{ks:List Int}{id:Str}{p:Pos}(q1:eZ c.T sc x id=true)(hks:c.T.gl x\(.keys ks)){i:Int}{u:Value}(hv:VR c φ s.heap (.int i) u)
  {Q:Value->Shared->Prop} (q:∀tk,Q (.bool (ks.any λ k=>decide (k=i))) {s with toks:=tk}):wpAny c.M A (eval (.Name id p) env) (λ r s₂=>wpAny c.M A (compareOp .In u r) Q Ø s₂) Ø s:=
 (S.WG x ks hks).elim λ a z=>z.elim λ kvs z=>dA S O q1 z.1 (hv.Ŷ (P:=λ u=>wpAny c.M A (compareOp .In u (.ref a)) Q Ø s) λ t=>
  wpAny_in_of (knd:=c.ki) (aaC _ _ i t) z.2.2.2 (iV (λ o e=>O.R.e9 _ _ e) z.2.1).mapOf (((AE i kvs)^(Xq (λ l:List Int=>l.any λ k=>decide (k=i)) z.2.2.1)).symm▸q _))
theorem Ji(S:ă c){a:E}(x:Nat)(ks:List Int)(ih:IE c C d a):IE c C d (.BL a x ks):=λ O hc ee=>Ò (mJ.symm^ee) λ v ç U ee=>Ĺ ee λ i hb ee=>dw hc λ l op r p q=>Ě (P:=λ r=>Ev _ _ _ _ _ _ (.Compare l [op] [r] p)) q λ id p' q=>
 Xn ee▸XA (eI q).1▸wpAny_Compare1 (ih.on O (eI q).2.2.2 (hb▸U) λ u Â Á st Ù hv=>qg S Ù (eI q).2.1 (pQ (eI q).2.2.1) hv λ tk=>(QP.tok ğ:QP Â (VR c Á Â.heap _) _ _).gd st Ù.R _ _) rfl
theorem D_{l:List E}(hl:∀e∈l,IE c C d e){p:Pos}:∀{φ s σ vs r},On c d A env sc ρ φ s σ->evalAnd c.sig C ρ l σ\r->æ c.T sc l vs=true->wpAny c.M A (boolOp p .And (evalEach vs env)) (Gd c φ s [] r.2 r.1) Ø s:=by
 induction l with
 |nil=>exact λ _ e=>ns e
 |cons e l ih=>
  intro φ s σ vs r O ee hd;refine ų (P:=λ vs=>wpAny c.M A (boolOp p .And (evalEach vs env)) (Gd c φ s [] r.2 r.1) Ø s) hd λ x xs q1 q2 q3=>Ò (bZ.symm^ee) λ v' ç U ee=>fw ee λ b hb ee=>?_;have h2:=fun(Q:Value->Shared->Prop)=>IE.on (Q:=Q) (hl e (X2 ..)) O q2 (hb▸U);cases l with
  |nil=>exact bR q3▸(b.casesOn (motive:=λ b=>(bif b then some (V.bool true,ç)else some (V.bool false,ç))\r->(V.bool b,ç)=r) Xn Xn ee)▸h2 _ λ u Â Á st Ù hv=>Gd.here st Ù.R hv
  |cons e2 l=>
   cases xs with
   |nil=>exact ft q3
   |cons x2 xs=>
    refine XD (h2 _ λ u Â Á st Ù hv=>hv.kM▸Ĉ (XD (YJ (Y2 ?_))));clear h2 U hb hv;cases b with
    |false=>exact Xn ee▸XT (Gd.here st Ù.R ğ)
    |true=>exact Gd.go st (ih (λ e he=>hl e (XM _ he)) Ù ee q3)
theorem Jj{l:List E}(hl:∀e∈l,IE c C d e){p:Pos}:∀{φ s σ vs r},On c d A env sc ρ φ s σ->evalOr c.sig C ρ l σ\r->æ c.T sc l vs=true->wpAny c.M A (boolOp p .Or (evalEach vs env)) (Gd c φ s [] r.2 r.1) Ø s:=by
 induction l with
 |nil=>exact λ _ e=>ns e
 |cons e l ih=>
  intro φ s σ vs r O ee hd;refine ų (P:=λ vs=>wpAny c.M A (boolOp p .Or (evalEach vs env)) (Gd c φ s [] r.2 r.1) Ø s) hd λ x xs q1 q2 q3=>Ò (b_.symm^ee) λ v' ç U ee=>fw ee λ b hb ee=>?_;have h2:=fun(Q:Value->Shared->Prop)=>IE.on (Q:=Q) (hl e (X2 ..)) O q2 (hb▸U);cases l with
  |nil=>exact bR q3▸(b.casesOn (motive:=λ b=>(bif b then some (V.bool true,ç)else some (V.bool false,ç))\r->(V.bool b,ç)=r) Xn Xn ee)▸h2 _ λ u Â Á st Ù hv=>Gd.here st Ù.R hv
  |cons e2 l=>
   cases xs with
   |nil=>exact ft q3
   |cons x2 xs=>
    refine XD (h2 _ λ u Â Á st Ù hv=>hv.kM▸Ĉ (XD (YJ (Y2 ?_))));clear h2 U hb hv;cases b with
    |false=>exact Gd.go st (ih (λ e he=>hl e (XM _ he)) Ù ee q3)
    |true=>exact Xn ee▸XT (Gd.here st Ù.R ğ)
theorem Jk(S:ă c){l:List E}(hl:∀e∈l,IE c C d e):IE c C d (.and l):=λ O hc ee=>a_ hc λ o vs p q=>XA (ŗ q).1▸sj (arm_eval_BoolOp ..) (D_ hl O ee (ŗ q).2.2)
theorem Nd(S:ă c){l:List E}(hl:∀e∈l,IE c C d e):IE c C d (.or l):=λ O hc ee=>a_ hc λ o vs p q=>XA (ŗ q).1▸sj (arm_eval_BoolOp ..) (Jj hl O ee (ŗ q).2.2)
end
end
end Mine
namespace Mine
open PySem PySem.W PyProof.Rows PySem.Calls PySem.SeqAt
noncomputable section
variable{Á:Pl}{Â:Shared}{Ú:St}
def Gb(c:Cx)(φ:Pl)(s:Shared)(Ú:St)(b:Bool):Bool->Shared->Prop:=λ b' s'=>b'=b/\∃ð,Step [] φ ð s s'/\Rel c ð Ú s'.heap
def IT(c:Cx)(C:Call)(d:Nat)(e:E):Prop:=∀{A env sc x φ s σ ρ b Ú},On c d A env sc ρ φ s σ->ï c.T sc e x=true->Ä c.sig C ρ e σ\(.bool b,Ú)->wpAny c.M A (isTrue x env (eval x env)) (Gb c φ s Ú b) Ø s
section
variable{c:Cx}{C:Call}{d:Nat}{φ:Pl}{A:Around}{s:Shared}{σ:St}{env:Env}{sc:ű}{ρ:Loc}
theorem Gb.go{b:Bool}(st:Step [] φ Á s Â){m:Sem Bool}(h:wpAny c.M A m (Gb c Á Â Ú b) Ø Â):wpAny c.M A m (Gb c φ s Ú b) Ø Â:=Ü h λ u s₂ z=>⟨z.1,z.2.elim λ Û z=>⟨Û,st.trans z.1,z.2⟩⟩
def PT(x:Expr):Prop:=∀(env:Env) (whole:Sem Value),isTrue x env whole=(do let v<-whole;standAt x.pos;holding [v] (truthy v))
theorem AF{e:E}(ih:IE c C d e)(hp:∀{sc x},ï c.T sc e x=true->PT x):IT c C d e:=λ O hc ee=>wpAny_isTrue_value (IE.on ih O hc ee λ u Â Á st Ù hv=>hv.kM▸Y2 ⟨rfl,Á,st,Ù.R⟩) (hp hc _ _)
theorem kW{x b:Bool}{a Ú:St}{P:Bool->St->Prop}(e:some (V.bool x,a)\(V.bool b,Ú))(h:P x a):P b Ú:=by cases e;exact h
theorem Jl{a:E}(ih:IT c C d a):IT c C d (.not a):=fun {A env sc x φ s σ ρ b Ú} O hc ee=>Ò (mI.symm^ee) λ v ç U ee=>fw ee λ b' hb ee=>iw (P:=λ x=>wpAny c.M A (isTrue x env (eval x env)) (Gb c φ s Ú b) Ø s) hc λ o x p q=>
 XA (an q).1▸kW (P:=λ b Ú=>wpAny c.M A _ (Gb c φ s Ú b) Ø s) ee (wpAny_isTrue_Not (Ü (ih O (an q).2 (hb▸U)) λ u Â z=>⟨z.1▸rfl,z.2⟩))
theorem Jm(S:ă c){a b:E}(o:qF)(ih:IE c C d a)(oq:IE c C d b):IT c C d (.cmp o a b):=fun {A env sc x φ s σ ρ b' Ú} O hc ee=>Ò (je.symm^ee) λ v ç U ee=>Ò ee λ k ŷ h2 ee=>â ee λ r h3 ee=>dw (P:=λ x=>wpAny c.M A (isTrue x env (eval x env)) (Gb c φ s Ú b') Ø s) hc λ l op x p q=>
 kW (P:=λ b Ú=>wpAny c.M A _ (Gb c φ s Ú b) Ø s) (Xq some ee) (wpAny_isTrue_Compare1 (ih.on O (eI q).2.2.1 U λ u Â Á st Ù hv=>oq.on Ù (eI q).2.2.2 h2 λ w s₂ Û ô Ĝ hw=>
  Ü (uJ S O.hA Ĝ.R (eI q).1 h3 (hv.step ô) hw) λ z Ġ y=>y.1.kM▸y.2.elim λ tk y=>y▸Y2 ⟨rfl,Û,(st^ô)^(Step.ē λ _ _ e=>e),Ĝ.R⟩) (mh (bn (eI q).2.1)))
theorem Jn(S:ă c){a:E}(x:Nat)(ks:List Int)(ih:IE c C d a):IT c C d (.BL a x ks):=fun {A env sc y φ s σ ρ b' Ú} O hc ee=>Ò (mJ.symm^ee) λ v ç U ee=>Ĺ ee λ i hb ee=>dw (P:=λ x=>wpAny c.M A (isTrue x env (eval x env)) (Gb c φ s Ú b') Ø s) hc λ l op r p q=>Ě (P:=λ r=>wpAny c.M A (isTrue (.Compare l [op] [r] p) env (eval (.Compare l [op] [r] p) env)) (Gb c φ s Ú b') Ø s) q λ id p' q=>
 XA (eI q).1▸kW (P:=λ b Ú=>wpAny c.M A _ (Gb c φ s Ú b) Ø s) ee (wpAny_isTrue_Compare1 (ih.on O (eI q).2.2.2 (hb▸U) λ u Â Á st Ù hv=>qg S Ù (eI q).2.1 (pQ (eI q).2.2.1) hv λ tk=>Y2 ⟨rfl,Á,st^(Step.ē λ _ _ e=>e),Ù.R⟩) rfl)
theorem Ea{l:List E}(hl:∀e∈l,IT c C d e):∀{φ s σ vs b Ú},On c d A env sc ρ φ s σ->evalAnd c.sig C ρ l σ\(.bool b,Ú)->æ c.T sc l vs=true->wpAny c.M A (allTrue .And vs env) (Gb c φ s Ú b) Ø s:=by
 induction l with
 |nil=>exact λ _ e=>ns e
 |cons e l ih=>
  intro φ s σ vs b Ú O ee hd;refine ų (P:=λ vs=>wpAny c.M A (allTrue .And vs env) (Gb c φ s Ú b) Ø s) hd λ x xs q1 q2 q3=>Ò (bZ.symm^ee) λ v' ç U ee=>fw ee λ bb hb ee=>wpAny_allTrue_And_cons (Ü (hl e (X2 ..) O q2 (hb▸U)) λ u Â z=>?_);rw[z.1];clear U hb;cases bb with
  |false=>exact kW (P:=λ b Ú=>Gb c φ s Ú b _ Â) ee ⟨rfl,z.2⟩
  |true=>
   cases l with
   |nil=>exact bR q3▸wpAny_allTrue_And_nil (kW (P:=λ b Ú=>Gb c φ s Ú b _ Â) ee ⟨rfl,z.2⟩)
   |cons e2 l=>exact z.2.elim λ Á w=>Gb.go w.1 (ih (λ e he=>hl e (XM _ he)) (O.step w.1 w.2) ee q3)
theorem Jo{l:List E}(hl:∀e∈l,IT c C d e):IT c C d (.and l):=fun {A env sc x φ s σ ρ b Ú} O hc ee=>a_ (P:=λ x=>wpAny c.M A (isTrue x env (eval x env)) (Gb c φ s Ú b) Ø s) hc λ o vs p q=>XA (ŗ q).1▸wpAny_isTrue_BoolOp (Ea hl O ee (ŗ q).2.2)
theorem Jp{l:List E}(hl:∀e∈l,IT c C d e):∀{φ s σ vs b Ú},On c d A env sc ρ φ s σ->evalOr c.sig C ρ l σ\(.bool b,Ú)->æ c.T sc l vs=true->wpAny c.M A (allTrue .Or vs env) (Gb c φ s Ú b) Ø s:=by
 induction l with
 |nil=>exact λ _ e=>ns e
 |cons e l ih=>
  intro φ s σ vs b Ú O ee hd;refine ų (P:=λ vs=>wpAny c.M A (allTrue .Or vs env) (Gb c φ s Ú b) Ø s) hd λ x xs q1 q2 q3=>Ò (b_.symm^ee) λ v' ç U ee=>fw ee λ bb hb ee=>wpAny_allTrue_Or_cons (Ü (hl e (X2 ..) O q2 (hb▸U)) λ u Â z=>?_);rw[z.1];clear U hb;cases bb with
  |false=>
   cases l with
   |nil=>exact bR q3▸wpAny_allTrue_Or_nil (kW (P:=λ b Ú=>Gb c φ s Ú b _ Â) ee ⟨rfl,z.2⟩)
   |cons e2 l=>exact z.2.elim λ Á w=>Gb.go w.1 (ih (λ e he=>hl e (XM _ he)) (O.step w.1 w.2) ee q3)
  |true=>exact kW (P:=λ b Ú=>Gb c φ s Ú b _ Â) ee ⟨rfl,z.2⟩
theorem Nf{l:List E}(hl:∀e∈l,IT c C d e):IT c C d (.or l):=fun {A env sc x φ s σ ρ b Ú} O hc ee=>a_ (P:=λ x=>wpAny c.M A (isTrue x env (eval x env)) (Gb c φ s Ú b) Ø s) hc λ o vs p q=>XA (ŗ q).1▸wpAny_isTrue_BoolOp (Jp hl O ee (ŗ q).2.2)
end
end
end Mine
namespace Mine
open PySem PySem.W PyProof.Rows PySem.Calls PySem.SeqAt
noncomputable section
section
variable{c:Cx}{C:Call}{d:Nat}{φ:Pl}{A:Around}{s:Shared}{σ:St}{env:Env}{sc:ű}{ρ:Loc}
variable{Ú:St}
inductive PA (env:Env):List Expr->List (Bool×Sem Value)->Prop
 |nil:PA env [] []
 |cons {x m xs ms}:m=eval x env->PA env xs ms->PA env (x::xs) ((false,m)::ms)
theorem Ń{e:List E}:∀{x:List Expr},æ c.T sc e x=true->PA env x (starEach x env)/\x.length=e.length:=by
 induction e with
 |nil=>exact λ h=>bR h▸⟨.nil,rfl⟩
 |cons e es ih=>exact fun {x} h=>ų (P:=λ x=>PA env x (starEach x env)/\x.length=(e::es).length) h λ x xs q1 q2 q3=>have z:=ih q3;⟨Ũ (env:=env) q1▸.cons rfl z.1,Xq (·+1) z.2⟩
theorem PA.back{x l}(h:PA env x l)(p:Pos):backTo p l=l:=by
 induction h with
 |nil=>rfl
 |cons e _ ih=>exact Xq (_::·) ih
theorem PA.all{x l}(h:PA env x l):l.all (λ y=>!y.1)=true:=by
 induction h with
 |nil=>rfl
 |cons e _ ih=>exact ih
theorem bD{M:Model}{E:Value->Shared->Prop}{f:Value}{x}{args:List (Bool×Sem Value)}(hp:PA env x args){Q:Args->Shared->Prop}(h:wpAny M A (spliced args) (λ vs s'=>Q ⟨vs,[]⟩ s') E s):wpAny M A (evalArgs f true args []) Q E s:=by
 cases hp with
 |nil=>exact XD (Ü (show wpAny M A (spliced []) _ E s from h) λ vs s' h'=>XD (XT (YJ (XD (XT (XD (XT (XT h'))))))))
 |cons e _=>exact evalArgs_plain h
theorem uN(hC:û c C d){f:Nat}{p:Pos}{args:List E}{as:List Expr}{vs:List V}{ç:St}{r:V×St}{õ:Pl}{ħ:Shared}(S:ă c)(hf:(∃x,c.T.gl x\(.fn f))\/(∃k x,c.sig.ì k x\f)\/(∃k,c.sig.init k\(some f)))(wo:xd c C d args)(O:On c d A env sc ρ φ s σ)(ş:Step [] õ φ ħ s)
  (hc:æ c.T sc args as=true) (h:ß c.sig C ρ args σ\(vs,ç)) {l:List Value} {m:List V} (hl:ö c φ s.heap m l) (e:C f (m++vs) ç\r):wpAny c.M A (callWith p (.ref (c.fn f)) l (starEach as env) []) (Gd c õ ħ [] r.2 r.1) Ø s:=
 (S.fns f hf).elim λ o z=>z.elim λ fd z=>have pa:=(Ń (env:=env) hc).1
 callWith_function (o:=o) (fd:=fd) (bD pa (pa.back p▸wo.on (p:=p) O hc h λ us Â Á st Ù Ĥ=>⟨⟨Ù.R.e9 _ _ z.1,z.2⟩,wpAny_call (codeAny_mono (hC f (m++vs) ç r.1 r.2 e A Á Â (l++us) O.hA.call Ù.R ((hl.step st).append Ĥ)) λ _ s' z=>
  z.elim λ u z=>z.1▸z.2.elim λ Û z=>⟨Û,(ş^st).trans z.1,z.2⟩)⟩))
theorem AG(S:ă c)(hC:û c C d)(x f:Nat){args:List E}(wo:xd c C d args):IE c C d (.Ñ x f args):=fun {A env sc y φ s σ ρ r} O hc ee=>Ò (oz.symm^ee) λ vs ç U ee=>ł hc λ id np as p q=>
 have hg:=IY (ŗ q).2.1
 ZX (dA S O (ŗ q).1 (S.Wz x f hg) (show wpAny c.M A (callWith p (.ref (c.fn f)) [] (backTo p (starEach as env)) []) _ _ _ from((Ń (ŗ q).2.2).1.back p).symm▸uN hC S (.inl ⟨x,hg⟩) wo O (Step.refl _ _ _) (ŗ q).2.2 U (m:=[]) ö.nil ee))
theorem wu{o:Expr}{x:Str}{ap pos:Pos}{as:List Expr}{args:List E}(hb:jm o=false)(hl:(ap.endLine==pos.line)=true)(hn:args.length<20)(hc:æ c.T sc args as=true){Q:Value->Shared->Prop}
  (h:wpAny c.M A (eval o env) (λ ov Â=>wpAny c.M A (getMethod ov x (do return (<-importBound o env).getD true)) (λ fx s₂=>wpAny c.M A (callWith pos fx.1 fx.2 (starEach as env) []) Q Ø s₂) Ø Â) Ø s):
  wpAny c.M A (eval (.Call (.Attribute o x ap) as [] pos) env) Q Ø s:=by
 have pa:=Ń (env:=env) hc;rw[arm_eval_Call,uM hb,pa.1.back];refine XD (Ü h λ ov Â gK=>Ĉ ?_)
 have Sz:methodCallForm (as.length+([]:List Keyword).length) (starEach as env) (backToKw pos (keywordEach [] env))=true:=by unfold methodCallForm;rw[pa.1.all,pa.2];exact XI (show args.length+0+0<30 from Ye hn (by decide))
 unfold methodCall;rw[Sz];unfold calleeOf methodCallPos;rw[hl,XR rfl];exact XD (YJ (Ü gK λ fx s₂ sx=>XD (XT sx)))
theorem Eb{l:List E}{σ Ú:St}(h:ß c.sig C ρ l σ\([],Ú)){P:List E->St->Prop}(k:P [] σ):P l Ú:=by
 cases l with
 |nil=>exact(YX (Xn h)).2▸k
 |cons e l=>exact Ò (aF.symm^h) λ v ç U h=>Ò h λ vs ŷ h2 h=>nomatch (YX (Xn h)).1
theorem Jq{l:List E}{v:V}{vs:List V}{σ Ú:St}(h:ß c.sig C ρ l σ\(v::vs,Ú)){P:List E->Prop}(k:∀e l' ç,Ä c.sig C ρ e σ\(v,ç)->ß c.sig C ρ l' ç\(vs,Ú)->P (e::l')):P l:=by
 cases l with
 |nil=>exact nomatch (YX (Xn h)).1
 |cons e l=>exact Ò (aF.symm^h) λ v' ç U h=>Ò h λ aw ŷ h2 h=>have z:=YX (Xn h);have y:=aai z.1;k e l ç (y.1▸U) (y.2▸z.2▸h2)
theorem SA{l:List E}(h:ß c.sig C ρ l σ\([],Ú)){as:List Expr}(q:æ c.T sc l as=true){P:List (Bool×Sem Value)->St->Prop}(k:P [] σ):P (starEach as env) Ú:=Eb (P:=λ l Ú=>æ c.T sc l as=true->P (starEach as env) Ú) h (λ q=>bR q▸k) q
theorem uO{l:List E}{v:V}(h:ß c.sig C ρ l σ\([v],Ú)):∃e,l=[e]/\Ä c.sig C ρ e σ\(v,Ú):=Jq (P:=λ l=>∃e,l=[e]/\Ä c.sig C ρ e σ\(v,Ú)) h λ e l' ç U h2=>Eb (P:=λ l' Ú=>∃f,e::l'=[f]/\Ä c.sig C ρ f σ\(v,Ú)) h2 ⟨e,rfl,U⟩
theorem Ec{l:List E}{v w:V}(h:ß c.sig C ρ l σ\([v,w],Ú)):∃e f ç,l=[e,f]/\Ä c.sig C ρ e σ\(v,ç)/\Ä c.sig C ρ f ç\(w,Ú):=Jq (P:=λ l=>∃e f ç,l=[e,f]/\Ä c.sig C ρ e σ\(v,ç)/\Ä c.sig C ρ f ç\(w,Ú)) h λ e l' ç U h2=>(uO h2).elim λ f z=>⟨e,f,ç,Xq _ z.1,U,z.2⟩
theorem Jr{l:List E}{v:V}{Ú:St}(O:On c d A env sc ρ φ s σ)(ih:∀e∈l,IE c C d e)(h:ß c.sig C ρ l σ\([v],Ú)){as:List Expr}(q:æ c.T sc l as=true){P:List (Bool×Sem Value)->Prop}
  (k:∀m,(∀Q:Value->Shared->Prop,(∀u Â Á,Step [] φ Á s Â->On c d A env sc ρ Á Â Ú->VR c Á Â.heap v u->Q u Â)->wpAny c.M A m Q Ø s)->P [(false,m)]):P (starEach as env):=
 (uO h).elim λ e z=>ų (P:=λ as=>P (starEach as env)) (show æ c.T sc [e] as=true from z.1▸q) λ x xs q1 q2 q3=>bR q3▸(Ũ (env:=env) (xs:=[]) q1).symm▸k _ λ Q q=>IE.on (ih e (z.1▸X2 ..)) O q2 z.2 q
theorem SD{l:List E}{v w:V}{Ú:St}(O:On c d A env sc ρ φ s σ)(ih:∀e∈l,IE c C d e)(h:ß c.sig C ρ l σ\([v,w],Ú)){as:List Expr}(q:æ c.T sc l as=true){P:List (Bool×Sem Value)->Prop}
  (k:∀m m',(∀Q:Value->Value->Shared->Prop,(∀u z Â Á,Step [] φ Á s Â->On c d A env sc ρ Á Â Ú->VR c Á Â.heap v u->VR c Á Â.heap w z->Q u z Â)->wpAny c.M A m (λ u Â=>wpAny c.M A m' (Q u) Ø Â) Ø s)->P [(false,m),(false,m')]):P (starEach as env):=
 (Ec h).elim λ e z=>z.elim λ f z=>z.elim λ ç z=>ų (P:=λ as=>P (starEach as env)) (show æ c.T sc [e,f] as=true from z.1▸q) λ x xs q1 q2 q3=>ų (P:=λ xs=>P (starEach (x::xs) env)) q3 λ y ys p1 p2 p3=>bR p3▸(Ũ (env:=env) (xs:=[y]) q1).symm▸(Ũ (env:=env) (xs:=[]) p1).symm▸
  k _ _ λ Q q=>IE.on (ih e (z.1▸X2 ..)) O q2 z.2.1 λ u Â Á st Ù hu=>IE.on (ih f (z.1▸XM _ (X2 ..))) Ù p2 z.2.2 λ w s₂ Û ô Ĝ hw=>q u w s₂ Û (st^ô) Ĝ (hu.step ô) hw
variable{vs:Array Value}{us:List Value}
theorem dB{l:List E}:(∀e∈l,IE c C d e)->xd c C d l:=by
 induction l with
 |nil=>exact λ _=>D8
 |cons e l ih=>exact λ h=>AD (h e (X2 ..)) (ih λ e he=>h e (XM _ he))
theorem gL{a b:Nat}(e:a=b)(h:b<=lim):a<=sizeLine:=e▸Xp h (by decide)
theorem qh(R:Rel c φ σ s.heap){r:Nat}{v:V}{z:Value}{q:V×St}{a:Addr}(e:mD σ r v\q)(hu:VR c φ s.heap (.ref r) (.ref a))(hz:VR c φ s.heap v z):
  ∃items n,items.size<=sizeLine/\IsL s.heap a items n/\Gd c φ s [] q.2 q.1 .none {s with heap:=s.heap.update a (Obj.mapSeq λ xs=>xs.push z)}:=
 aE e λ l hl e=>ñ e λ gk e=>R.listE (P:=λ u=>u=.ref a->∃items n,items.size<=sizeLine/\IsL s.heap a items n/\Gd c φ s [] q.2 q.1 .none {s with heap:=s.heap.update a (Obj.mapSeq λ xs=>xs.push z)}) hl hu (λ a' vs n p g Ĥ BC w=>Ň w▸
  have y:=gH (tk:=s.toks) (l':=l++[v]) (f:=λ xs=>xs.push z) R p hl g aaN (Ĥ.append (.cons hz .nil)) ((Xr ..).symm▸gk)
  ⟨vs,n,gL Ĥ.size BC,g,Xn e▸⟨φ,y.1,y.2,rfl⟩⟩) rfl
theorem sy(h:0<vs.size):(vs.eraseIdxIfInBounds (vs.size - 1)).toList=vs.toList.take (vs.size - 1):=by unfold Array.eraseIdxIfInBounds;rw[dif_pos (Nat.sub_lt h Nat.one_pos),abb,Z7,aa3 (YL▸XB (Yb h).symm),XQ]
theorem qi{u:Value}(h:vs.toList=u::us):(vs.eraseIdxIfInBounds 0).toList=us:=by unfold Array.eraseIdxIfInBounds;rw[dif_pos (show 0<vs.size by rw[<-YL,h];exact Y0 _),abb,h];rfl
theorem AH(R:Rel c φ σ s.heap){r:Nat}{q:V×St}{a:Addr}(e:BP σ r\q)(hu:VR c φ s.heap (.ref r) (.ref a)):
  ∃items n y,items.size<=sizeLine/\IsL s.heap a items n/\items[items.size - 1]?\y/\Gd c φ s [] q.2 q.1 y {s with heap:=s.heap.update a (Obj.mapSeq λ xs=>xs.eraseIdxIfInBounds (items.size - 1))}:=
 aE e λ l hl e=>ñ e λ gk e=>í e λ y hy e=>R.listE (P:=λ u=>u=.ref a->∃items n y,items.size<=sizeLine/\IsL s.heap a items n/\items[items.size - 1]?\y/\Gd c φ s [] q.2 q.1 y {s with heap:=s.heap.update a (Obj.mapSeq λ xs=>xs.eraseIdxIfInBounds (items.size - 1))}) hl hu (λ a' vs n p g Ĥ BC w=>Ň w▸
  have U:l[vs.size - 1]?\y:=Ĥ.size▸List.getLast?_eq_getElem?.symm.trans hy
  (Ĥ.at U).elim λ u hw=>
   have h2:=gH (tk:=s.toks) (l':=l.dropLast) (f:=λ xs=>xs.eraseIdxIfInBounds (vs.size - 1)) R p hl g (sy (Ĥ.size▸Xs (Zi _) (Xv.mp U).1)) (by rw[List.dropLast_eq_take,<-Ĥ.size];exact Ĥ.take) (List.length_dropLast▸Xp (aaA _ _) gk)
   ⟨vs,n,u,gL Ĥ.size BC,g,hw.1,Xn e▸⟨φ,h2.1,h2.2,hw.2.step h2.1⟩⟩) rfl
theorem wx(R:Rel c φ σ s.heap){r:Nat}{q:V×St}{a:Addr}(e:xr σ r\q)(hu:VR c φ s.heap (.ref r) (.ref a)):
  ∃items n y,items.size<=sizeLine/\IsL s.heap a items n/\seqIndex? 0 items.size=some 0/\items[0]?\y/\Gd c φ s [] q.2 q.1 y {s with heap:=s.heap.update a (Obj.mapSeq λ xs=>xs.eraseIdxIfInBounds 0)}:=
 aE e λ l hl e=>ow e λ v t Fi e=>ñ e λ gk e=>R.listE (P:=λ u=>u=.ref a->∃items n y,items.size<=sizeLine/\IsL s.heap a items n/\seqIndex? 0 items.size=some 0/\items[0]?\y/\Gd c φ s [] q.2 q.1 y {s with heap:=s.heap.update a (Obj.mapSeq λ xs=>xs.eraseIdxIfInBounds 0)}) (Fi▸hl) hu (λ a' vs n p g Ĥ BC w=>Ň w▸
  Ĥ.au (P:=λ us=>vs.toList=us->∃items n y,items.size<=sizeLine/\IsL s.heap a' items n/\seqIndex? 0 items.size=some 0/\items[0]?\y/\Gd c φ s [] q.2 q.1 y {s with heap:=s.heap.update a' (Obj.mapSeq λ xs=>xs.eraseIdxIfInBounds 0)}) (λ u us hx BG he=>
   have h2:=gH (tk:=s.toks) (l':=t) (f:=λ xs=>xs.eraseIdxIfInBounds 0) R p (Fi▸hl) g (qi he) BG (XJ gk)
   ⟨vs,n,u,gL Ĥ.size BC,g,gF (X9 0) (Ĥ.size▸Y0 _),Zd.symm.trans (he▸rfl),Xn e▸⟨φ,h2.1,h2.2,hx.step h2.1⟩⟩) rfl) rfl
def GP(c:Cx)(a:Addr)(r:Nat)(k dv:V)(σ:St)(q:V×St)(Q:Value->Shared->Prop)(w z:Value)(s:Shared):Prop:=∃φ,Rel c φ σ s.heap/\VR c φ s.heap k w/\VR c φ s.heap (.ref r) (.ref a)/\VR c φ s.heap dv z/\∀u s',Gd c φ s [] q.2 q.1 u s'->Q u s'
theorem OV.getD{h:Heap}{r:Option V}{y:Option Value}{dv:V}{z:Value}(o:OV c φ h r y)(hz:VR c φ h dv z):VR c φ h (r.getD dv) (y.getD z):=by
 cases r with
 |none=>exact(show y=none from o)▸hz
 |some v=>exact(show ∃u,y\u/\VR c φ h v u from o).elim λ u o=>o.1▸o.2
theorem gM(S:ă c){r:Nat}{k dv:V}{q:V×St}{w z:Value}{a:Addr}{Q:Value->Shared->Prop}(G:GP c a r k dv σ q Q w z s)(e:lp σ r k dv\q){P:Prop}
  (k1:∀x f,c.kv.is x w=true->s.heap.MapOf c.kv a f->(∀tk,Q ((f x).getD z) {s with toks:=tk})->P) (k2:∀b x xs,w=.ref b->c.kt.is s.heap x b->s.heap.DictOfH c.kt a xs->(∀tk,Q (((atKey xs x).map (·.2)).getD z) {s with toks:=tk})->P):P:=
 G.elim λ φ G=>xC e λ es hl e=>ñ e λ ok e=>â e λ y hf e=>G.1.kP (P:=λ u=>u=.ref a->P) hl G.2.2.1 (λ a' p D _ w=>
  have D:DR c φ s.heap a es:=Ň w▸D;have fin:∀{y'},OV c φ s.heap y y'->∀tk,Q (y'.getD z) {s with toks:=tk}:=λ o tk=>G.2.2.2.2 _ _ (e▸(QP.tok (o.getD G.2.2.2.1):QP s _ _ _).gd (Step.refl _ _ _) G.1 _ _)
  D.look S ok hf G.2.1 (λ x f i m o=>k1 x f i m (fin o)) λ b x xs eb i m o=>k2 b x xs eb i m (fin o)) rfl
theorem Ą{r:Nat}{k dv:V}{q:V×St}(e:lp σ r k dv\q):ó k=true:=xC e λ _ _ e=>ñ e λ ok _=>ok
theorem uP{h:Heap}{k:V}{x:Int ⊕ Str}{b:Addr}{P:Prop}(hx:Ae c k x)(hk:VR c φ h k (.ref b)):P:=fg (P:=λ k _=>VR c φ h k (.ref b)->P) hx (λ i hk=>hk.elim λ _ e=>nomatch e) (λ i hk=>hk.elim λ _ e=>nomatch e) hk
theorem uQ{h:Heap}{l:List V}{x:Int ⊕ Str}{w:Value}{P:Prop}(hx:nF x w=true)(hk:VR c φ h (.tup l) w):P:=hk.ff (P:=λ w=>nF x w=true->P) (λ a _ _ _ _ e=>by cases x<;>exact ft e) hx
theorem AI(S:ă c)(hA:ŵ A d){r:Nat}{a:Addr}{k:V}{pos:Pos}{m:Sem Value}{q:V×St}{Q:Value->Shared->Prop}(dP:(a==sysModules)=false)(e:lp σ r k .none\q)
  (h:wpAny c.M A m (λ zz=>GP c a r k .none σ q Q zz .none) Ø s):wpAny c.M A (callWith pos (.builtin "dict.get") [.ref a] [(false,m)] []) Q Ø s:=
 uF (c:=c) (Ą e) (λ x hx=>wpAny_dict_get1 (knd:=c.kv) dP (Ü h λ w s₂ G=>gM S G e (λ x f i m q=>⟨x,f,i,m,q _⟩) λ b x xs eb _ _ _=>G.elim λ φ G=>uP hx (eb▸G.2.1)))
  λ l x ek hx=>wpAny_dict_get1_heap (knd:=c.kt) (bc hA) dP (Ü h λ w s₂ G=>gM S G e (λ x f i m q=>G.elim λ φ G=>uQ i (ek▸G.2.1)) λ b x xs eb i m q=>⟨b,x,xs,eb,i,m,q _⟩)
theorem wy(S:ă c)(hA:ŵ A d){r:Nat}{a:Addr}{k dv:V}{pos:Pos}{m m':Sem Value}{q:V×St}{Q:Value->Shared->Prop}(dP:(a==sysModules)=false)(e:lp σ r k dv\q)
  (h:wpAny c.M A m (λ w s₂=>wpAny c.M A m' (GP c a r k dv σ q Q w) Ø s₂) Ø s):wpAny c.M A (callWith pos (.builtin "dict.get") [.ref a] [(false,m),(false,m')] []) Q Ø s:=
 uF (c:=c) (Ą e) (λ x hx=>wpAny_dict_get2 (knd:=c.kv) dP (Ü h λ w s₂ h=>Ü h λ z Ġ G=>gM S G e (λ x f i m q=>⟨x,f,i,m,q _⟩) λ b x xs eb _ _ _=>G.elim λ φ G=>uP hx (eb▸G.2.1)))
  λ l x ek hx=>wpAny_dict_get2_heap (knd:=c.kt) (bc hA) dP (Ü h λ w s₂ h=>Ü h λ z Ġ G=>gM S G e (λ x f i m q=>G.elim λ φ G=>uQ i (ek▸G.2.1)) λ b x xs eb i m q=>⟨b,x,xs,eb,i,m,q _⟩)
variable{ě:St}
def Met(c:Cx)(A:Around)(u:Value)(x:Str)(pl:Sem Bool)(p:Pos)(l:List (Bool×Sem Value))(s:Shared)(Q:Value->Shared->Prop):Prop:=wpAny c.M A (getMethod u x pl) (λ fx s₂=>wpAny c.M A (callWith p fx.1 fx.2 l []) Q Ø s₂) Ø s
theorem AJ{a:Addr}{o:Obj}(g:s.heap.get? a\o)(n:o.dict=none)(b:Addr)(e:Value.ref a=.ref b):∃o,s.heap.get? b\o/\o.dict=none:=⟨o,Ň e▸g,n⟩
theorem Gd.up{X:List Addr}{õ Á:Pl}{ħ Â:Shared}{v:V}{u:Value}{s₂:Shared}(st:Step X õ Á ħ Â)(h:Gd c Á Â X ě v u s₂):Gd c õ ħ X ě v u s₂:=h.elim λ Û z=>⟨Û,st.trans z.1,z.2⟩
section
variable{x r:Nat}{args:List E}{as:List Expr}{vs:List V}{ŷ:St}{q:V×St}{a:Addr}{p:Pos}{pl:Sem Bool}{õ:Pl}{ħ:Shared}
theorem wA(S:ă c)(O:On c d A env sc ρ φ s σ)(ş:Step [] õ φ ħ s)(ih:∀e∈args,IE c C d e)(hc:æ c.T sc args as=true)(h:ß c.sig C ρ args σ\(vs,ŷ))(hu:VR c φ s.heap (.ref r) (.ref a)){aw:Array Value}{n:Nat}(g:s.heap.get? a\(Ť aw n))
  (hx:x=dg) (e:bG C ŷ (.ref r) .append vs\q):Met c A (.ref a) (c.T.nm x) pl p (starEach as env) s (Gd c õ ħ [] q.2 q.1):=
 s9 (show ws vs (λ v=>mD ŷ r v)\q from e) λ v hv e=>hx▸S.M5▸aaO ⟨_,g,rfl⟩ aaZ PySem.F.slot_list_append PySem.F.type_list_append (AJ g rfl)
  (Jr (P:=λ l=>wpAny c.M A (callWith p (.builtin "list.append") [.ref a] l []) (Gd c õ ħ [] q.2 q.1) Ø s) O ih (hv▸h) hc λ m hm=>P.append_list (hm _ λ z s₂ Û st Ĝ hz=>(qh Ĝ.R e (hu.step st) hz).elim λ items y=>y.elim λ n y=>⟨items,n,y.1,y.2.1,y.2.2.up (ş^st)⟩))
theorem Js(S:ă c)(O:On c d A env sc ρ φ s σ)(ş:Step [] õ φ ħ s)(ih:∀e∈args,IE c C d e)(hc:æ c.T sc args as=true)(h:ß c.sig C ρ args σ\(vs,ŷ))(hu:VR c φ s.heap (.ref r) (.ref a)){aw:Array Value}{n:Nat}(g:s.heap.get? a\(Ť aw n))
  (hx:x=xl) (e:bG C ŷ (.ref r) .pop vs\q):Met c A (.ref a) (c.T.nm x) pl p (starEach as env) s (Gd c õ ħ [] q.2 q.1):=
 hx▸S.WB▸aaO ⟨_,g,rfl⟩ aaZ PySem.F.slot_list_pop PySem.F.type_list_pop (AJ g rfl)
  (s_ (show xo vs (BP ŷ r) (λ v=>wi v λ i=>gd (i=0) (xr ŷ r)) (λ _ _=>none)\q from e) (λ hv e=>SA (P:=λ l ŷ=>BP ŷ r\q->wpAny c.M A (callWith p (.builtin "list.pop") [.ref a] l []) (Gd c õ ħ [] q.2 q.1) Ø s) (hv▸h) hc (λ e=>
    (AH O.R e hu).elim λ items y=>y.elim λ n y=>y.elim λ w y=>P.pop_list y.2.1 y.2.2.1 (y.2.2.2.up ş) y.1) e)
   (λ v hv e=>Ĺ e λ i hi e=>ñ e λ h0 e=>Jr (P:=λ l=>wpAny c.M A (callWith p (.builtin "list.pop") [.ref a] l []) (Gd c õ ħ [] q.2 q.1) Ø s) O ih (hv▸h) hc λ m hm=>P.pop_at_list (hm _ λ z s₂ Û st Ĝ hz=>
    (wx Ĝ.R e (hu.step st)).elim λ items y=>y.elim λ n y=>y.elim λ w y=>(h0▸hi▸hz:VR c Û s₂.heap (.int 0) z).elim λ t ht=>⟨items,n,0,t,0,w,y.1,ht,y.2.1,by decide+kernel,y.2.2.1,y.2.2.2.1,y.2.2.2.2.up (ş^st)⟩))
   λ _ _ _ e=>ns e)
theorem Jt(S:ă c)(O:On c d A env sc ρ φ s σ)(ş:Step [] õ φ ħ s)(ih:∀e∈args,IE c C d e)(hc:æ c.T sc args as=true)(h:ß c.sig C ρ args σ\(vs,ŷ))(hu:VR c φ s.heap (.ref r) (.ref a)){ds:List DictEntry}{n:Nat}(g:s.heap.get? a\(Ľ ds n))
  (hs:(a==sysModules)=false) (hx:x=xn) (e:bG C ŷ (.ref r) .get vs\q):Met c A (.ref a) (c.T.nm x) pl p (starEach as env) s (Gd c õ ħ [] q.2 q.1):=
 hx▸S.WC▸aaO ⟨_,g,rfl⟩ PySem.F.plainAttrs_dict PySem.F.slot_dict_get PySem.F.type_dict_get (AJ g rfl)
  (s_ (show xo vs none (λ k=>lp ŷ r k .none) (λ k d=>lp ŷ r k d)\q from e) (λ _ e=>ns e)
   (λ v hv e=>Jr (P:=λ l=>wpAny c.M A (callWith p (.builtin "dict.get") [.ref a] l []) (Gd c õ ħ [] q.2 q.1) Ø s) O ih (hv▸h) hc λ m hm=>AI S O.hA hs e (hm _ λ z s₂ Û st Ĝ hz=>⟨Û,Ĝ.R,hz,hu.step st,rfl,λ u s' y=>y.up (ş^st)⟩))
   λ v w hv e=>SD (P:=λ l=>wpAny c.M A (callWith p (.builtin "dict.get") [.ref a] l []) (Gd c õ ħ [] q.2 q.1) Ø s) O ih (hv▸h) hc λ m m' hm=>wy S O.hA hs e (hm _ λ z w s₂ Û st Ĝ hz hw=>⟨Û,Ĝ.R,hz,hu.step st,hw,λ u s' y=>y.up (ş^st)⟩))
theorem Ju(S:ă c)(hC:û c C d)(O:On c d A env sc ρ φ s σ)(ş:Step [] õ φ ħ s)(ih:∀e∈args,IE c C d e)(hc:æ c.T sc args as=true)(h:ß c.sig C ρ args σ\(vs,ŷ)){u:Value}{v:V}{mk:MK}(hu:VR c φ s.heap v u)
  (hm:jz c.sig σ x v\mk) (e:bG C ŷ v mk vs\q):Met c A u (c.T.nm x) pl p (starEach as env) s (Gd c õ ħ [] q.2 q.1):=
 bY hm λ r hr hm=>Gq hm
  (λ l hl hm=>O.R.listE (P:=λ u=>VR c φ s.heap (.ref r) u->Met c A u (c.T.nm x) pl p (starEach as env) s (Gd c õ ħ [] q.2 q.1)) hl (hr▸hu) (λ a vs n _ g _ _ hu=>
   if hx:x=dg then wA S O ş ih hc h hu g hx (Xn ((XR hx).symm.trans hm)▸hr▸e)
   else ñ ((XW hx).symm.trans hm) λ hx hm=>Js S O ş ih hc h hu g hx (Xn hm▸hr▸e)) (hr▸hu))
  (λ l hl hm=>O.R.kP (P:=λ u=>VR c φ s.heap (.ref r) u->Met c A u (c.T.nm x) pl p (starEach as env) s (Gd c õ ħ [] q.2 q.1)) hl (hr▸hu) (λ a hp D _ hu=>D.obj.elim λ ds g=>g.elim λ n g=>
   ñ hm λ hx hm=>Jt S O ş ih hc h hu g (O.R.se S hp) hx (Xn hm▸hr▸e)) (hr▸hu))
  λ k fs hl hm=>ñ hm λ hn hm=>â hm λ f hf hm=>O.R.Aj (P:=λ u=>VR c φ s.heap (.ref r) u->Met c A u (c.T.nm x) pl p (starEach as env) s (Gd c õ ħ [] q.2 q.1)) hl (hr▸hu) (λ a dx ds n hp g g' F _ hk _ hu=>
   have M:=S.ì k x f hf;have PG:=plainGet_of (S.cl k hk).get
   method_fn (K:=c.K) (O.R.K S) (si g g') PG.1 PG.2 M.1 M.2 ((kT S (x:=x) F).elim λ z y=>(by show Option.map (λ x=>Option.isSome x) (getL (c.T.nm x) ds)\false;rw[y.1,(show z=none from(M1 hn▸y.2:OV c φ s.heap none z))];rfl))
    (uN hC S (.inr (.inl ⟨k,x,hf⟩)) (dB ih) O ş hc h (m:=[.ref r]) (.cons hu .nil) (show bG C ŷ (.ref r) (.fn f) vs\q from hm▸hr▸e))) (hr▸hu)
end
theorem Ed(S:ă c)(hC:û c C d){o:E}(x:Nat){args:List E}(ih:IE c C d o)(iha:∀e∈args,IE c C d e):IE c C d (.ì o x args):=fun {A env sc y φ s σ ρ r} O hc ee=>Ò (oA.symm^ee) λ v ç U ee=>í ee λ mk h2 ee=>Ò ee λ vs ŷ h3 ee=>
 Ų hc λ g as p q=>aZ (P:=λ g=>Ev c A env φ s r (.Call g as [] p)) q λ ov a ap q=>seq_eq (an q).1▸have q:=Kj (an q).2
  wu (bn q.1) q.2.1 (XA q.2.2.1) q.2.2.2.2 (ih.on O q.2.2.2.1 U λ u Â Á st Ù hu=>Ju S hC Ù st iha q.2.2.2.2 h3 hu h2 ee)
theorem uR{h:Heap}{o o':Obj}(f:o'.isFreed=false):((h.push o).push o').get? (h.objs.size+1)\o':=by have:=Yu (h.push o) (o:=o') f;rw[Heap.size_push]at this;exact this
theorem uS(R:Rel c φ σ s.heap){k:Nat}(hk:(c.sig.init k).isSome=true){tk:Nat}:
  Gd c φ s [] (σ.new (.inst k [])) (.ref σ.n) (.ref (s.heap.objs.size+1)) {s with heap:=(s.heap.push emptyDict).push (instObj (c.cls k) s.heap.objs.size),toks:=tk}:=
 have kp:∀b o,s.heap.get? b\o->((s.heap.push emptyDict).push (instObj (c.cls k) s.heap.objs.size)).get? b\o:=λ b o e=>X7 _ (X7 _ e);have h0:∀a∈[s.heap.objs.size+1,s.heap.objs.size],s.heap.objs.size<=a:=λ a ha=>M3 ha (λ e=>e▸Zj _) λ e=>e▸XS _;have U:∀a∈[s.heap.objs.size+1,s.heap.objs.size],s.heap.get? a=none:=λ a ha=>get_none (h0 a ha)
 ⟨φ++[[s.heap.objs.size+1,s.heap.objs.size]],Step.alloc kp (Xp jo jo) h0,R.add (λ b o e _=>kp b o e) (λ a ha=>(R.fresh (U a ha)).1) (λ a ha=>(R.fresh (U a ha)).2) (λ a ha vs n e=>Ħ e (U a ha))
  (X0.mpr ⟨λ h=>Nat.succ_ne_self _ (gE h),X0.mpr ⟨Yh,YU⟩⟩) ⟨_,_,[],0,rfl,uR rfl,X7 _ (Yu _ rfl),.nil,Zi _,hk,λ _ h=>nomatch h⟩,⟨_,_,kL R.len _,rfl⟩⟩
theorem jc(C:Addr)(rest:List Value)(kw:List (Str×Value)):(Code.builtin "type.__call__" ⟨.ref C::rest,kw⟩).weight=1:=by kernel_rfl
theorem kX(C:Addr)(rest:List Value)(kw:List (Str×Value)):(Code.builtin "type.__call__" ⟨.ref C::rest,kw⟩).cUnits=1:=by kernel_rfl
theorem ŵ.made(hA:ŵ A d)(C:Addr)(rest:List Value)(kw:List (Str×Value)):uD (A.under (.builtin "type.__call__" ⟨.ref C::rest,kw⟩)) d:=
 ⟨hA.handled,show A.depth+_+3*d<=900 from(jc C rest kw).symm▸ln [_,_] [] (.c 1 (.a (.a (.v 0) (.m 3 (.v 1))) (.k 2)) (.k 900) .e) 0 (.a (.a (.v 0) (.k 1)) (.m 3 (.v 1))) (.k 900) rfl hA.depth,
  show A.units+_+40*d<=9000 from(kX C rest kw).symm▸ln [_,_] [] (.c 1 (.a (.a (.v 0) (.m 40 (.v 1))) (.k 30)) (.k 9000) .e) 0 (.a (.a (.v 0) (.k 1)) (.m 40 (.v 1))) (.k 9000) rfl hA.units⟩
theorem PA.any{x l}(h:PA env x l):l.any (·.1)=false:=by
 induction h with
 |nil=>rfl
 |cons e _ ih=>exact ih
theorem wB(S:ă c)(R:Rel c φ σ s.heap){k:Nat}(h0:c.sig.init k\none){õ:Pl}{ħ:Shared}(st:Step [] õ φ ħ s):wpAny c.M A (call (.ref (c.cls k)) [] []) (Gd c õ ħ [] (σ.new (.inst k [])) (.ref σ.n)) Ø s:=by refine wpAny_call ?_;have X:=R.K S;obtain⟨hh,g,dd,t,os⟩:=s;have ZZ9:=makes_of (M:=c.M) X (S.cl k (h0▸rfl)).makes;refine make_core ZZ9 (looks_findIn X (S.FV k h0)) (λ self=>Looks.of_pure (oi_bind self)) (.inr ⟨rfl,rfl⟩) ?_;have t1:Looks c.M ((hh.push emptyDict).push (instObj (c.cls k) hh.objs.size)) (typeOf (.ref (hh.objs.size+1))) (.ref (c.cls k)):=(Looks.ld (uR rfl)).andThen .now;have t2:Looks c.M ((hh.push emptyDict).push (instObj (c.cls k) hh.objs.size)) (isInstance (.ref (hh.objs.size+1)) (.type "object")) true:=t1.andThen (ZZ9.top.keeps λ b o e=>X7 _ (X7 _ e));refine codeAny_call_builtin oi_plain entry_oi (@check_slot c.M _ _ _ "object.__init__" "object" "__init__" (.ref (hh.objs.size+1)) [] [] _ oi_kind oi_split t2 (oi_args (.ref (hh.objs.size+1))) ?_);show wpAny _ _ (Builtin.«object.__init__» ⟨[.ref (hh.objs.size+1)],[]⟩) _ _ _;rw[oi_run];exact XT (And.intro rfl ((uS (s:=⟨hh,g,dd,t,os⟩) (tk:=t) R (h0▸rfl)).up st))
theorem wC(S:ă c)(hC:û c C d)(hA:ŵ A d)(R:Rel c φ σ s.heap){k f:Nat}(h0:c.sig.init k\(some f)){õ:Pl}{ħ:Shared}(st:Step [] õ φ ħ s){vs:List V}{us:List Value}(Ĥ:ö c φ s.heap vs us){Ú:St}
  (h:C f (.ref σ.n::vs) (σ.new (.inst k []))\(.none,Ú)):wpAny c.M A (call (.ref (c.cls k)) us []) (Gd c õ ħ [] Ú (.ref σ.n)) Ø s:=by
 refine wpAny_call ?_;have X:=R.K S;obtain⟨hh,g,dd,t,os⟩:=s;have ZZ9:=makes_of (M:=c.M) X (S.cl k (h0▸rfl)).makes;obtain⟨i1,i2⟩:=S.FW k f h0;refine make_core ZZ9 (looks_findIn X i1) (λ self=>bind_fn X self i2) (.inl rfl) ?_
 exact(uS (s:=⟨hh,g,dd,t,os⟩) (tk:=t) R (h0▸rfl)).elim λ Û z=>codeAny_mono (hC f (.ref σ.n::vs) _ _ _ h _ Û _ (.ref (hh.objs.size+1)::us) (hA.made _ _ _) z.2.1 (.cons z.2.2 (Ĥ.step z.1))) λ r s' y=>
  y.elim λ u y=>y.1▸y.2.elim λ bS y=>⟨y.2.2.pU,bS,(st.trans z.1).trans y.1,y.2.1,z.2.2.step y.1⟩
theorem Jv(S:ă c)(hC:û c C d)(x k:Nat){args:List E}(wo:xd c C d args):IE c C d (.new x k args):=fun {A env sc y φ s σ ρ r} O hc ee=>Ò (tj.symm^ee) λ vs ç U ee=>í ee λ i hi ee=>ł hc λ id np as p q=>
 have pa:=(Ń (env:=env) (ŗ q).2.2).1;have hk:(c.sig.init k).isSome=true:=hi▸rfl
 ZX (dA S O (ŗ q).1 (S.WA x k (DK (ŗ q).2.1)) (show wpAny c.M A (callWith p (.ref (c.cls k)) [] (backTo p (starEach as env)) []) _ _ _ from(pa.back p).symm▸callWith_of (P:=λ h=>c.K.In h) (by rw[pa.any];rfl) (keeps_K (S.FU k hk))
  (bD pa (pa.back p▸wo.on (p:=p) O (ŗ q).2.2 U λ us Â Á st Ù Ĥ=>⟨Ù.R.K S,
   Option.casesOn (motive:=λ i=>c.sig.init k\i->(match i with|none=>wV vs (some (V.ref ç.n,ç.new (.inst k [])))|some f=>ú (C f (.ref ç.n::vs) (ç.new (.inst k []))) λ v s'=>wz v (some (V.ref ç.n,s')))\r->wpAny c.M A (call (.ref (c.cls k)) us []) (Gd c φ s [] r.2 r.1) Ø Â) i
    (λ hi ee=>bX ee λ hv ee=>Xn ee▸ö.lJ (hv▸Ĥ)▸wB S Ù.R hi st) (λ f hi ee=>Ò ee λ v ŷ h2 ee=>xy ee λ hv ee=>Xn ee▸wC S hC O.hA Ù.R hi st Ĥ (hv▸h2)) hi ee⟩))))
theorem mi{lo:Option Nat}{l:Option Expr}(h:z8 lo l=true){Q:Value->Shared->Prop}(q:∀v tk,IsPart v (lo.map Int.ofNat)->Q v {s with toks:=tk}):wpAny c.M A (evalPart l env) Q Ø s:=by
 cases lo with
 |none=>
  cases l with
  |none=>exact sj (evalPart_none ..) (XT (q _ _ .none))
  |some _=>exact ft h
 |some n=>
  cases l with
  |none=>exact ft h
  |some y=>exact aY (P:=λ y=>wpAny c.M A (evalPart (some y) env) Q Ø s) h λ k b p q'=>DI q'▸sj (evalPart_some ..) (wpAny_Constant_int (q _ _ (.int _ _)))
theorem iX{h:Heap}{ns:List Int}(x:IntsAre us ns):ö c φ h (ns.map .int) us:=by
 induction x with
 |nil=>exact .nil
 |cons n t _ ih=>exact .cons ⟨_,rfl⟩ ih
theorem wD{lo hi:Option Nat}{v:V}{q:V×St}{u:Value}(R:Rel c φ σ s.heap)(e:hG σ lo hi v\q)(hv:VR c φ s.heap v u){P:Prop}
  (k:∀a vs n li m,.ref a=u->s.heap.get? a\(Ť vs n)->ö c φ s.heap li vs.toList->li.length<=lim->qM lo hi li\m->(.ref σ.n,σ.new (.list m))=q->P):P:=
 Gp e (λ l hl e=>ñ e λ h0 e=>BQ e λ b hb e=>ñ e λ hz e=>(hl▸hv:VR c φ s.heap (.fl l) u).Sw (P:=λ w=>w=u->P) (λ a vs n g Hn w=>k a vs n (l.map .int) ((l.map .int).take b) w (R.e9 _ _ g) (iX Hn) ((Xm ..).symm▸hz) (h0▸hb▸rfl) (Xn e)) rfl)
  λ r hr e=>aE e λ l hl e=>ñ e λ hz e=>â e λ m hm e=>R.listE (P:=λ w=>w=u->P) hl (hr▸hv) (λ a vs n pp g Ĥ _ w=>k a vs n l m w g Ĥ hz hm e) rfl
theorem Ee{lo hi:Option Nat}{l m:List V}(e:qM lo hi l\m)(h:l.length<=lim):m.length<=lim:=by
 cases lo with
 |none=>exact â e λ b hb e=>e▸Xp (X1 ..) h
 |some a=>exact ñ e λ _ e=>Xn e▸Xp (List.length_drop▸aaA _ _) h
theorem AK{lo hi:Option Nat}{l m:List V}{h:Heap}(e:qM lo hi l\m)(x:ö c φ h l vs.toList):ö c φ h m (slicePick vs (lo.map Int.ofNat) (hi.map Int.ofNat) none).toList:=by
 cases lo with
 |none=>exact â e λ b hb e=>hb▸e▸(show ö c φ h (l.take b) (slicePick vs none (some (b:Int)) none).toList by rw[slicePick_upto'];exact x.take)
 |some a=>exact ñ e λ h0 e=>h0▸Xn e▸(show ö c φ h (l.drop a) (slicePick vs (some (a:Int)) none none).toList by rw[slicePick_from'];exact x.drop)
theorem AL(S:ă c){e:E}(lo hi:Option Nat)(ih:IE c C d e):IE c C d (.slice e lo hi):=fun {A env sc y φ s σ ρ r} O hc ee=>Ò (hH.symm^ee) λ v ç U ee=>aq hc λ val sl p q=>vZ (P:=λ sl=>Ev c A env φ s r (.Subscript val sl p)) q λ l u p' q=>by refine sj (arm_eval_Subscript ..) (XD (ih.on O (ŗ q).2.2 U λ uu Â Á st Ù hv=>wD Ù.R ee hv λ a vs n li m hu g Ĥ hz hm hr=>?_));refine hu▸hr▸XD (YJ (wpAny_Slice (mi (ŗ q).1 λ pl tk1 hpl=>mi (ŗ q).2.1 λ pu SE hpu=>XT ?_)));have kp:∀b o,Â.heap.get? b\o->(Â.heap.push {cls:=.type "slice",data:=.fields #[pl,pu,.none]}).get? b\o:=λ b o e=>X7 _ e;have g2:=kp _ _ g;have hT:({Â with heap:=Â.heap.push {cls:=.type "slice",data:=.fields #[pl,pu,.none]},toks:=SE}:Shared).TypeIs (.ref a) "list":=⟨_,g2,rfl⟩;refine Ĉ (XD (sj (getitemInPython_of_ne hT.not_modules) (XD (Zw hT slot_list_getitem.lookup (XT (XD (wpAny_operateT ?_)))))));refine wpAny_getItem_list_slice (lo:=lo.map Int.ofNat) (hi:=hi.map Int.ofNat) (st:=none) ⟨_,g2,rfl,n,rfl⟩ (Heap.IsSliceOf.new _ _ _ _) hpl hpu .none (λ e=>nomatch e) (XD (aan (XT ?_))) (gL Ĥ.size hz);exact(newList (s:={Â with heap:=Â.heap.push {cls:=.type "slice",data:=.fields #[pl,pu,.none]},toks:=SE}) (tk:=SE) (Ù.R.ē kp) (AK hm (Ĥ.ý λ _ _ _ e=>kp _ _ e)) (Ee hm hz)).up (st^(Step.ē kp))
theorem F6{a b:Nat}(e:a=b)(h:b<=lim):(a:Int)<2^63:=e▸li [_] [] (.c 1 (.v 0) (.k 100000) .e) 0 (.a (.n (.v 0)) (.k 1)) (.k 9223372036854775808) rfl h
theorem Jw(R:Rel c φ σ s.heap){v r:V}{u:Value}(e:Gl σ v\r)(hv:VR c φ s.heap v u):wpAny c.M A (call (.builtin "len") [u]) (QP s (VR c φ s.heap r)) Ø s:=
 mF e (λ i h e=>aE e λ l hl e=>R.listE (P:=λ u=>wpAny c.M A (call (.builtin "len") [u]) (QP s (VR c φ s.heap r)) Ø s) hl (h▸hv) λ a vs n p g Ĥ hz=>call_len_list ⟨_,g,rfl,n,rfl⟩ (F6 Ĥ.size hz) (QP.tok (Xn e▸Ĥ.size▸⟨_,rfl⟩)))
  λ l h e=>ñ e λ hz e=>(h▸hv:VR c φ s.heap (.tup l) u).ff (P:=λ u=>wpAny c.M A (call (.builtin "len") [u]) (QP s (VR c φ s.heap r)) Ø s) λ a vs n g Ĥ=>P.len_tuple (n:=n) g (λ q=>absurd (F6 Ĥ.size hz) (Yc.mpr q)) (QP.tok (Xn e▸Ĥ.size▸⟨_,rfl⟩))
theorem Jx(hA:ŵ A d)(R:Rel c φ σ s.heap){a b:Int}{u w:Value}(hu:VR c φ s.heap (.int a) u)(hw:VR c φ s.heap (.int b) w):wpAny c.M A (call (.builtin "min") [u,w]) (Gd c φ s [] σ (.int (if b<a then b else a))) Ø s:=
 hu.Ŷ (P:=λ u=>wpAny c.M A (call (.builtin "min") [u,w]) (Gd c φ s [] σ (.int (if b<a then b else a))) Ø s) λ t=>hw.Ŷ (P:=λ w=>wpAny c.M A (call (.builtin "min") [.int a t,w]) (Gd c φ s [] σ (.int (if b<a then b else a))) Ø s) λ t'=>
  min_two_ints hA.handled λ h' tk k=>⟨φ,Step.ē k,R.ē k,by split<;>exact⟨_,rfl⟩⟩
theorem wF(R:Rel c φ σ s.heap){l:List V}{vs:Array Value}{n:Nat}{s':Shared}{D:Addr}(kp:∀b o,s.heap.get? b\o->s'.heap.get? b\o)(hD:s.heap.get? D=none)(hD':s'.heap.get? D\(Ť vs n))
  (Ĥ:ö c φ s.heap l vs.toList) (hz:l.length<=lim) (g:s'.gens=s.gens:=by rfl) (os:s'.os=s.os:=by rfl) (d:s'.drawn=s.drawn:=by rfl):Gd c φ s [] (σ.new (.list l)) (.ref σ.n) (.ref D) s':=
 have U:∀a∈[D],s.heap.get? a=none:=λ a ha=>gE ha▸hD
 ⟨φ++[[D]],⟨⟨[[D]],rfl,λ b hb=>U b (mf hb)⟩,dy kp,λ b o e _ _=>kp b o e,λ b vs n e=>kp _ _ e,g,os,d⟩,
  R.add (λ b o e _=>kp b o e) (λ a ha=>(R.fresh (U a ha)).1) (λ a ha=>(R.fresh (U a ha)).2) (λ a ha vs n e=>Ħ e (U a ha)) (X0.mpr ⟨Yh,YU⟩) ⟨D,vs,n,rfl,hD',Ĥ.mono (λ _ _ _ e=>kp _ _ e),hz⟩,⟨_,[],kL R.len _,rfl⟩⟩
theorem AM{K:Type}{ns:List Int}{l:List Value}{ks:List K}{g:Int->K}(hn:ks=ns.map g)(U:ns.length<=1)(hl:l.length=ks.length)(h:∀(i:Nat) v,l[i]?\v->∃k,ks[i]?\k/\∀j,k=g j->∃t,v=Value.int j t):IntsAre l ns:=by
 subst hn;cases ns with
 |nil=>exact Zo hl▸.nil
 |cons j r=>
  cases r with
  |cons _ _=>exact absurd U (λ h=>absurd (aa4 h) (Nat.not_succ_le_zero _))
  |nil=>
   cases l with
   |nil=>exact nomatch hl
   |cons v r=>
    cases r with
    |cons _ _=>exact nomatch (abl hl)
    |nil=>exact(h 0 v rfl).elim λ k z=>(z.2 j (Xn z.1).symm).elim λ t e=>e▸.cons _ _ .nil
theorem iY{kvs:List ((Int ⊕ Str)×Value)}{a:Addr}{ns:List Int}(hA:ŵ A d)(R:Rel c φ σ s.heap)(hd:s.heap.DictOf c.kv a kvs)(dP:(a==sysModules)=false)(hn:kvs.map (·.1)=ns.map .inl)(U:ns.length<=1):
  wpAny c.M A (call (.builtin "sorted") [.ref a]) (Gd c φ s [] (σ.new (.list (ns.map .int))) (.ref σ.n)) Ø s:=by
 obtain⟨ep,MD⟩:=hd.dictAt;have hlen:kvs.length=ns.length:=(Xm ..).symm.trans ((Xq List.length hn)^(Xm ..));refine call_function_entry kind_sorted plain_sorted entry_sorted (args_sorted1 _) ?_;unfold Builtin.«sorted»;refine XD (m:=checkCount "sorted" 1 1 _) (XT ?_);refine XD (kdu_collect (A:=A.in1) (kdl_dict (knd:=c.kv) (kvs:=kvs) (ep:=ep) dP) hA.handled MD (by rw[hlen];unfold sizeLine;exact Xp U (by decide)) λ h' tk acc hk Jy=>?_);have hl:acc.toList.length=ns.length:=by rw[YL,Jy.1,hlen]
 have h64:acc.toList.length<64:=by rw[hl];exact Xs U (by decide)
 have hI:IntsAre acc.toList ns:=AM (ks:=kvs.map (·.1)) hn U ((YL ..)^(Jy.1.trans (Xm ..).symm)) λ i v hv=>(Jy.2 i v (Zd.symm.trans hv)).elim λ k z=>z.elim λ x z=>⟨k,(X3 ..)^(z.1▸rfl),λ j e=>Value.isInt_shape (show c.kv.is (.inl j) v=true from e▸z.2)⟩;refine XD (wpAny_newList ?_ (by rw[hl];unfold sizeLine;exact Xp U (by decide)));have SF:(h'.push {cls:=.type "list",data:=.seq acc.toList.toArray}).get? h'.objs.size\(seqObj "list" acc.toList.toArray 0):=Yu _ rfl;refine XD (YJ (wpAny_call_entry slot_list_sort ⟨_,SF,rfl⟩ entry_list_sort (list_sort_tree SF hI h64 λ out SG a1 a2 a3=>⟨_,rfl,?_⟩) (args_list_sort _)));refine XT ⟨_,rfl,?_⟩
 have SH:SG=ns:=by
  cases ns with
  |nil=>exact a2.eq_nil
  |cons x r=>cases r with
   |nil=>exact List.perm_singleton.mp a2
   |cons _ _=>exact absurd U (λ h=>absurd (aa4 h) (Nat.not_succ_le_zero _))
 subst SH;obtain⟨e,ho⟩:=sortedHeap_at (out:=out) SF
 have kp:∀b o,s.heap.get? b\o->(sortedHeap (h'.push {cls:=.type "list",data:=.seq acc.toList.toArray}) h'.objs.size acc.toList out).get? b\o:=by intro b o hb;have U:=hk b o hb;have gk:=aaw U;rw[sortedHeap_old (Y9 gk) (by rw[size_push'];exact Nat.lt_succ_of_lt gk),Heap.get?_push_ne _ _ _ (Y9 gk)];exact U
 exact wF R kp (none_of (p:=h'.get? h'.objs.size) (dy hk _) (get_none (XS _))) ho (iX a1) ((Xm ..).symm▸Xp U (by decide))
theorem wG{es:List (V×V)}{l:List V}{P:List (V×V)->List V->Prop}(e:di es\l)(k:P [] [])(k':∀i v,P [(.int i,v)] [.int i]):P es l:=by
 cases es with
 |nil=>exact Xn e▸k
 |cons p r=>exact p.casesOn (motive:=λ p=>di (p::r)\l->P (p::r) l) (λ a v e=>Ĺ (show wi a (λ k=>wV r (some [.int k]))\l from e) λ i h e=>bX e λ h' e=>h'▸h▸Xn e▸k' i v) e
theorem wH(S:ă c)(hA:ŵ A d)(R:Rel c φ σ s.heap){r:Nat}{es:List (V×V)}{l:List V}{u:Value}(hl:σ.get r\(.dict es))(hv:VR c φ s.heap (.ref r) u)(e:di es\l):
  wpAny c.M A (call (.builtin "sorted") [u]) (Gd c φ s [] (σ.new (.list l)) (.ref σ.n)) Ø s:=
 R.kP (P:=λ u=>wpAny c.M A (call (.builtin "sorted") [u]) (Gd c φ s [] (σ.new (.list l)) (.ref σ.n)) Ø s) hl hv λ a p D _=>
  have dP:=R.se S p
  wG (P:=λ es l=>DR c φ s.heap a es->wpAny c.M A (call (.builtin "sorted") [.ref a]) (Gd c φ s [] (σ.new (.list l)) (.ref σ.n)) Ø s) e
   (λ D=>iY (kvs:=[]) (ns:=[]) hA R (D.elim (λ z=>z.elim λ kvs z=>LR.DD z.2▸z.1) λ z=>z.elim λ xs z=>z.elim λ n z=>ň (LR.DD z.2.2▸z.1)) dP rfl (Zi _))
   (λ i v D=>D.elim (λ z=>z.elim λ kvs z=>LR.zR z.2 λ b m e hb hm=>iY (ns:=[i]) hA R z.1 dP (e▸LR.DD hm▸Xq (λ x=>[x]) hb.1) (XS _)) λ z=>z.elim λ xs z=>z.elim λ n z=>LR.zR z.2.2 λ b m _ hb _=>hb.1.elim λ l y=>nomatch y.1) D
def nS:Bi->String
 |.len=>"len"|.sorted=>"sorted"|.min=>"min"
theorem Ng(S:ă c)(hA:ŵ A d){b:Bi}{vs:List V}{q:V×St}(R:Rel c φ σ s.heap)(ee:Kv σ b vs\q)(Ĥ:ö c φ s.heap vs us):wpAny c.M A (call (.builtin (nS b)) us) (Gd c φ s [] q.2 q.1) Ø s:=by
 cases b with
 |len=>exact s9 ee λ v hv ee=>â ee λ r h2 ee=>ee▸(hv▸Ĥ:ö c φ s.heap [v] us).au (P:=λ us=>wpAny c.M A (call (.builtin "len") us) (Gd c φ s [] σ r) Ø s) λ u t hu ht=>ht.lJ▸QP.go (Step.refl _ _ _) R (Jw R h2 hu)
 |sorted=>exact s9 ee λ v hv ee=>bY ee λ r hr ee=>xC ee λ es hd ee=>â ee λ l hl ee=>ee▸(hr▸hv▸Ĥ:ö c φ s.heap [.ref r] us).au (P:=λ us=>wpAny c.M A (call (.builtin "sorted") us) (Gd c φ s [] (σ.new (.list l)) (.ref σ.n)) Ø s) λ u t hu ht=>ht.lJ▸wH S hA R hd hu hl
 |min=>exact xu ee λ v w hv ee=>Ĺ ee λ a h ee=>Ĺ ee λ b h' ee=>Xn ee▸(h▸h'▸hv▸Ĥ:ö c φ s.heap [.int a,.int b] us).au (P:=λ us=>wpAny c.M A (call (.builtin "min") us) (Gd c φ s [] σ (.int (if b<a then b else a))) Ø s) λ u t hu ht=>ht.au (P:=λ t=>wpAny c.M A (call (.builtin "min") (u::t)) (Gd c φ s [] σ (.int (if b<a then b else a))) Ø s) λ w t hw ht=>ht.lJ▸Jx hA R hu hw
theorem qj{pos:Pos}{id:String}{x:List Expr}{args:List (Bool×Sem Value)}(hp:PA env x args){Q:Value->Shared->Prop}(h:wpAny c.M A (spliced args) (λ vs Â=>wpAny c.M A (call (.builtin id) vs) Q Ø Â) Ø s):
  wpAny c.M A (callWith pos (.builtin id) [] args []) Q Ø s:=
 Calls.callWith_builtin hp.any (bD hp h)
theorem Nh(S:ă c)(x:Nat)(b:Bi){args:List E}(wo:xd c C d args):IE c C d (.bi x b args):=fun {A env sc y φ s σ ρ r} O hc ee=>Ò (xI.symm^ee) λ vs ç U ee=>ł hc λ id np as p q=>
 have pa:=(Ń (env:=env) (ŗ q).2.2).1;have gb:=S.WE x b (I1 (ŗ q).2.1);have hb:c.mb (c.T.nm x)\(.builtin (nS b)):=gb.2^(b.casesOn (motive:=λ b=>some (Value.builtin (match b with|.len=>"len"|.sorted=>"sorted"|.min=>"min"))\(.builtin (nS b))) rfl rfl rfl)
 ZX (kU S O (ŗ q).1 gb.1 hb (show wpAny c.M A (callWith p (.builtin (nS b)) [] (backTo p (starEach as env)) []) _ _ _ from(pa.back p).symm▸qj pa (pa.back p▸wo.on (p:=p) O (ŗ q).2.2 U λ us Â Á st Ù Ĥ=>
  Gd.go st (Ng S O.hA Ù.R ee Ĥ))))
variable{ks:List V}
abbrev nT(ZZ_:Addr)(h h':Heap):Prop:=∀b o,b≠ZZ_->h.get? b\o->h'.get? b\o
theorem Step.bg{X:List Addr}{ð:Pl}{Â s₂:Shared}{I:Addr}(st:Step X φ ð s Â)(k:nT I Â.heap s₂.heap)(hI:s.heap.get? I=none)
  (g:s₂.gens=Â.gens:=by rfl) (os:s₂.os=Â.os:=by rfl) (dd:s₂.drawn=Â.drawn:=by rfl):Step X φ ð s s₂:=
 ⟨st.ext,λ b hb=>(X_.mp (st.alive b hb)).elim λ o ho=>Ā (k b o (λ q=>ba hb (q▸hI)) ho),λ b o e n m=>k _ _ (λ q=>Ħ e (q▸hI)) (st.keep b o e n m),
  λ b vs n e=>k _ _ (λ q=>Ħ e (q▸hI)) (st.tup b vs n e),g^st.gens,os^st.os,dd^st.drawn⟩
theorem Ni{Á:Pl}{Â s₂:Shared}{D:Addr}{Ú:St}{o:O}(st:Step [] φ Á s Â)(R:Rel c Á Ú Â.heap)(k:nT D Â.heap s₂.heap)(hD:s.heap.get? D=none)(nD:D∉Á.flatten)(D0:c.H0.get? D=none)(nt:∀vs n,Â.heap.get? D≠some (ģ vs n))(x:OR c Á s₂.heap [D] o)
  (g:s₂.gens=Â.gens:=by rfl) (os:s₂.os=Â.os:=by rfl) (dd:s₂.drawn=Â.drawn:=by rfl):Step [] φ (Á++[[D]]) s s₂/\Rel c (Á++[[D]]) (Ú.new o) s₂.heap/\VR c (Á++[[D]]) s₂.heap (.ref Ú.n) (.ref D):=
 have yu:=st.bg k hD g os dd
 ⟨⟨st.ext.elim λ ψ h=>⟨ψ++[[D]],h.1▸X4 ..,λ b hb=>bz hb (h.2 b) λ hb=>gE (mf hb)▸hD⟩,yu.alive,yu.keep,yu.tup,yu.gens,yu.os,yu.drawn⟩,
  R.add (λ b o e n=>k b o (λ q=>n (q▸aaX D)) e) (λ a ha=>gE ha▸nD) (λ a ha=>gE ha▸D0) (λ a ha=>gE ha▸nt) (X0.mpr ⟨Yh,YU⟩) (x.mono (λ _ _ _ e=>e) λ _ _ _ e=>e),⟨_,[],kL R.len _,rfl⟩⟩
theorem Gd.fin{Á:Pl}{Â s₂:Shared}{D:Addr}{Ú:St}{o:O}(st:Step [] φ Á s Â)(R:Rel c Á Ú Â.heap)(k:nT D Â.heap s₂.heap)(hD:s.heap.get? D=none)(nD:D∉Á.flatten)(D0:c.H0.get? D=none)(nt:∀vs n,Â.heap.get? D≠some (ģ vs n))(x:OR c Á s₂.heap [D] o)
 (g:s₂.gens=Â.gens:=by rfl) (os:s₂.os=Â.os:=by rfl) (dd:s₂.drawn=Â.drawn:=by rfl):Gd c φ s [] (Ú.new o) (.ref Ú.n) (.ref D) s₂:=⟨_,Ni st R k hD nD D0 nt x g os dd⟩
theorem lK{K:Type}[DecidableEq K](x:K)(u:Value):∀(acc:List (K×Value)),(acc.map (·.1)).Nodup->((PySem.stored acc x u).map (·.1)).Nodup:=λ acc nd=>by
 rw[iy x u acc nd]
 have mem:∀{acc:List (K×Value)} {y:K},y∈(pu x (λ _=>u) u acc).map (·.1)->y=x\/y∈acc.map (·.1):=fun {acc}=>by
  induction acc with
  |nil=>exact λ h=>.inl (gE h)
  |cons q r ih=>exact if h:q.1=x then (kQ (u:=λ _=>u) (n:=u) (r:=r) h).symm▸λ hy=>.inr hy else (gG (u:=λ _=>u) (n:=u) (r:=r) h).symm▸λ hy=>(XE.mp hy).elim (λ e=>.inr (e▸X2 ..)) λ hy=>(ih hy).imp id (XM _)
 induction acc with
 |nil=>exact X0.mpr ⟨Yh,YU⟩
 |cons q r ih=>
  have n:=X0.mp nd;exact if h:q.1=x then (kQ (u:=λ _=>u) (n:=u) (r:=r) h).symm▸nd else (gG (u:=λ _=>u) (n:=u) (r:=r) h).symm▸X0.mpr ⟨λ hy=>(mem hy).elim h n.1,ih n.2⟩
inductive PR (c:Cx) (φ:Pl) (h:Heap):List V->List V->List ((Int ⊕ Str)×Value)->Prop
 |nil:PR c φ h [] [] []
 |cons {k x v u r m l}:Ae c k x->VR c φ h v u->PR c φ h r m l->PR c φ h (k::r) (v::m) ((x,u)::l)
theorem PR.put(S:ă c){h:Heap}{ks ws:List V}{kvs:List ((Int ⊕ Str)×Value)}(x:PR c φ h ks ws kvs):∀{acc es ř},ĸ ks ws es\ř->(acc.map (·.1)).Nodup->ER c φ h es acc->ER c φ h ř (PySem.merged acc kvs):=by
 induction x with
 |nil=>exact λ e _ y=>bX (l:=([]:List V)) e λ _ e=>Xn e▸y
 |@cons k x v u r m l hk hv _ ih=>
  exact fun {acc es ř} e nd y=>ñ (show gd (ó k=true) (bo (putK es k v) λ ř=>ĸ r m ř)\ř from e) λ ok e=>í e λ Ef hp e=>
   ih e (lK x u acc nd) (show ER c φ h Ef (PySem.stored acc x u)from iy x u acc nd▸LR.put (λ p q b y=>r7 S y.1 hk) (λ p q y=>⟨y.1,hv⟩) ⟨hk,hv⟩ y hp)
theorem F7{k:V}{ks vs:List V}{es ř:List (V×V)}{P:Prop}(e:ĸ (k::ks) vs es\ř)(q:∀v aw Ef,vs=v::aw->ó k=true->putK es k v\Ef->ĸ ks aw Ef\ř->P):P:=ow (show wc vs (λ v vs=>gd (ó k=true) (bo (putK es k v) λ ř=>ĸ ks vs ř))\ř from e) λ v aw h e=>ñ e λ ok e=>í e λ Ef hp e=>q v aw Ef h ok hp e
theorem sA{vs:List V}{es ř:List (V×V)}{P:Prop}(e:ĸ [] vs es\ř)(q:vs=[]->es=ř->P):P:=bX (show wV vs (some es)\ř from e) λ h e=>q h (Xn e)
theorem Jz:∀{vs es ř},ĸ ks vs es\ř->ř.length<=es.length+ks.length/\ks.length=vs.length:=by
 induction ks with
 |nil=>exact λ e=>sA e λ h e=>⟨e▸XS _,h▸rfl⟩
 |cons k ks ih=>exact fun {vs es ř} e=>F7 e λ v aw Ef h ok hp e=>have z:=ih e;⟨Xp z.1 (Xp (YP (qa hp) _) (XB ((aaQ ..)^(Xq (es.length+·) (aau ..))))),h▸Xq (·+1) z.2⟩
theorem wI{T:Tab}{k:V}{ct:Const}(h:constOk T k ct=true)(ok:ó k=true):(∃i,k=.int i)\/∃i,k=.str i:=kH (P:=λ k _=>ó k=true->(∃i,k=.int i)\/∃i,k=.str i) h (λ ok=>ft ok) (λ _ ok=>ft ok) (λ i _=>.inl ⟨i,rfl⟩) (λ i _ _ _=>.inr ⟨i,rfl⟩) ok
theorem kY{T:Tab}:∀{keys:List (Option Expr)},keysOk T ks keys=true->keys.length=ks.length/\keys.all (·.isSome)=true:=by
 induction ks with
 |nil=>exact λ h=>Ad h▸⟨rfl,rfl⟩
 |cons k ks ih=>exact fun {keys} h=>FQ (P:=λ keys=>keys.length=(k::ks).length/\keys.all (·.isSome)=true) h λ ct kk pp r _ h=>have z:=ih h;⟨Xq (·+1) z.1,z.2⟩
theorem Eg(S:ă c){pos:Pos}:∀{l:List E} {keys:List (Option Expr)} {vals:List Expr} {φ:Pl} {s:Shared} {σ:St} {vs:List V} {Ú:St} {es ř:List (V×V)},
  (∀e∈l,IE c C d e)->On c d A env sc ρ φ s σ->keysOk c.T ks keys=true->æ c.T sc l vals=true->ß c.sig C ρ l σ\(vs,Ú)->ĸ ks vs es\ř->
  wpAny c.M A (evalPairs (pairTrees keys vals env pos)) (λ us s'=>∃ð kvs,Step [] φ ð s s'/\Rel c ð Ú s'.heap/\Carries c.kv us kvs/\PR c ð s'.heap ks vs kvs) Ø s:=by
 induction ks with
 |nil=>
  intro l keys vals φ s σ vs Ú es ř ih O c1 c2 ee em;refine sA em λ hv _=>?_;subst hv;refine Eb (P:=λ l Ú=>æ c.T sc l vals=true->wpAny c.M A (evalPairs (pairTrees keys vals env pos)) (λ us s'=>∃ð kvs,Step [] φ ð s s'/\Rel c ð Ú s'.heap/\Carries c.kv us kvs/\PR c ð s'.heap [] [] kvs) Ø s) ee (λ c2=>bR c2▸Ad c1▸?_) c2;show wpAny c.M A (evalPairs []) _ _ s;unfold evalPairs;exact XT ⟨φ,[],Step.refl _ _ _,O.R,trivial,.nil⟩
 |cons k ks ihk=>
  intro l keys vals φ s σ vs Ú es ř ih O c1 c2 ee em;refine F7 em λ v aw Ef hv ok hp em'=>?_;subst hv;refine Jq (P:=λ l=>(∀e∈l,IE c C d e)->æ c.T sc l vals=true->wpAny c.M A (evalPairs (pairTrees keys vals env pos)) (λ us s'=>∃ð kvs,Step [] φ ð s s'/\Rel c ð Ú s'.heap/\Carries c.kv us kvs/\PR c ð s'.heap (k::ks) (v::aw) kvs) Ø s) ee (λ e l' ç U h2 ih c2=>?_) ih c2;refine FQ (P:=λ keys=>wpAny c.M A (evalPairs (pairTrees keys vals env pos)) _ Ø s) c1 λ ct kk pp keys c1 c3=>ų (P:=λ vals=>wpAny c.M A (evalPairs (pairTrees (some (.Constant ct kk pp)::keys) vals env pos)) _ Ø s) c2 λ x xs q1 q2 q3=>?_;show wpAny c.M A (evalPairs ((eval (.Constant ct kk pp) env,do let y<-eval x env;standAt pos;pure y)::pairTrees keys xs env pos)) _ _ s;unfold evalPairs;refine XD (sj (arm_eval_Constant ..) (Ü (pT (φ:=φ) S c1) λ ku Â hk=>uF (c:=c) ok (λ y hy=>?_) λ l y e hy=>(wI c1 ok).elim (λ z=>z.elim λ i z=>nomatch z.symm.trans e) λ z=>z.elim λ i z=>nomatch z.symm.trans e));refine hk.2.elim λ tk e1=>XD (YJ ?_);subst e1;have kZ:Step [] φ φ s {s with toks:=tk}:=Step.ē λ _ _ e=>e;refine XD (IE.on (ih e (X2 ..)) (O.step kZ O.R) q2 U λ u s₂ Û ô Ĝ hu=>Ĉ (XT ?_));refine XD (YJ (Ü (ihk (λ e he=>ih e (XM _ he)) Ĝ c3 q3 h2 em') λ us Ġ z=>?_));exact z.elim λ bS z=>z.elim λ kvs z=>XT ⟨bS,(y,u)::kvs,(kZ^ô).trans z.1,z.2.1,⟨Aq hy hk.1,rfl,z.2.2.1⟩,.cons hy (hu.step z.1) z.2.2.2⟩
theorem AN(R:Rel c φ σ s.heap):Gd c φ s [] (σ.new (.dict [])) (.ref σ.n) (.ref s.heap.objs.size) {s with heap:=s.heap.push (Ľ [] 0)}:=
 have hD:s.heap.get? s.heap.objs.size=none:=get_none (XS _)
 Gd.fin (Step.refl _ _ _) R (λ b o _ e=>X7 _ e) hD (R.fresh hD).1 (R.fresh hD).2 (λ vs n e=>Ħ e hD) ⟨_,rfl,.inl ⟨[],ň (Yu _ rfl),.nil⟩,Zi _⟩
theorem Eh{h:Heap}{D:Addr}{ds:List DictEntry}{m:Nat}(g:h.get? D\(Ľ ds m))(vs:Array Value)(n:Nat):h.get? D≠some (ģ vs n):=λ e=>Ŵ (ds:=ds) (n:=m) (Xn (g.symm^e)▸rfl)
theorem AO(S:ă c){ks:List V}{l:List E}{keys:List (Option Expr)}{vals:List Expr}{p:Pos}{vs:List V}{es:List (V×V)}{Ú:St}(O:On c d A env sc ρ φ s σ)
  (ih:∀e∈l,IE c C d e) (c0:ks.length<=15) (c1:keysOk c.T ks keys=true) (c2:æ c.T sc l vals=true) (wX:keys≠[]) (e1:ß c.sig C ρ l σ\(vs,Ú)) (e2:ĸ ks vs []\es):
  wpAny c.M A (eval (.Dict keys vals p) env) (Gd c φ s [] (Ú.new (.dict es)) (.ref Ú.n)) Ø s:=
 have kl:=kY c1;have ml:=Jz e2;have kp:∀b o,s.heap.get? b\o->(s.heap.push (Ľ [] 0)).get? b\o:=λ b o e=>X7 _ e;have E9:Step [] φ φ s {s with heap:=s.heap.push (Ľ [] 0)}:=Step.ē kp;have F8:(s.heap.push (Ľ [] 0)).get? s.heap.objs.size\(Ľ [] 0):=Yu _ rfl;have WJ:s.heap.get? s.heap.objs.size=none:=get_none (XS _);have fr:=O.R.fresh WJ
 wpAny_Dict_walk (knd:=c.kv) kl.2 (kl.1^(ml.2^((bB e1).trans (Ń (env:=env) c2).2.symm))) wX (kl.1▸c0) (Ü (Eg S ih (O.step E9 (O.R.ē kp)) c1 c2 e1 e2) λ us Â z=>z.elim λ Á z=>z.elim λ kvs z=>
  have SI:Â.heap.get? s.heap.objs.size\(Ľ [] 0):=z.1.get fr.1 _ F8
  ⟨kvs,z.2.2.1,ň SI,λ h' dd sb=>Gd.fin (E9.trans z.1) z.2.1 (λ b o n e=>(sb.2 b n)^e) WJ (z.1.out fr.1 F8) fr.2 (Eh SI) ⟨_,rfl,.inl ⟨_,dd,ER.ý (Ő sb SI Ŵ) (z.2.2.2.put S e2 YU .nil)⟩,Xp ml.1 (Xp (XB (Zg _)) (Xp c0 (by decide)))⟩⟩)
theorem Ei(S:ă c){l:List E}(ih:∀e∈l,IE c C d e):IE c C d (.dict ks l):=fun {A env sc y φ s σ ρ r} O hc ee=>Ò (oC.symm^ee) λ vs ç U ee=>â ee λ es h2 ee=>kG hc λ keys vals p q=>
 ee▸by
  have q:=ŗ q;cases keys with
  |cons k r=>exact AO S O ih (XA q.1) q.2.1 q.2.2 (λ e=>nomatch e) U h2
  |nil=>
   have hk:ks=[]:=Zo (kY q.2.1).1.symm;exact sA (show ĸ [] vs []\es from hk▸h2) λ hv he=>he▸Eb (P:=λ l Ú=>æ c.T sc l vals=true->Ev c A env φ s (.ref Ú.n,Ú.new (.dict [])) (.Dict [] vals p)) (hv▸U) (λ q=>bR q▸wpAny_Dict_empty (AN O.R)) q.2.2
end
end
end Mine
namespace Mine
open PySem PySem.W PyProof.Rows PySem.Calls PySem.SeqAt
noncomputable section
variable{Á:Pl}{Â:Shared}
inductive SK where
 |ù (n:Nat)
 |tup (l:List V)
 |lst (r len:Nat)
def SK.src:SK->Src
 |.ù n=>⟨n,λ i _=>some (.int i),λ _=>true⟩
 |.tup l=>⟨l.length,λ i _=>l[i]?,λ _=>true⟩
 |.lst r len=>BO r len
def ã(c:Cx)(φ:Pl)(h:Heap)(I:Addr)(i:Nat):SK->Prop
 |.ù n=>IsRangeIter h I i ((n:Int) - i) 1
 |.tup l=>∃a vs m,h.IsTupleIter I a i/\h.get? a\(ģ vs m)/\ö c φ h l vs.toList
 |.lst r len=>∃a,h.IsListIter I a i/\φ[r]?\[a]
section
variable{c:Cx}{C:Call}{d:Nat}{φ:Pl}{A:Around}{s:Shared}{σ:St}{env:Env}{sc:ű}{ρ:Loc}
theorem nT.tk{I:Addr}{h h':Heap}(k:nT I h h')(hT:∀vs n,h.get? I≠some (ģ vs n)):Tk h h':=λ b vs n e=>k b _ (λ z=>hT vs n (z▸e)) e
theorem Rel.out{h h':Heap}{I:Addr}(R:Rel c φ σ h)(k:nT I h h')(hI:I∉φ.flatten)(JA:c.H0.get? I=none)(hT:∀vs n,h.get? I≠some (ģ vs n)):Rel c φ σ h':=⟨R.len,λ i o e=>(R.objs i o e).elim λ as x=>⟨as,x.1,x.2.ý (k.tk hT) λ q hq o e=>k _ _ (λ z=>hI (z▸ŏ x.1 hq)) e⟩,R.nodup,R.above,λ b o e=>k _ _ (λ z=>Ħ e (z▸JA)) (R.e9 b o e),R.full⟩
theorem sC{o:Obj}{x:String}(hc:o.cls=.type x)(n:(x="tuple")->False)(vs:Array Value)(m:Nat)(e:some o\(ģ vs m)):False:=n (by have:=hc.symm^(Xq Obj.cls (Xn e));injection this)
theorem ã.obj{h:Heap}{I:Addr}{i:Nat}{k:SK}(x:ã c φ h I i k):∃o,h.get? I\o/\∀vs n,some o≠some (ģ vs n):=by
 cases k with
 |ù n=>exact⟨_,x,sC rfl (by decide)⟩
 |tup l=>exact x.elim λ a x=>x.elim λ vs x=>x.elim λ m x=>x.1.elim λ o y=>⟨o,y.1,sC y.2.1 (by decide)⟩
 |lst r len=>exact x.elim λ a x=>x.1.elim λ o y=>⟨o,y.1,sC y.2.1 (by decide)⟩
theorem ã.fh{h:Heap}{I:Addr}{i:Nat}{k:SK}(x:ã c φ h I i k)(vs n):h.get? I≠some (ģ vs n):=x.obj.elim λ o y=>y.1▸y.2 vs n
theorem ã.keep{h h':Heap}{ψ:Pl}{I:Addr}{i:Nat}{k:SK}(x:ã c φ h I i k)(kI:∀o,h.get? I\o->h'.get? I\o)(ht:Tk h h'):ã c (φ++ψ) h' I i k:=by
 cases k with
 |ù n=>exact kI _ x
 |tup l=>exact x.elim λ a x=>x.elim λ vs x=>x.elim λ m x=>x.1.elim λ o y=>⟨a,vs,m,⟨o,kI _ y.1,y.2⟩,ht _ _ _ x.2.1,x.2.2.mono ht⟩
 |lst r len=>exact x.elim λ a x=>x.1.elim λ o y=>⟨a,⟨o,kI _ y.1,y.2⟩,e_ x.2⟩
theorem uT(R:Rel c φ σ s.heap){I:Addr}{i:Nat}{k:SK}{v:V}(it:ã c φ s.heap I i k)(hi:i<k.src.len)(e:k.src.item i σ\v){Q:Option Value->Shared->Prop}
  (q:∀u h' tk,VR c φ h' v u->ã c φ h' I (i+1) k->Heap.SameBut I s.heap h'->Q (some u) {s with heap:=h',toks:=tk}):wpAny c.M A (pyNext (.ref I)) Q Ø s:=by
 have nt:=it.fh;have kb:∀{h'},Heap.SameBut I s.heap h'->nT I s.heap h':=λ sb b o hb e=>(sb.2 b hb)^e;cases k with
 |ù n=>
  refine wpAny_pyNext_range_item it (li [_,_] [] (.c 1 (.a (.v 0) (.k 1)) (.v 1) .e) 0 (.a (.k 0) (.k 1)) (.s (.n (.v 1)) (.n (.v 0))) rfl hi) λ h' hit sb=>q _ _ _ (Xn e▸⟨_,rfl⟩) ?_ sb;show IsRangeIter h' I ((i:Int)+1) ((n:Int) -((i:Int)+1)) 1;exact(show(n:Int) -((i:Int)+1)=(n:Int) - i - 1 from iq [_,_] [] (.s (.n (.v 0)) (.a (.n (.v 1)) (.k 1))) (.s (.s (.n (.v 0)) (.n (.v 1))) (.k 1)) rfl).symm▸hit
 |tup l=>
  exact it.elim λ a x=>x.elim λ vs x=>x.elim λ m x=>(x.2.2.at e).elim λ u y=>wpAny_pyNext_tuple_item x.1 ⟨_,x.2.1,rfl,m,rfl⟩ y.1 λ h' hit sb=>
   q _ _ s.toks (y.2.ý ((kb sb).tk nt)) ⟨a,vs,m,hit,(kb sb).tk nt _ _ _ x.2.1,x.2.2.ý ((kb sb).tk nt)⟩ sb
 |lst r len=>
  exact it.elim λ a x=>aE (show ol (σ.get r) (λ l'=>l'[i]?)\v from e) λ l hl e=>R.listE (P:=λ u=>u=.ref a->wpAny c.M A (pyNext (.ref I)) Q Ø s) hl ⟨a,[],x.2,rfl⟩ (λ a' vs n p g Ĥ _ w=>(Ĥ.at e).elim λ u y=>
   wpAny_pyNext_list_item x.1 ⟨_,Ň w▸g,rfl,n,rfl⟩ y.1 λ h' hit sb=>q _ _ s.toks (y.2.ý ((kb sb).tk nt)) ⟨a,hit,x.2⟩ sb) rfl
theorem AP{us:Array Value}{n:Nat}(h:us.size=n):us[n]?=none:=Array.getElem?_eq_none (XB h)
theorem uU(hh:A.handled=none)(R:Rel c φ σ s.heap){I:Addr}{k:SK}(it:ã c φ s.heap I k.src.len k)(e:k.src.fin σ=true){Q:Option Value->Shared->Prop}
  (q:∀h',Heap.ExtBut I s.heap h'->Q none {s with heap:=h'}):wpAny c.M A (pyNext (.ref I)) Q Ø s:=by
 cases k with
 |ù n=>exact wpAny_pyNext_range_end hh it (by show(n:Int) -(n:Nat)<=0;exact li [_] [] .e 0 (.s (.n (.v 0)) (.n (.v 0))) (.k 0) rfl) q
 |tup l=>exact it.elim λ a x=>x.elim λ vs x=>x.elim λ m x=>wpAny_pyNext_tuple_end hh x.1 ⟨_,x.2.1,rfl,m,rfl⟩ (AP x.2.2.size) q
 |lst r len=>
  exact it.elim λ a x=>aE (Zy (show(ol (σ.get r) (λ l'=>some l'.length)==some len)=true from e)) λ l hl e=>R.listE (P:=λ u=>u=.ref a->wpAny c.M A (pyNext (.ref I)) Q Ø s) hl ⟨a,[],x.2,rfl⟩ (λ a' vs n p g Ĥ _ w=>
   wpAny_pyNext_list_end hh x.1 ⟨_,Ň w▸g,rfl,n,rfl⟩ (AP (Ĥ.size^(Xn e))) q) rfl
theorem nU{ù:Bool}{v:V}{src:Src}{P:Src->Prop}(e:bq σ ù v\src)(k1:∀n,ù=true->v=.int n->0<=n->n.toNat<=lim->P (SK.ù n.toNat).src)(k2:∀l,ù=false->v=.tup l->l.length<=lim->P (SK.tup l).src)
  (k3:∀r l,ù=false->v=.ref r->σ.get r\(.list l)->l.length<=lim->P (SK.lst r l.length).src):P src:=
 mG e (λ n h e=>ñ e λ q e=>Xn e▸k1 n q.1 h q.2.1 q.2.2) (λ l h e=>ñ e λ q e=>ñ e λ q' e=>Xn e▸k2 l q h q') λ r h e=>ñ e λ q e=>aE e λ l hl e=>ñ e λ q' e=>Xn e▸k3 r l q h hl q'
def AQ(c:Cx)(φ:Pl)(s:Shared)(ç:St)(src:Src):Value->Shared->Prop:=λ it s₂=>∃Á k I,src=k.src/\k.src.len<=lim/\it=.ref I/\Step [] φ Á s s₂/\Rel c Á ç s₂.heap/\ã c Á s₂.heap I 0 k/\s.heap.get? I=none/\I∉Á.flatten/\c.H0.get? I=none
theorem qk{I:Addr}(R:Rel c Á σ Â.heap)(st:Step [] φ Á s Â)(hI:Â.heap.get? I=none):s.heap.get? I=none/\I∉Á.flatten/\c.H0.get? I=none:=⟨none_of (st.alive I) hI,R.fresh hI⟩
theorem ql{e:E}(ih:IE c C d e){iter:Expr}(O:On c d A env sc ρ φ s σ)(hc:ï c.T sc e iter=true){v:V}{ç:St}{src:Src}
  (U:Ä c.sig C ρ e σ\(v,ç)) (h2:bq ç false v\src):wpAny c.M A (eval iter env) (λ xv Â=>wpAny c.M A (pyIter xv) (AQ c φ s ç src) Ø Â) Ø s:=
 ih.on O hc U λ u Â Á st Ù hv=>
  have hI:=qk Ù.R st (get_none (XS Â.heap.objs.size));have kp:∀o b o',Â.heap.get? b\o'->(Â.heap.push o).get? b\o':=λ o b o' e=>X7 _ e
  nU (P:=λ src=>wpAny c.M A (pyIter u) (AQ c φ s ç src) Ø Â) h2 (λ _ e=>ft e)
   (λ l _ h hz=>(h▸hv:VR c Á Â.heap (.tup l) u).ff (P:=λ u=>wpAny c.M A (pyIter u) (AQ c φ s ç (SK.tup l).src) Ø Â) λ a vs n g Ĥ=>wpAny_pyIter_tuple ⟨_,g,rfl,n,rfl⟩ ⟨Á,_,_,rfl,hz,rfl,st^(Step.ē (kp _)),Ù.R.ē (kp _),⟨a,vs,n,⟨_,Yu _ rfl,rfl,rfl⟩,kp _ _ _ g,Ĥ.ý λ _ _ _ e=>kp _ _ _ e⟩,hI⟩)
   λ r l _ h hl hz=>Ù.R.listE (P:=λ u=>wpAny c.M A (pyIter u) (AQ c φ s ç (SK.lst r l.length).src) Ø Â) hl (h▸hv) λ a vs n p g Ĥ _=>wpAny_pyIter_list ⟨_,g,rfl,n,rfl⟩ ⟨Á,_,_,rfl,hz,rfl,st^(Step.ē (kp _)),Ù.R.ē (kp _),⟨a,⟨_,Yu _ rfl,rfl,rfl⟩,p⟩,hI⟩
theorem Nj{n:Int}(h:0<=n):Builtin.Range.rangeSize 0 n 1=(n.toNat:Int):=by
 rw[rangeSize_one];split
 ·exact(Int.sub_zero n).trans (Xy h).symm
 ·rename_i q;exact(Int.toNat_eq_zero.mpr (Yc.mp q))▸rfl
theorem AR(S:ă c){e:E}(ih:IE c C d e){r:Nat}{id:Str}{np p:Pos}{a:Expr}(O:On c d A env sc ρ φ s σ)(hg:eZ c.T sc r id=true)(WK:c.T.gl r=some .range)(hs:isStar a=false)(hc:ï c.T sc e a=true){v:V}{ç:St}{src:Src}
  (U:Ä c.sig C ρ e σ\(v,ç)) (h2:bq ç true v\src):wpAny c.M A (eval (.Call (.Name id np) [a] [] p) env) (λ xv Â=>wpAny c.M A (pyIter xv) (AQ c φ s ç src) Ø Â) Ø s:=
 ZX (kU S O hg (S.Sv r WK).1 (S.Sv r WK).2 (show wpAny c.M A (callWith p (.type "range") [] (backTo p (starEach [a] env)) []) _ _ _ from(Ũ (env:=env) (xs:=[]) hs).symm▸callWith_type1 (t:=eval a env) (ih.on O hc U λ u Â Á st Ù hv=>
  nU (P:=λ src=>wpAny c.M A (call (.type "range") [u]) (λ xv Â=>wpAny c.M A (pyIter xv) (AQ c φ s ç src) Ø Â) Ø Â) h2
   (λ n _ h hn hz=>(h▸hv:VR c Á Â.heap (.int n) u).Ŷ (P:=λ u=>wpAny c.M A (call (.type "range") [u]) (λ xv Â=>wpAny c.M A (pyIter xv) (AQ c φ s ç (SK.ù n.toNat).src) Ø Â) Ø Â) λ t=>
    have kp:∀o o' b q,Â.heap.get? b\q->((Â.heap.push o).push o').get? b\q:=λ o o' b q e=>X7 _ (X7 _ e)
    call_range_1 (wpAny_pyIter_range (IsRange.new ..) (small_one (by decide) (by decide) (YZ (by decide) hn) (li [_] [_] (.c 1 (.v 0) (.k 100000) (.i 1 (.v 0) (.n (.v 0)) .e)) 0 (.a (.v 0) (.k 1)) (.k 4611686018427387904) rfl hz (XU _)))
     ⟨Á,.ù n.toNat,_,rfl,hz,rfl,st^(Step.ē (kp _ _)),Ù.R.ē (kp _ _),(Nj hn▸Yu _ rfl),qk Ù.R st (get_none jo)⟩))
   (λ l e=>tf e) λ r l e=>tf e)))
end
end
end Mine
namespace Mine
open PySem PySem.W PyProof.Rows PySem.Calls PySem.SeqAt
noncomputable section
section
variable{c:Cx}{C:Call}{d:Nat}{φ:Pl}{A:Around}{s:Shared}{σ:St}{env:Env}{sc:ű}{ρ:Loc}
variable{α:Type}
theorem uV(a b:Str):seq a b=(a==b):=by rw[Ze,ZW];exact aam
theorem Ĭ(l:ű)(x:Str):Đ l x=l.lookup x:=by
 induction l with
 |nil=>rfl
 |cons p r ih=>
  show(match seq x p.1 with|true=>some p.2|false=>Đ r x)=(match x==p.1 with|true=>some p.2|false=>r.lookup x);rw[uV,ih]
theorem bE{full l:ű}:freeOk full l=true->∀y∈l,(y.2=.free->Đ full y.1=some .cell)/\y.2≠.cell:=by
 induction l with
 |nil=>exact λ _ _ h=>nomatch h
 |cons p r ih=>
  exact λ h y hy=>(XE.mp hy).elim (λ e=>e▸if q:p.2=.free then ⟨λ _=>nO ((XR q).symm.trans (an h).1),λ q'=>absurd (q.symm^q') (by decide)⟩else ⟨λ q'=>absurd q' q,XA ((XW q).symm.trans (an h).1)⟩) (ih (an h).2 y)
theorem aB{x:Str}{full l:ű}:Ĵ x full l=true->∀y∈l,y.2=.local->(y.1=x\/y.1=⟨#[46,48]⟩)/\Đ full y.1=some .local:=by
 induction l with
 |nil=>exact λ _ _ h=>nomatch h
 |cons p r ih=>
  exact λ h y hy q=>(XE.mp hy).elim (λ e=>e▸have z:=an ((XR (e▸q)).symm.trans (an h).1);⟨(Bool.or_eq_true_iff.mp z.1).imp seq_eq seq_eq,nO z.2⟩) λ hy=>ih (an h).2 y hy q
theorem iA{n m:Str}{a b:α}{l:List (Str×α)}{P:Prop}(h:((n,a)::l).lookup m\b)(k:m=n->a=b->P)(k':l.lookup m\b->P):P:=by
 rw[YR]at h;split at h
 ·rename_i e;exact k (Zy e) (Xn h)
 ·exact k' h
theorem lookup_mem{n:Str}{k:NameKind}{l:ű}:l.lookup n\k->(n,k)∈l:=by
 induction l with
 |nil=>exact λ h=>nomatch h
 |cons p r ih=>exact λ h=>iA h (λ e e'=>e▸e'▸X2 ..) λ h=>XM _ (ih h)
theorem sD{ns:ű}(hc:∀n,(n,NameKind.free)∈ns->∃a,env.cells.lookup n\a){l:ű}:∀(cs:List (Str×Addr)),(∀y∈l,y∈ns)->
  ∃
   cl,(forIn l cs (fun(x:Str×NameKind) (cs:List (Str×Addr))=>if x.2==NameKind.free then (do let a<-cellOf env x.1;pure (ForInStep.yield ((x.1,a)::cs)))else (pure (ForInStep.yield cs):Sem _)))=pure cl
   /\(∀n a,cl.lookup n\a->cs.lookup n\a\/env.cells.lookup n\a)/\(∀n,(n,NameKind.free)∈l\/(cs.lookup n).isSome=true->(cl.lookup n).isSome=true):=by
 induction l with
 |nil=>exact λ cs _=>⟨cs,rfl,λ n a h=>.inl h,λ n h=>h.resolve_left nofun⟩
 |cons p r ih=>
  intro cs hs;have WL:=λ y hy=>hs y (XM _ hy);rw[aa7];by_cases hk:p.2=.free
  ·refine(hc p.1 (hk▸hs _ (X2 ..))).elim λ a ha=>(ih ((p.1,a)::cs) WL).elim λ cl z=>
    ⟨cl,?_,λ m b hb=>(z.2.1 m b hb).elim (λ q=>iA q (λ e e'=>.inr (e▸e'▸ha)) .inl) .inr,λ m hm=>z.2.2 m (hm.elim (λ hm=>(XE.mp hm).elim (λ e=>.inr ?_) .inl) λ hm=>.inr ?_)⟩
   ·rw[XR (ZW.mpr hk),show cellOf env p.1=pure a by unfold cellOf;rw[ha],aah,aah];exact z.1
   ·rw[YR,show(m==p.1)=true from ZW.mpr (Xq Prod.fst e)];rfl
   ·rw[YR];split<;>first|rfl|exact hm
  ·refine(ih cs WL).elim λ cl z=>⟨cl,?_,z.2.1,λ m hm=>z.2.2 m (hm.elim (λ hm=>(XE.mp hm).elim (λ e=>absurd (Xq Prod.snd e).symm hk) .inl) .inr)⟩;rw[XW (λ e=>hk (ZW.mp e)),aah];exact z.1
theorem eJ{scope:Scope}(hc:∀n,(n,NameKind.free)∈scope.names->∃a,env.cells.lookup n\a):∃cl,closureFor scope env=pure cl/\(∀n a,cl.lookup n\a->env.cells.lookup n\a)/\(∀n,(n,NameKind.free)∈scope.names->(cl.lookup n).isSome=true):=(sD hc [] (λ y hy=>hy)).elim λ cl z=>⟨cl,by simp only[closureFor];rw[z.1,aah],λ n a h=>(z.2.1 n a h).resolve_left nofun,λ n h=>z.2.2 n (.inl h)⟩
def AS(env:Env)(x:Str)(k:NameKind):NameKind:=if (k==NameKind.free&&env.scope.kind==.function&&env.kindOf x==some .cell)then .cell else k
theorem k6{env:Env}(l:ű)(x:Str):(l.map fun(n,k)=>if (k==NameKind.free&&env.scope.kind==.function&&env.kindOf n==some .cell)then (n,NameKind.cell)else (n,k)).lookup x=(l.lookup x).map (AS env x):=by
 induction l with
 |nil=>rfl
 |cons p r ih=>
  have e:∀b:Bool,(if b=true then (p.1,NameKind.cell)else p)=(p.1,if b=true then .cell else p.2):=λ b=>by cases b<;>rfl
  show List.lookup x ((if (p.2==NameKind.free&&env.scope.kind==.function&&env.kindOf p.1==some .cell)=true then (p.1,NameKind.cell)else p)::_)=Option.map _ (List.lookup x ((p.1,p.2)::r));rw[e,YR,YR,ih];cases hx:x==p.1 with
  |true=>rw[Zy hx];rfl
  |false=>rfl
theorem bh(scope:Scope)(cl:List (Str×Addr))(L:Addr)(x:Str):(compEnvC scope cl L env).kindOf x=(scope.names.lookup x).map (AS env x):=k6 scope.names x
theorem wJ(hf:env.scope.kind=.function){x:Str}(h:env.kindOf x=some .cell):AS env x .free=.cell:=XR (by rw[hf,h];rfl)
theorem nV{x:Str}{k k':NameKind}{P:Prop}(h:AS env x k=k')(a:k=.free->.cell=k'->P)(b:k=k'->P):P:=by
 unfold AS at h;split at h
 ·rename_i q;exact a (ZW.mp (an (an q).1).1) h
 ·exact b h
section
variable{scope:Scope}{cl:List (Str×Addr)}{L:Addr}{n:Str}
theorem AU(h:(compEnvC scope cl L env).kindOf n=some .local):(n,NameKind.local)∈scope.names:=â ((bh scope cl L n).symm.trans h) λ k hk e=>nV e (λ _ e=>nomatch e) λ e=>lookup_mem (e▸hk)
theorem mj(aD:freeOk sc scope.names=true)(h:(compEnvC scope cl L env).kindOf n=some .cell):(n,NameKind.free)∈scope.names:=â ((bh scope cl L n).symm.trans h) λ k hk e=>nV e (λ e _=>lookup_mem (e▸hk)) λ e=>absurd e (bE aD _ (lookup_mem hk)).2
theorem dC(hK:r6 env sc)(aD:freeOk sc scope.names=true)(h:(n,NameKind.free)∈scope.names):env.kindOf n=some .cell:=by have:=hK n;rw[(bE aD _ h).1 rfl]at this;exact this
theorem qm(hf:env.scope.kind=.function)(hK:r6 env sc)(aD:freeOk sc scope.names=true):r6 (compEnvC scope cl L env) scope.names:=by
 intro n;rw[bh,Ĭ];cases h:scope.names.lookup n with
 |none=>trivial
 |some k=>
  cases k with
  |«local»=>rfl
  |cell=>exact absurd rfl (bE aD _ (lookup_mem h)).2
  |free=>exact Xq some (wJ hf (dC hK aD (lookup_mem h)))
  |globalExplicit=>trivial
  |globalImplicit=>rfl
theorem fj{x y:Nat}{v w:V}{P:Prop}(e:(ρ.set x v) y\w)(a:y=x->v=w->P)(b:y≠x->ρ y\w->P):P:=by
 unfold Loc.set at e;split at e
 ·rename_i q;exact a q (Xn e)
 ·rename_i q;exact b q e
theorem Ej(S:ă c){h:Heap}{m:Str->Option Value}{x:Nat}{v:V}{u:Value}(F:FR c φ env ρ h)(hK:r6 env sc)(aD:freeOk sc scope.names=true)(iB:Ĵ (c.T.nm x) scope.names scope.names=true)(ő:scope.kind=.function)
  (hx:scope.names.lookup (c.T.nm x)=some .local) (xf:(∀n a,cl.lookup n\a->env.cells.lookup n\a)/\(∀n,(n,NameKind.free)∈scope.names->(cl.lookup n).isSome=true))
  (hL:h.Ns L m) (hm:m (c.T.nm x)\u) (hu:VR c φ h v u) (JB:c.H0.get? L=none) (hLo:L∉φ.flatten) (hLc:∀n a,env.cells.lookup n\a->a≠L):FR c φ (compEnvC scope cl L env) (ρ.set x v) h where
 fn:=ő
 glob:=F.glob
 blt:=F.blt
 lo:=JB
 out:=hLo
 ns:=⟨m,hL,λ y w e k=>(aB iB _ (AU k) rfl).1.elim (λ q=>fj e (λ e1 e2=>⟨u,e1▸hm,e2▸hu⟩) λ n _=>absurd (S.DS _ _ q) n) λ q=>absurd q (S.FX y)⟩
 cells n a e:=have z:=F.cells n a (xf.1 n a e);⟨z.1,hLc _ _ (xf.1 n a e),z.2.2⟩
 apart n m' a e1 e2:=F.apart n m' a (xf.1 _ _ e1) (xf.1 _ _ e2)
 has n k:=X_.mp (xf.2 n (mj aD k))
 cZ y w a e k l:=fj e (λ e1 _=>â ((bh scope cl L _).symm.trans k) λ k0 h0 e=>nV e (λ e _=>absurd (Xn (hx.symm^(e1▸h0))) (e▸by decide)) λ e=>absurd (Xn (hx.symm^(e1▸h0))) (e▸by decide)) λ _ e=>F.cZ y w a e (dC hK aD (mj aD k)) (xf.1 _ _ l)
end
end
end
end Mine
namespace Mine
open PySem PySem.W PyProof.Rows PySem.Calls PySem.SeqAt
noncomputable section
section
variable{c:Cx}{C:Call}{d:Nat}{φ:Pl}{A:Around}{s:Shared}{σ:St}{env:Env}{sc:ű}{ρ:Loc}
variable{vs:Array Value}{j:Nat}{α:Type}
theorem nW{h:Heap}{L:Addr}{m}(x:h.Ns L m):∃o,h.get? L\o/\∀vs n,o≠ģ vs n:=x.elim λ o x=>x.elim λ es x=>x.elim λ ep x=>⟨o,x.1,λ vs n q=>by have:=x.2.1;rw[q]at this;exact nomatch this⟩
theorem bj{h:Heap}{L:Addr}{m}(x:h.Ns L m)(vs n):h.get? L≠some (ģ vs n):=(nW x).elim λ o y q=>y.2 vs n (Xn (y.1.symm^q))
theorem ã.step{ð:Pl}{s':Shared}{I:Addr}{i:Nat}{k:SK}(x:ã c φ s.heap I i k)(hI:I∉φ.flatten)(st:Step [] φ ð s s'):ã c ð s'.heap I i k:=st.ext.elim λ ψ h=>h.1▸x.keep (st.get hI) st.tup
theorem ã.out{h h':Heap}{I ZZ_:Addr}{i:Nat}{k:SK}(x:ã c φ h I i k)(kk:nT ZZ_ h h')(wX:I≠ZZ_)(nt:∀vs n,h.get? ZZ_≠some (ģ vs n)):ã c φ h' I i k:=FT (P:=λ φ=>ã c φ h' I i k) (x.keep (λ zz=>kk I zz wX) (kk.tk nt))
theorem AV{env:Env}{xs:List Expr}{s:Shared}{Q:Bool->Shared->Prop}{E:Value->Shared->Prop}(h:Q false s):wpAny c.M A (forIn xs false λ c r=>if r=true then do let ok<-isTrue c env (eval c env);pure (ForInStep.yield ok)else pure (ForInStep.yield r)) Q E s:=by
 induction xs with
 |nil=>exact XT h
 |cons x xs ih=>
  rw[aa7];exact XD (XT ih)
theorem JC{ifs:List E}(ih:∀e∈ifs,IT c C d e){E:Value->Shared->Prop}:∀{xs:List Expr} {φ:Pl} {s:Shared} {σ:St} {b:Bool} {Ú:St},On c d A env sc ρ φ s σ->æ c.T sc ifs xs=true->İ c.sig C ρ ifs σ\(b,Ú)->
  wpAny c.M A (forIn xs true λ c r=>if r=true then do let ok<-isTrue c env (eval c env);pure (ForInStep.yield ok)else pure (ForInStep.yield r)) (Gb c φ s Ú b) E s:=by
 induction ifs with
 |nil=>exact λ O hc ee=>have z:=YX (Xn ee);bR hc▸z.1▸z.2▸XT ⟨rfl,_,Step.refl _ _ _,O.R⟩
 |cons e l Sx=>
  intro xs φ s σ b Ú O hc ee;refine ų (P:=λ xs=>wpAny c.M A (forIn xs true λ c r=>if r=true then do let ok<-isTrue c env (eval c env);pure (ForInStep.yield ok)else pure (ForInStep.yield r)) (Gb c φ s Ú b) E s) hc λ x xs q1 q2 q3=>?_;rw[aa7];refine Ò (xJ.symm^ee) λ v ç U e'=>fw e' λ bb hb e'=>XD (XD (YV (ih e (X2 ..) O q2 (hb▸U)) (λ u Â z=>XT ?_) λ _ _ x=>x.elim));rw[z.1];refine z.2.elim λ Á w=>?_;clear U hb;cases bb with
  |true=>exact Ü (Sx (λ e he=>ih e (XM _ he)) (O.step w.1 w.2) q3 e') λ u s₂ y=>⟨y.1,y.2.elim λ Û y=>⟨Û,w.1.trans y.1,y.2⟩⟩
  |false=>have y:=YX (Xn e');exact y.1▸y.2▸AV ⟨rfl,Á,w.1,w.2⟩
theorem sF{h:Heap}{D:Addr}{n:Nat}(g:h.get? D\(Ť vs n))(us m):h.get? D≠some (ģ us m):=λ e=>kK (vs:=vs) (n:=n) (Xn (g.symm^e)▸rfl)
section
variable{fe:Loc->St->Option (V×St)}{fi:Loc->St->Option (Bool×St)}{x:Nat}{k:Src}{n i:Nat}{r:List V}{Ú:St}
theorem uW(e:compLoop fe fi ρ x k 0 i σ\(r,Ú)):k.fin σ=true/\r=[]/\σ=Ú:=ñ (show gd (k.fin σ=true) (some ([],σ))\(r,Ú)from e) λ h e=>have z:=YX (Xn e);⟨h,z.1.symm,z.2⟩
theorem uX{P:Prop}(e:compLoop fe fi ρ x k (n+1) i σ\(r,Ú))(k1:∀v ç,k.item i σ\v->fi (ρ.set x v) σ\(false,ç)->compLoop fe fi ρ x k n (i+1) ç\(r,Ú)->P)
  (k2:∀v ç y ŷ ys,k.item i σ\v->fi (ρ.set x v) σ\(true,ç)->fe (ρ.set x v) ç\(y,ŷ)->compLoop fe fi ρ x k n (i+1) ŷ\(ys,Ú)->r=y::ys->P):P:=
 í (show bo (k.item i σ) (λ v=>bo (fi (ρ.set x v) σ) λ p=>bif p.1 then ú (fe (ρ.set x v) p.2) (λ y s2=>ú (compLoop fe fi ρ x k n (i+1) s2) λ ys s3=>some (y::ys,s3))else compLoop fe fi ρ x k n (i+1) p.2)\(r,Ú)from e) λ v U e=>í e λ p h2 e=>
  Prod.casesOn (motive:=λ p=>fi (ρ.set x v) σ\p->(bif p.1 then ú (fe (ρ.set x v) p.2) (λ y s2=>ú (compLoop fe fi ρ x k n (i+1) s2) λ ys s3=>some (y::ys,s3))else compLoop fe fi ρ x k n (i+1) p.2)\(r,Ú)->P) p
   (λ b s1=>Bool.casesOn (motive:=λ b=>fi (ρ.set x v) σ\(b,s1)->(bif b then ú (fe (ρ.set x v) s1) (λ y s2=>ú (compLoop fe fi ρ x k n (i+1) s2) λ ys s3=>some (y::ys,s3))else compLoop fe fi ρ x k n (i+1) s1)\(r,Ú)->P) b (λ h2 e=>k1 v s1 U h2 e)
    λ h2 e=>Ò (show ú (fe (ρ.set x v) s1) (λ y s2=>ú (compLoop fe fi ρ x k n (i+1) s2) λ ys s3=>some (y::ys,s3))\(r,Ú)from e) λ y s2 h3 e=>Ò e λ ys s3 h4 e=>have z:=YX (Xn e);k2 v s1 y s2 ys U h2 h3 (z.2▸h4) z.1.symm) h2 e
end
structure TS (c:Cx) (I D L:Addr) (k:SK) (φ:Pl) (h:Heap) (i:Nat) (done:List V):Prop where
 it:ã c φ h I i k
 ds:∃vs n,h.get? D\(Ť vs n)/\ö c φ h done vs.toList
 ns:∃m,h.Ns L m
 nI:I∉φ.flatten
 nD:D∉φ.flatten
 nL:L∉φ.flatten
structure Ap (c:Cx) (I D L:Addr) (s:Shared):Prop where
 hI:s.heap.get? I=none
 hD:s.heap.get? D=none
 hL:s.heap.get? L=none
 I0:c.H0.get? I=none
 D0:c.H0.get? D=none
 L0:c.H0.get? L=none
 ID:I≠D
 IL:I≠L
 DL:D≠L
structure TW (c:Cx) (I D L:Addr) (k:SK) (φ:Pl) (s:Shared) (ð:Pl) (Ú:St) (s':Shared) (i:Nat) (done:List V):Prop where
 st:Step [] φ ð s s'
 R:Rel c ð Ú s'.heap
 T:TS c I D L k ð s'.heap i done
section
variable{I D L:Addr}{k:SK}{ð:Pl}{Ú:St}{s':Shared}{i:Nat}{done:List V}{h h':Heap}{tk:Nat}
theorem TS.step{Nk:Pl}{uY:Shared}(T:TS c I D L k ð s'.heap i done)(st:Step [] ð Nk s' uY):TS c I D L k Nk uY.heap i done where
 it:=T.it.step T.nI st
 ds:=T.ds.elim λ vs z=>z.elim λ n z=>⟨vs,n,st.get T.nD _ z.1,z.2.step st⟩
 ns:=T.ns.elim λ m z=>⟨m,ť z (st.get T.nL)⟩
 nI:=st.out T.nI T.it.obj.choose_spec.1
 nD:=T.ds.elim λ vs z=>z.elim λ n z=>st.out T.nD z.1
 nL:=T.ns.elim λ m z=>st.out T.nL (nW z).choose_spec.1
theorem TS.it'(a:Ap c I D L s)(T:TS c I D L k ð h i done)(kb:nT I h h')(it:ã c ð h' I j k):TS c I D L k ð h' j done where
 it:=it
 ds:=T.ds.elim λ vs z=>z.elim λ n z=>⟨vs,n,kb _ _ a.ID.symm z.1,z.2.ý (kb.tk T.it.fh)⟩
 ns:=T.ns.elim λ m z=>⟨m,ť z λ o e=>kb _ _ a.IL.symm e⟩
 nI:=T.nI
 nD:=T.nD
 nL:=T.nL
theorem TS.SG(a:Ap c I D L s)(T:TS c I D L k ð h i done)(kb:nT L h h')(nt:∀vs n,h.get? L≠some (ģ vs n)){m:Str->Option Value}(hm:h'.Ns L m):TS c I D L k ð h' i done where
 it:=T.it.out kb a.IL nt
 ds:=T.ds.elim λ vs z=>z.elim λ n z=>⟨vs,n,kb _ _ a.DL z.1,z.2.ý (kb.tk nt)⟩
 ns:=⟨m,hm⟩
 nI:=T.nI
 nD:=T.nD
 nL:=T.nL
theorem TW.mv{ZZ_:Addr}{dn:List V}(w:TW c I D L k φ s ð Ú s' i done)(hJ:s.heap.get? ZZ_=none)(hJ0:c.H0.get? ZZ_=none)(kb:nT ZZ_ s'.heap h')(nJ:ZZ_∉ð.flatten)(nt:∀vs n,s'.heap.get? ZZ_≠some (ģ vs n))(T:TS c I D L k ð h' j dn):TW c I D L k φ s ð Ú {s' with heap:=h',toks:=tk} j dn:=⟨w.st.bg kb hJ,w.R.out kb nJ hJ0 nt,T⟩
theorem Ģ{ZZ_:Addr}(sb:Heap.SameBut ZZ_ h h'):nT ZZ_ h h':=λ b o hb e=>(sb.2 b hb)^e
theorem TW.next(a:Ap c I D L s)(w:TW c I D L k φ s ð Ú s' i done)(hi:i<k.src.len){v:V}(hv:k.src.item i Ú\v){Q:Option Value->Shared->Prop}
  (q:∀u uY,TW c I D L k φ s ð Ú uY (i+1) done->VR c ð uY.heap v u->Q (some u) uY):wpAny c.M A (pyNext (.ref I)) Q Ø s':=
 uT w.R w.T.it hi hv λ u h' tk a1 a2 sb=>q u _ (w.mv a.hI a.I0 (Ģ sb) w.T.nI w.T.it.fh (w.T.it' a (Ģ sb) a2)) a1
theorem TW.store(a:Ap c I D L s)(S:ă c)(hK:r6 env sc)(F:FR c φ env ρ s.heap){x:Nat}{scope:Scope}{cl:List (Str×Addr)}(aD:freeOk sc scope.names=true)(iB:Ĵ (c.T.nm x) scope.names scope.names=true)(ő:scope.kind=.function)(hx:scope.names.lookup (c.T.nm x)=some .local)
  (xf:(∀n a,cl.lookup n\a->env.cells.lookup n\a)/\(∀n,(n,NameKind.free)∈scope.names->(cl.lookup n).isSome=true)) (w:TW c I D L k φ s ð Ú s' i done) {v:V} {u:Value} (hu:VR c ð s'.heap v u) {px:Pos} {Q:Unit->Shared->Prop} {E:Value->Shared->Prop}
  (q:∀uY,TW c I D L k φ s ð Ú uY i done->FR c ð (compEnvC scope cl L env) (ρ.set x v) uY.heap->Q () uY):wpAny c.M A (assign (.Name (c.T.nm x) px) (compEnvC scope cl L env) u) Q E s':=by
 refine w.T.ns.elim λ m hl=>aaP (wpAny_storeName_local (by rw[bh,hx];rfl) hl (λ SJ F9 AW=>?_) (by exact ő▸rfl));have nt:=bj hl;have Nl:TW c I D L k φ s ð Ú {s' with heap:=SJ,toks:=s'.toks+1} i done:=w.mv a.hL a.L0 (Ģ AW) w.T.nL nt (w.T.SG a (Ģ AW) nt F9)
 exact q _ Nl (Ej S (F.step Nl.st) hK aD iB ő hx xf F9 (XR rfl) (hu.ý ((Ģ AW).tk nt)) a.L0 w.T.nL λ n b hb e=>by subst e;refine O9 (F.cells n b hb) λ _ _ _ _ o ho _=>?_;exact ns (a.hL.symm^ho))
theorem TW.app(a:Ap c I D L s)(w:TW c I D L k φ s ð Ú s' i done)(hd:done.length<=lim){y:V}{u:Value}(hu:VR c ð s'.heap y u){Q:Value->Shared->Prop}{E:Value->Shared->Prop}
  (q:∀uY,TW c I D L k φ s ð Ú uY i (done++[y])->Q .none uY):wpAny c.M A (call (.builtin "list.append") [.ref D,u]) Q E s':=by
 refine w.T.ds.elim λ vs z=>z.elim λ n z=>wpAny_list_append_plain (hsz:=by rw[<-YL,z.2.length];exact Xp hd (by decide)) ⟨_,z.1⟩ λ aaa Nn qn=>?_;have nt:=sF z.1;refine Nn.elim λ q' Np=>q _ (w.mv a.hD a.D0 (Ģ qn) w.T.nD nt ⟨w.T.it.out (Ģ qn) a.ID nt,⟨_,q',Np,?_⟩,w.T.ns.elim λ m z=>⟨m,ť z λ o e=>Ģ qn _ _ a.DL.symm e⟩,w.T.nI,w.T.nD,w.T.nL⟩);rw[aaN];exact(z.2.ý ((Ģ qn).tk nt)).append (.cons (hu.ý ((Ģ qn).tk nt)) .nil)
end
structure TJ (c:Cx) (cl:Nat->Nat->St->Option (List V×St)) (I D L:Addr) (k:SK) (φ:Pl) (s:Shared) (ys:List V) (qo:St) (n:Nat) (s':Shared) (i:Nat) (done rest:List V) (Ú:St) (ð:Pl):Prop where
 len:i+n=k.src.len
 ev:cl n i Ú\(rest,qo)
 ys:ys=done++rest
 W:TW c I D L k φ s ð Ú s' i done
 le:done.length<=i
section
variable{cl:Nat->Nat->St->Option (List V×St)}{I D L:Addr}{k:SK}{ys:List V}{qo:St}
abbrev SM(c:Cx)(cl:Nat->Nat->St->Option (List V×St))(I D L:Addr)(k:SK)(φ:Pl)(s:Shared)(ys:List V)(qo:St)(n:Nat)(s':Shared):Prop:=∃i done rest Ú ð,TJ c cl I D L k φ s ys qo n s' i done rest Ú ð
end
theorem TJ.end{cl:Nat->Nat->St->Option (List V×St)}{I D L:Addr}{k:SK}{ys:List V}{qo:St}{Â:Shared}{i:Nat}{done rest:List V}{ě:St}{Á:Pl}(a:Ap c I D L s)(hh:A.handled=none)(hz:k.src.len<=lim)(t:TJ c cl I D L k φ s ys qo 0 Â i done rest ě Á)
  (h0:k.src.fin ě=true) (U:rest=[]) {Q:Option Value->Shared->Prop}
  (q:∀s' vs n m,Step [] φ Á s s'->Rel c Á ě s'.heap->s'.heap.get? D\(Ť vs n)->ö c Á s'.heap ys vs.toList->s'.heap.Ns L m->D∉Á.flatten->L∉Á.flatten->Q none s'):wpAny c.M A (pyNext (.ref I)) Q Ø Â:=by
 have w:=t.W;have it:ã c Á Â.heap I k.src.len k:=t.len▸w.T.it;refine uU hh w.R it h0 λ h' kb=>?_;refine w.T.ds.elim λ vs z=>z.elim λ n z=>w.T.ns.elim λ m zn=>?_;exact q {Â with heap:=h'} vs n m (w.st.bg kb a.hI) (w.R.out kb w.T.nI a.I0 w.T.it.fh) (kb _ _ a.ID.symm z.1) (t.ys▸U▸(XQ done).symm▸z.2.ý (nT.tk (I:=I) (h:=Â.heap) (h':=h') kb w.T.it.fh)) (ť zn λ o e=>kb _ _ a.IL.symm e) w.T.nD w.T.nL
theorem JD{ys a b b':List α}{y:α}(h:ys=a++b)(e:b=y::b'):ys=(a++[y])++b':=by rw[h,e,X4];rfl
theorem JE{a:List α}{y:α}{i:Nat}(h:a.length<=i):(a++[y]).length<=i+1:=by rw[Xr];exact aag h
theorem TJ.turn{fe:Loc->St->Option (V×St)}{fi:Loc->St->Option (Bool×St)}{x:Nat}{I D L:Addr}{k:SK}{ys:List V}{qo:St}{Â:Shared}{i j:Nat}{done rest:List V}{ě:St}{Á:Pl}{JF:Env}
  {pt:Sem Bool} {pe:Sem Value} (a:Ap c I D L s) (hz:k.src.len<=lim) (t:TJ c (compLoop fe fi ρ x k.src) I D L k φ s ys qo (j+1) Â i done rest ě Á) {pn:Sem (Option Value)} {pa:Value->Sem Unit} {E E' WM E3 E0:Value->Shared->Prop} {Q0:Option Value->Shared->Prop}
  (hq:∀
   v s',wpAny c.M A (pa v) (λ _ s₂=>wpAny c.M A pt (λ ok Ġ=>
   if ok=true then wpAny c.M A pe (λ u bk=>
    wpAny c.M A (call (.builtin "list.append") [.ref D,u]) (λ _ qp=>∃m,m<j+1/\SM c (compLoop fe fi ρ x k.src) I D L k φ s ys qo m qp) E3 bk) WM Ġ
   else ∃m,m<j+1/\SM c (compLoop fe fi ρ x k.src) I D L k φ s ys qo m Ġ) E' s₂) E s'->Q0 (some v) s')
  (hn:∀v Q,k.src.item i ě\v->(∀u s₂,TW c I D L k φ s Á ě s₂ (i+1) done->VR c Á s₂.heap v u->Q (some u) s₂)->wpAny c.M A pn Q E0 Â)
  (hs:∀v u s₂ Q,TW c I D L k φ s Á ě s₂ (i+1) done->VR c Á s₂.heap v u->(∀Ġ,TW c I D L k φ s Á ě Ġ (i+1) done->FR c Á JF (ρ.set x v) Ġ.heap->Q () Ġ)->wpAny c.M A (pa u) Q E s₂)
  (hi:∀v Ġ b k8 Q,Rel c Á ě Ġ.heap->FR c Á JF (ρ.set x v) Ġ.heap->fi (ρ.set x v) ě\(b,k8)->(∀u bk,Gb c Á Ġ k8 b u bk->Q u bk)->wpAny c.M A pt Q E' Ġ)
  (he:∀v Ġ bk Û k8 y AX Q,Step [] Á Û Ġ bk->Rel c Û k8 bk.heap->FR c Á JF (ρ.set x v) Ġ.heap->fe (ρ.set x v) k8\(y,AX)->(∀u qp,Gd c Û bk [] AX y u qp->Q u qp)->wpAny c.M A pe Q WM bk):
  wpAny c.M A pn Q0 E0 Â:=by
 have l1:i+1+j=k.src.len:=(aaT i j)^t.len;refine uX t.ev (λ v ŷ U h2 h3=>?_) λ v ŷ y BH ys' U h2 h3 h4 h5=>?_
 ·refine hn v _ U λ u s₂ w hu=>hq u s₂ (hs v u s₂ _ w hu λ Ġ w F=>hi v Ġ _ _ _ w.R F h2 λ b bk g=>?_);refine Kt g ?_;rintro rfl eK st R;exact⟨j,YA j,i+1,done,rest,ŷ,eK,l1,h3,t.ys,⟨w.st^st,R,w.T.step st⟩,aaM t.le⟩
 ·refine hn v _ U λ u s₂ w hu=>hq u s₂ (hs v u s₂ _ w hu λ Ġ w F=>hi v Ġ _ _ _ w.R F h2 λ b bk g=>?_);refine Kt g ?_;rintro rfl eK st R;refine he v Ġ bk eK ŷ y BH _ st R F h3 λ u qp g=>?_;refine gV g λ uZ Nq SN hw=>?_;have WN:=st^Nq;have w':TW c I D L k φ s uZ BH qp (i+1) done:=⟨w.st^WN,SN,w.T.step WN⟩;exact w'.app a (by have:=t.le;exact ln [_,_,_,_,_] [] (.c 1 (.v 0) (.v 1) (.c 1 (.a (.a (.v 2) (.k 1)) (.v 3)) (.v 0) (.c 1 (.v 4) (.v 2) .e))) 0 (.v 4) (.v 1) rfl hz (XB l1) this) hw λ uY w''=>⟨j,YA j,i+1,done++[y],ys',BH,uZ,l1,h4,JD t.ys h5,w'',JE t.le⟩
theorem sG(S:ă c){elt:E}{ifs:List E}(Nr:IE c C d elt)(Nt:∀e∈ifs,IT c C d e){x:Nat}{xe iter:Expr}{jd:List Expr}{px pos:Pos}{scope:Scope}{cl:List (Str×Addr)}{I D L:Addr}{k:SK}{ys:List V}{qo:St}{R:Result->Shared->Prop}
  (hA:ŵ A d) (hK:r6 env sc) (F:FR c φ env ρ s.heap)
  (aD:freeOk sc scope.names=true) (iB:Ĵ (c.T.nm x) scope.names scope.names=true) (ő:scope.kind=.function) (hx:scope.names.lookup (c.T.nm x)=some .local)
  (xf:(∀n a,cl.lookup n\a->env.cells.lookup n\a)/\(∀n,(n,NameKind.free)∈scope.names->(cl.lookup n).isSome=true))
  (ce:ï c.T scope.names elt xe=true) (ci:æ c.T scope.names ifs jd=true) (hz:k.src.len<=lim)
  (hI:s.heap.get? I=none) (hD:s.heap.get? D=none) (hL:s.heap.get? L=none) (JA:c.H0.get? I=none) (F8:c.H0.get? D=none) (JB:c.H0.get? L=none) (hID:I≠D) (hIL:I≠L) (Ek:D≠L)
  (fin:∀s' ð vs n m,Step [] φ ð s s'->Rel c ð qo s'.heap->s'.heap.get? D\(Ť vs n)->ö c ð s'.heap ys vs.toList->s'.heap.Ns L m->D∉ð.flatten->L∉ð.flatten->R (.ok .next) s')
  {ħ:Shared} {õ:Pl} {σ₀:St} {m₀:Str->Option Value} (ş:Step [] φ õ s ħ) (R₀:Rel c õ σ₀ ħ.heap) (Nu:ã c õ ħ.heap I 0 k) (d₀:ħ.heap.get? D\(Ť #[] 0)) (SO:ħ.heap.Ns L m₀)
  (oI:I∉õ.flatten) (oD:D∉õ.flatten) (oL:L∉õ.flatten)
  (ee:compLoop (λ Ð s'=>Ä c.sig C Ð elt s') (λ Ð s'=>İ c.sig C Ð ifs s') ρ x k.src k.src.len 0 σ₀\(ys,qo)):
  codeAny c.M A (.compLoop (.ListComp xe [⟨.Name (c.T.nm x) px,iter,jd,0⟩] scope pos) 0 (.ref I) (.ref D) (compEnvC scope cl L env)) R ħ:=by
 have a:Ap c I D L s:=⟨hI,hD,hL,JA,F8,JB,hID,hIL,Ek⟩
 refine codeAny_compLoop_tests (SM c (compLoop (λ Ð s'=>Ä c.sig C Ð elt s') (λ Ð s'=>İ c.sig C Ð ifs s') ρ x k.src) I D L k φ s ys qo) (λ j Â z=>?_) k.src.len
  ⟨0,[],ys,σ₀,õ,Zg _,ee,rfl,⟨ş,R₀,Nu,⟨_,_,d₀,.nil⟩,⟨_,SO⟩,oI,oD,oL⟩,XS _⟩
 refine z.elim λ i z=>z.elim λ done z=>z.elim λ rest z=>z.elim λ ě z=>z.elim λ Á t=>?_;clear z;cases j with
 |zero=>
  have e:=uW t.ev;exact YV (TJ.end a hA.handled hz t e.1 e.2.1 (Q:=λ r s'=>r=none/\R (.ok .next) s') λ s' vs n m b1 b2 b3 b4 b5 b6 b7=>⟨rfl,fin s' Á vs n m b1 (e.2.2▸b2) b3 b4 b5 b6 b7⟩) (λ r s' h=>h.1▸h.2) λ _ _ x=>x.elim
 |succ j=>
  exact t.turn a hz (λ u s' h=>h) (λ v Q hv q=>YV (TW.next a t.W (t.len▸Y7 (Y0 j)) hv q) (λ _ _ x=>x) λ _ _ x=>x.elim) (λ v u s₂ Q w hu q=>w.store a S hK F aD iB ő hx xf hu q)
   (λ v Ġ b k8 Q R F' h q=>Ü (JC Nt ⟨hA,qm F.fn hK aD,R,F'⟩ ci h) q)
   λ v Ġ bk Û k8 y AX Q st R F' h q=>YV (Nr ⟨hA,qm F.fn hK aD,R,F'.step st⟩ ce h) q λ _ _ (x:False)=>x.elim
theorem El{I:Addr}{i:Nat}{k:SK}(it:ã c φ s.heap I i k){E:Value->Shared->Prop}{Q:Value->Shared->Prop}(q:Q (.ref I) s):wpAny c.M A (pyIter (.ref I)) Q E s:=by
 cases k with
 |ù n=>exact wpAny_pyIter_rangeiter it q
 |tup l=>exact it.elim λ a x=>x.elim λ vs x=>x.elim λ m x=>wpAny_pyIter_tupleiter x.1 q
 |lst r len=>exact it.elim λ a x=>wpAny_pyIter_listiter x.1 q
theorem gN{fe:Loc->St->Option (V×St)}{fi:Loc->St->Option (Bool×St)}{x:Nat}{src:Src}{k:Nat}:∀{i:Nat} {s s':St} {ys:List V},compLoop fe fi ρ x src k i s\(ys,s')->ys.length<=k:=by
 induction k with
 |zero=>exact λ h=>(uW h).2.1▸XS _
 |succ k ih=>exact λ h=>uX h (λ _ _ _ _ h=>aaM (ih h)) λ _ _ _ _ _ _ _ _ h e=>e▸aag (ih h)
theorem k9(S:ă c){elt:E}{ifs:List E}(Nr:IE c C d elt)(Nt:∀e∈ifs,IT c C d e){x:Nat}{xe iter:Expr}{jd:List Expr}{px pos:Pos}{scope:Scope}{cl:List (Str×Addr)}{src:Src}{ys:List V}{σ₀ qo:St}{RR:Value->Addr->Result->Shared->Prop}
  (hA:ŵ A d) (hK:r6 env sc) (F:FR c φ env ρ s.heap)
  (aD:freeOk sc scope.names=true) (iB:Ĵ (c.T.nm x) scope.names scope.names=true) (ő:scope.kind=.function) (hx:scope.names.lookup (c.T.nm x)=some .local)
  (xf:(∀n a,cl.lookup n\a->env.cells.lookup n\a)/\(∀n,(n,NameKind.free)∈scope.names->(cl.lookup n).isSome=true))
  (ce:ï c.T scope.names elt xe=true) (ci:æ c.T scope.names ifs jd=true)
  (hRR:∀D L s' ð vs n m,Step [] φ ð s s'->Rel c ð qo s'.heap->s'.heap.get? D\(Ť vs n)->ö c ð s'.heap ys vs.toList->s'.heap.Ns L m->D∉ð.flatten->L∉ð.flatten->D≠L->s.heap.get? D=none->s.heap.get? L=none->c.H0.get? D=none->c.H0.get? L=none->RR (.ref D) L (.ok .next) s')
  {it:Value} {s₂:Shared} (hit:AQ c φ s σ₀ src it s₂)
  (ee:compLoop (λ Ð s'=>Ä c.sig C Ð elt s') (λ Ð s'=>İ c.sig C Ð ifs s') ρ x src src.len 0 σ₀\(ys,qo)):
  wpAny c.M A (PySem.newList []) (λ acc Ġ=>wpAny c.M A (newFunctionEnv scope env.globals cl [] env.qual none .none (some env)) (λ Nv bk=>
   codeAny c.M A (.compStart (.ListComp xe [⟨.Name (c.T.nm x) px,iter,jd,0⟩] scope pos) 0 it acc {Nv with scope:=relabel scope env}) (RR acc Nv.locals) bk) Ø Ġ) Ø s₂:=by
 refine Kr hit λ Û k I=>?_;rintro rfl hz rfl ô JG it₂ hI nI JA;have Nw:=λ y hy=>(bE aD y hy).2;refine wpAny_newObj_type (wpAny_newFunctionEnv Nw (by intro y hy;exact XR hy) (λ gK sH nX=>?_) ő);dsimp only at sH nX ⊢;have fD:=JG.fresh (get_none (XS s₂.heap.objs.size));have fL:=JG.fresh (get_none (Zj s₂.heap.objs.size));have hsz:(s₂.heap.push {cls:=.type "list",dict:=none,data:=.seq ([]:List Value).toArray}).objs.size=s₂.heap.objs.size+1:=by simp
 generalize WO:s₂.heap.push {cls:=.type "list",dict:=none,data:=.seq ([]:List Value).toArray}=H2 at sH nX hsz ⊢;have Ek:s₂.heap.objs.size<H2.objs.size:=by rw[hsz];exact YA _
 have below:∀a,s₂.heap.objs.size<=a->s.heap.get? a=none:=λ a ha=>none_of (ô.alive a) (get_none ha)
 have old:∀b o,s₂.heap.get? b\o->gK.get? b\o:=λ b o e=>by have gk:=aaw e;refine nX.extBut b o (Y9 (XN gk Ek)) (X7 _ (WO▸X7 _ e))
 have hd:gK.get? s₂.heap.objs.size\(Ť #[] 0):=nX.extBut _ _ (Y9 Ek) (X7 _ (WO▸Yu _ rfl));have ltI:I<s₂.heap.objs.size:=it₂.obj.elim λ o y=>aaw y.1;have nID:I≠s₂.heap.objs.size:=Y9 ltI;have nIL:I≠H2.objs.size:=Y9 (XN ltI Ek);have qq:ã c Û gK I 0 k:=FT (P:=λ φ=>ã c φ gK I 0 k) (it₂.keep (old _) λ _ _ _ e=>old _ _ e)
 have loop:∀Ġ:Shared,Ġ={s₂ with heap:=gK,toks:=s₂.toks+([]:List (Str×Value)).length}->
   codeAny c.M A (.compLoop (.ListComp xe [⟨.Name (c.T.nm x) px,iter,jd,0⟩] scope pos) 0 (.ref I) (.ref s₂.heap.objs.size) (compEnvC scope cl H2.objs.size env))
    (RR (.ref s₂.heap.objs.size) H2.objs.size) Ġ:=by
  rintro Ġ rfl;refine sG S Nr Nt (õ:=Û) (σ₀:=σ₀) hA hK F aD iB ő hx xf ce ci hz hI (below _ (XS _)) (below _ (XJ Ek)) JA fD.2 (by rw[hsz];exact fL.2) nID nIL (Y9 Ek) ?_ (ô^(Step.ē old)) (JG.ē old) ?_ hd sH nI fD.1 (by rw[hsz];exact fL.1) ee
  ·intro s' ð vs n m a1 a2 a3 a4 a5 a6 a7;exact hRR _ _ s' ð vs n m a1 a2 a3 a4 a5 a6 a7 (Y9 Ek) (below _ (XS _)) (below _ (XJ Ek)) fD.2 (by rw[hsz];exact fL.2)
  ·exact qq
 exact codeAny_compStart_list (loop _ rfl) (El (s:={s₂ with heap:=gK,toks:=s₂.toks+([]:List (Str×Value)).length}) qq (loop _ rfl))
theorem u1{elt:E}{x:Nat}{src:E}{ù:Option Nat}{ifs:List E}{y:Expr}{P:Expr->Prop}(hc:ï c.T sc (.comp elt x src ù ifs) y=true)
  (k:∀xe px iter jd scope p,scope.kind=.function->scope.names.lookup (c.T.nm x)=some .local->Ĵ (c.T.nm x) scope.names scope.names=true->freeOk sc scope.names=true->ï c.T scope.names elt xe=true->æ c.T scope.names ifs jd=true->
   Ki ù (!isSet iter&&ï c.T sc src iter) (λ r=>aA iter λ i _ as _=>one as λ a=>eZ c.T sc r i&&(iu (c.T.gl r)&&(!isStar a&&ï c.T sc src a)))=true->P (.ListComp xe [⟨.Name (c.T.nm x) px,iter,jd,0⟩] scope p)):P y:=
 pP hc λ xe gs sp p h=>kE (P:=λ gs=>P (.ListComp xe gs sp p)) h λ g=>by
  cases g with
  |mk t i f a=>
   exact λ h=>Ě (P:=λ t=>P (.ListComp xe [⟨t,i,f,a⟩] sp p)) h λ n q h=>
    have h:=eI h;have h':=Kj h.2.2.2;have e:=seq_eq h.2.1
    (XA h.1:a=0).symm▸e▸k xe q i f sp p (XA h.2.2.1) ((Ĭ ..).symm.trans (e▸nO h'.1)) (e▸h'.2.1) h'.2.2.1 h'.2.2.2.1 (an h'.2.2.2.2).1 (an h'.2.2.2.2).2
theorem qr{iter:Expr}(h:isSet iter=false):∀x,foldedSetIterable iter env x=pure x:=by intro x;cases iter<;>(first|rfl|(exact tf h;done))
theorem sI(S:ă c){src:E}(ih:IE c C d src){ù:Option Nat}{iter:Expr}(O:On c d A env sc ρ φ s σ)
  (hc:Ki ù (!isSet iter&&ï c.T sc src iter) (λ r=>aA iter λ i _ as _=>one as λ a=>eZ c.T sc r i&&(iu (c.T.gl r)&&(!isStar a&&ï c.T sc src a)))=true)
  {v:V} {ç:St} {sr:Src} (U:Ä c.sig C ρ src σ\(v,ç)) (h2:bq ç ù.isSome v\sr):
  (∀x,foldedSetIterable iter env x=pure x)/\wpAny c.M A (eval iter env) (λ xv Â=>wpAny c.M A (pyIter xv) (AQ c φ s ç sr) Ø Â) Ø s:=
 I3 (P:=λ ù iter=>bq ç ù.isSome v\sr->(∀x,foldedSetIterable iter env x=pure x)/\wpAny c.M A (eval iter env) (λ xv Â=>wpAny c.M A (pyIter xv) (AQ c φ s ç sr) Ø Â) Ø s) hc
  (λ a1 a2 h2=>⟨qr a1,ql ih O a2 U h2⟩) (λ r id np a p a1 a2 a3 a4 h2=>⟨λ _=>rfl,AR S ih O a1 a2 a3 a4 U h2⟩) h2
theorem u2{ù:Bool}{v:V}{src:Src}(e:bq σ ù v\src):src.len<=lim:=nU (P:=λ src=>src.len<=lim) e (λ _ _ _ _ h=>h) (λ _ _ _ h=>h) λ _ _ _ _ _ h=>h
theorem Em(S:ă c){elt:E}{x:Nat}{src:E}{ù:Option Nat}{ifs:List E}(Nr:IE c C d elt)(wo:IE c C d src)(Nt:∀e∈ifs,IT c C d e):IE c C d (.comp elt x src ù ifs):=fun {A env sc y φ s σ ρ r} O hc ee=>
 Ò (jB.symm^ee) λ v ç U ee=>í ee λ sr h2 ee=>Ò ee λ ys ŷ h3 ee=>u1 hc λ xe px iter jd scope p ő hx iB aD ce ci JH=>
  (eJ λ n hn=>O.F.has n (dC O.hK aD hn)).elim λ cl q=>have es:=sI S wo O JH U h2
  Xn ee▸sj (eval_ListComp ..) (wpAny_comprehension_free (use:=none) rfl es.1 q.1 ő (λ y hy e=>(Ĭ ..).symm.trans (aB iB y hy e).2) (Ü es.2 λ xv Â gK=>Ü gK λ it s₂ sx=>
   k9 S Nr Nt (RR:=λ acc L=>compPost c.M A Ø none (Gd c φ s [] (ŷ.new (.list ys)) (.ref ŷ.n)) acc L) O.hA O.hK O.F aD iB ő hx q.2 ce ci (λ D L s' ð vs n m st R' hD Ĥ hL nD nL OQ SP OS F8 JB=>
    ⟨m,hL,λ h' sb=>have kb:nT L s'.heap h':=Ģ sb;have nt:=bj hL
     Gd.fin (s₂:={s' with heap:=h'}) (st.bg kb OS) (R'.out kb nL JB nt) (λ _ _ _ e=>e) SP nD F8 (sF (kb _ _ OQ hD)) ⟨D,vs,n,rfl,kb _ _ OQ hD,Ĥ.ý (kb.tk nt),Xp (gN h3) (u2 h2)⟩⟩) sx h3))
theorem both{e:E}(h:IE c C d e)(hp:∀{sc x},ï c.T sc e x=true->PT x):IE c C d e/\IT c C d e:=⟨h,AF h hp⟩
theorem Ž(S:ă c)(hC:û c C d)(e:E):IE c C d e/\IT c C d e:=by
 refine E.rec (motive_1:=λ e=>IE c C d e/\IT c C d e) (motive_2:=λ l=>∀e∈l,IE c C d e/\IT c C d e) ?_ ?_ ?_ ?_ ?_ ?_ ?_ ?_ ?_ ?_ ?_ ?_ ?_ ?_ ?_ ?_ ?_ ?_ ?_ ?_ ?_ ?_ ?_ e
 ·exact λ v=>both (AB S v) λ h=>aY (P:=PT) h λ _ _ _ _ _ _=>rfl
 ·exact λ x=>both (Ja S x) λ h=>Ě (P:=PT) h λ _ _ _ _ _=>rfl
 ·exact λ x v=>both (D6 S x v) λ h=>Ě (P:=PT) h λ _ _ _ _ _=>rfl
 ·exact λ e x ih=>both (D7 S ih.1 x) λ h=>aZ (P:=PT) h λ _ _ _ _ _ _=>rfl
 ·exact λ e i ih oq=>both (Jc S ih.1 oq.1) λ h=>aq (P:=PT) h λ _ _ _ _ _ _=>rfl
 ·exact λ e lo hi ih=>both (AL S lo hi ih.1) λ h=>aq (P:=PT) h λ _ _ _ _ _ _=>rfl
 ·exact λ o a b ih oq=>both (Jd S o ih.1 oq.1) λ h=>nK (P:=PT) h λ _ _ _ _ _ _ _=>rfl
 ·exact λ a ih=>both (Je S ih.1) λ h=>iw (P:=PT) h λ o _ _ q=>XA (an q).1▸λ _ _=>rfl
 ·exact λ a ih=>⟨Jf S ih.1,Jl ih.2⟩
 ·exact λ l ih=>⟨Jk S λ e he=>(ih e he).1,Jo λ e he=>(ih e he).2⟩
 ·exact λ l ih=>⟨Nd S λ e he=>(ih e he).1,Nf λ e he=>(ih e he).2⟩
 ·exact λ o a b ih oq=>⟨Jg S o ih.1 oq.1,Jm S o ih.1 oq.1⟩
 ·exact λ x f l ih=>both (AG S hC x f (dB λ e he=>(ih e he).1)) λ h=>ł (P:=PT) h λ _ _ _ _ _ _ _=>rfl
 ·exact λ x f l ih=>both (Jv S hC x f (dB λ e he=>(ih e he).1)) λ h=>ł (P:=PT) h λ _ _ _ _ _ _ _=>rfl
 ·exact λ x f l ih=>both (Nh S x f (dB λ e he=>(ih e he).1)) λ h=>ł (P:=PT) h λ _ _ _ _ _ _ _=>rfl
 ·exact λ o x l ih oq=>both (Ed S hC x ih.1 λ e he=>(oq e he).1) λ h=>Ų (P:=PT) h λ _ _ _ _ _ _=>rfl
 ·exact λ l ih=>both (D9 S (dB λ e he=>(ih e he).1)) λ h=>kF (P:=PT) h λ _ _ _ _ _=>rfl
 ·exact λ l ih=>both (Jh S (dB λ e he=>(ih e he).1)) λ h=>gD (P:=PT) h λ _ _ _ _ _ _=>rfl
 ·exact λ ks l ih=>both (Ei S λ e he=>(ih e he).1) λ h=>kG (P:=PT) h λ _ _ _ _ _ _=>rfl
 ·exact λ elt x src ù ifs ih oq ih3=>both (Em S ih.1 oq.1 λ e he=>(ih3 e he).2) λ h=>pP (P:=PT) h λ _ _ _ _ _ _ _=>rfl
 ·exact λ a x ks ih=>⟨Ji S x ks ih.1,Jn S x ks ih.1⟩
 ·exact λ e he=>nomatch he
 ·exact λ x r U h2 e he=>(XE.mp he).elim (λ q=>q▸U) (h2 e)
end
end
end Mine
namespace Mine
open PySem PySem.W PyProof.Rows PySem.Calls PySem.SeqAt
noncomputable section
variable{Á:Pl}{Â:Shared}{ð:Pl}{s':Shared}{α:Type}
def own(env:Env):List Addr:=env.locals::env.cells.filterMap λ p=>env.cells.lookup p.1
def FlR(c:Cx)(φ:Pl)(h:Heap):Fl->Flow->Prop
 |.next,f=>f=.next
 |.ret v,f=>∃u,f=.ret u/\VR c φ h v u
def Gs(c:Cx)(φ:Pl)(s:Shared)(env:Env)(r:Fl×Loc×St):Flow->Shared->Prop:=λ f s'=>∃ð,Step (own env) φ ð s s'/\Rel c ð r.2.2 s'.heap/\FR c ð env r.2.1 s'.heap/\FlR c ð s'.heap r.1 f
def Es(c:Cx)(A:Around)(env:Env)(φ:Pl)(s:Shared)(r:Fl×Loc×St)(y:Stmt):Prop:=wpAny c.M A (exec y env) (Gs c φ s env r) Ø s
def IS(c:Cx)(C:Call)(d:Nat)(st:S):Prop:=∀{A env sc x φ s σ ρ r},On c d A env sc ρ φ s σ->IU c.T sc st x=true->ü c.sig C st ρ σ\r->Es c A env φ s r x
def AY(c:Cx)(C:Call)(d:Nat)(st:List S):Prop:=∀{A env sc x φ s σ ρ r},On c d A env sc ρ φ s σ->bQ c.T sc st x=true->Ê c.sig C st ρ σ\r->wpAny c.M A (execs x env) (Gs c φ s env r) Ø s
section
variable{c:Cx}{C:Call}{d:Nat}{φ:Pl}{A:Around}{s:Shared}{σ:St}{env:Env}{sc:ű}{ρ:Loc}
theorem Gs.up{r:Fl×Loc×St}(st:Step (own env) φ Á s Â){f:Flow}{s₂:Shared}(h:Gs c Á Â env r f s₂):Gs c φ s env r f s₂:=h.elim λ Û z=>⟨Û,st.trans z.1,z.2⟩
theorem Step.any{X:List Addr}(st:Step [] φ ð s s'):Step X φ ð s s':=st.mono λ _ h=>nomatch h
theorem Step.own{I:Addr}{h':Heap}{tk:Nat}{X:List Addr}(hI:I∈X)(kb:nT I s.heap h')(nt:∀vs n,s.heap.get? I≠some (ģ vs n))(al:(h'.get? I).isSome=true):Step X φ φ s {s with heap:=h',toks:=tk}:=⟨⟨[],(XQ φ).symm,λ _ h=>nomatch h⟩,λ b hb=>if q:b=I then q▸al else (X_.mp hb).elim λ o ho=>Ā (kb b o q ho),λ b o e _ m=>kb b o (λ q=>m (q▸hI)) e,kb.tk nt,rfl,rfl,rfl⟩
theorem fm:env.locals∈own env:=X2 ..
theorem sJ{l:List (Str×α)}{n:Str}{a:α}:l.lookup n\a->∃b,(n,b)∈l:=by
 induction l with
 |nil=>exact λ h=>nomatch h
 |cons p r ih=>exact λ h=>iA h (λ e _=>⟨p.2,e▸X2 ..⟩) λ h=>(ih h).elim λ b hb=>⟨b,XM _ hb⟩
theorem gQ{n:Str}{a:Addr}(h:env.cells.lookup n\a):a∈own env:=(sJ h).elim λ b hb=>XM _ (List.mem_filterMap.mpr ⟨(n,b),hb,h⟩)
theorem u3{a:Addr}{P:Prop}(h:a∈own env)(k:a=env.locals->P)(k':∀n,env.cells.lookup n\a->P):P:=(XE.mp h).elim k λ h=>(List.mem_filterMap.mp h).elim λ p z=>k' p.1 z.2
theorem qs{h:Heap}{a:Addr}{v:Option Value}(x:h.IsCell a v)(vs n):h.get? a≠some (ģ vs n):=x.elim λ o x e=>by have:=Xn (x.1.symm^e)▸x.2;exact nomatch this
theorem r6.assign(hK:r6 env sc){n:Str}(hs:ć (Đ sc n)=true):env.kindOf n=some .local\/env.kindOf n=some .cell:=by
 have h:=hK n;cases e:Đ sc n with
 |none=>rw[e]at hs;exact ft hs
 |some k=>
  rw[e]at h hs;cases k<;>first|exact .inl h|exact .inr h|exact ft hs
section
variable{I:Addr}{h h':Heap}{x:Nat}{v:V}{u:Value}
theorem FR.SQ(S:ă c)(F:FR c φ env ρ h)(kb:nT env.locals h h')(nt:∀vs n,h.get? env.locals≠some (ģ vs n))(hk:env.kindOf (c.T.nm x)=some .local){m m':Str->Option Value}(hm:∀x v,ρ x\v->env.kindOf (c.T.nm x)=some .local->∃u,m (c.T.nm x)\u/\VR c φ h v u)(hn:h'.Ns env.locals m')
  (m1:m' (c.T.nm x)\u) (m2:∀n,n≠c.T.nm x->m' n=m n) (hv:VR c φ h' v u):FR c φ env (ρ.set x v) h' where
 fn:=F.fn
 glob:=F.glob
 blt:=F.blt
 lo:=F.lo
 out:=F.out
 ns:=⟨m',hn,λ y w e k=>fj e (λ e1 e2=>⟨u,e1▸m1,e2▸hv⟩) λ n e=>(hm y w e k).elim λ z y'=>⟨z,(m2 _ λ h=>n (S.DS _ _ h)).trans y'.1,y'.2.ý (kb.tk nt)⟩⟩
 cells n a e:=have z:=F.cells n a e;⟨z.1,z.2.1,z.2.2.1,z.2.2.2.elim λ w c=>⟨w,ĵ c (λ zz=>kb a zz z.2.1)⟩⟩
 apart:=F.apart
 has:=F.has
 cZ y w a e k l:=fj e (λ e1 _=>absurd (hk.symm^(show env.kindOf (c.T.nm x)=some .cell from e1▸k)) (by decide)) λ _ e=>(F.cZ y w a e k l).elim λ z y'=>⟨z,ĵ y'.1 (λ zz=>kb a zz (F.cells _ _ l).2.1),y'.2.ý (kb.tk nt)⟩
theorem FR.setC(S:ă c)(F:FR c φ env ρ h)(kb:nT I h h')(nt:∀vs n,h.get? I≠some (ģ vs n))(hk:env.kindOf (c.T.nm x)=some .cell)(ha:env.cells.lookup (c.T.nm x)\I)(hc:h'.IsCell I (some u))(hv:VR c φ h' v u):FR c φ env (ρ.set x v) h' where
 fn:=F.fn
 glob:=F.glob
 blt:=F.blt
 lo:=F.lo
 out:=F.out
 ns:=F.ns.elim λ m z=>⟨m,ť z.1 (λ zz=>kb _ zz (Ne.symm (F.cells _ _ ha).2.1)),λ y w e k=>fj e (λ e1 _=>absurd (hk.symm^(show env.kindOf (c.T.nm x)=some .local from e1▸k)) (by decide)) λ _ e=>(z.2 y w e k).elim λ z y'=>⟨z,y'.1,y'.2.ý (kb.tk nt)⟩⟩
 cells n b e:=have z:=F.cells n b e;⟨z.1,z.2.1,z.2.2.1,if q:b=I then ⟨_,q▸hc⟩else z.2.2.2.elim λ w c=>⟨w,ĵ c (λ zz=>kb b zz q)⟩⟩
 apart:=F.apart
 has:=F.has
 cZ y w b e k l:=fj e (λ e1 e2=>⟨u,(Xn (ha.symm^(show env.cells.lookup (c.T.nm x)\b from e1▸l)))▸hc,e2▸hv⟩) λ n e=>(F.cZ y w b e k l).elim λ z y'=>⟨z,ĵ y'.1 (λ zz=>kb b zz λ q=>n (S.DS _ _ (F.apart _ _ _ l (q▸ha)))),y'.2.ý (kb.tk nt)⟩
end
theorem gS(S:ă c)(O:On c d A env sc ρ φ s σ){x:Nat}(hk:ć (Đ sc (c.T.nm x))=true){v:V}{u:Value}(hv:VR c φ s.heap v u){Q:Unit->Shared->Prop}
  (q:∀h' tk,Step (own env) φ φ s {s with heap:=h',toks:=tk}->On c d A env sc (ρ.set x v) φ {s with heap:=h',toks:=tk} σ->VR c φ h' v u->(∀b o,b∉own env->s.heap.get? b\o->h'.get? b\o)->Q () {s with heap:=h',toks:=tk}):
  wpAny c.M A (storeName env (c.T.nm x) u) Q Ø s:=
 (O.hK.assign hk).elim (λ hk=>O.F.ns.elim λ m z=>wpAny_storeName_local hk z.1 (λ h' WQ sb=>
   have nt:=bj z.1;have Nx:=hv.ý ((Ģ sb).tk nt)
   q h' _ (Step.own fm (Ģ sb) nt ((nW WQ).elim λ o y=>Ā y.1)) ⟨O.hA,O.hK,O.R.out (Ģ sb) O.F.out O.F.lo nt,O.F.SQ S (Ģ sb) nt hk z.2 WQ (XR rfl) (λ n e=>XW e) Nx⟩ Nx λ b o hb e=>Ģ sb b o (λ e=>hb (e▸fm)) e) (by rw[O.F.fn];rfl))
  λ hk=>(O.F.has _ hk).elim λ a ha=>have z:=O.F.cells _ _ ha;z.2.2.2.elim λ w hc=>wpAny_storeName_cell O.F.fn hk ha hc λ h' pC sb=>
   have nt:=qs hc;have Nx:=hv.ý ((Ģ sb).tk nt)
   q h' s.toks (Step.own (gQ ha) (Ģ sb) nt (pC.elim λ o y=>Ā y.1)) ⟨O.hA,O.hK,O.R.out (Ģ sb) z.1 z.2.2.1 nt,O.F.setC S (Ģ sb) nt hk ha pC Nx⟩ Nx λ b o hb e=>Ģ sb b o (λ e=>hb (e▸gQ ha)) e
theorem ľ(st:Step (own env) φ Á s Â)(O:On c d A env sc ρ Á Â σ):Gs c φ s env (.next,ρ,σ) .next Â:=⟨Á,st,O.R,O.F,rfl⟩
theorem lt2{o:fo}{P:fo->Prop}(h:o.ctorIdx<2)(a:P .add)(b:P .sub):P o:=by cases o<;>first|exact a|exact b|exact absurd h (by decide)
theorem nY{o:fo}{p:Operator}(ho:me o p=true){v k r:V}{u w:Value}(e:mE o v k\r)(hv:VR c φ s.heap v u)(hk:VR c φ s.heap k w):wpAny c.M A (inplaceOp p u w) (QP s (VR c φ s.heap r)) Ø s:=
 Ĺ e λ a h e=>Ĺ e λ b h' e=>ñ e λ hl e=>â e λ n hn e=>(h▸hv:VR c φ s.heap (.int a) u).Ŷ (P:=λ u=>wpAny c.M A (inplaceOp p u w) (QP s (VR c φ s.heap r)) Ø s) λ t=>(h'▸hk:VR c φ s.heap (.int b) w).Ŷ (P:=λ w=>wpAny c.M A (inplaceOp p (.int a t) w) (QP s (VR c φ s.heap r)) Ø s) λ t'=>
  XA ho▸e▸lt2 (P:=λ o=>binI o a b\n->wpAny c.M A (inplaceOp (zV o) (.int a t) (.int b t')) (QP s (VR c φ s.heap (.int n))) Ø s) hl (λ hn=>PyProof.Rows.iadd_int (QP.tok (Xn hn▸⟨_,rfl⟩))) (λ hn=>PyProof.Rows.isub_int (QP.tok (Xn hn▸⟨_,rfl⟩))) hn
theorem sM(value o:Expr)(a:Str)(p:Pos)(l:Nat):swapsWith value (some (.Attribute o a p)) l env=pure false:=by cases value<;>rfl
theorem wK(value o i:Expr)(p:Pos)(l:Nat):swapsWith value (some (.Subscript o i p)) l env=pure false:=by cases value<;>rfl
theorem k_{value:Expr}(h:ÿ value=false)(t:Option Expr)(l:Nat):swapsWith value t l env=pure false:=by cases value<;>(first|rfl|(exact tf h;done))
theorem En(S:ă c)(hC:û c C d)(e:E):IS c C d (.expr e):=λ O hc ee=>Ò (oE.symm^ee) λ v ç U ee=>Ab hc λ v' p q=>
 Xn ee▸wpAny_Expr_any (IE.on (Ž S hC e).1 O (an q).2 U λ u Â Á st Ù hv=>ľ st.any Ù) (by unfold interactive;rw[O.F.fn];rfl) (k_ (bn (an q).1) _ _)
theorem Eo(S:ă c)(hC:û c C d)(o:E)(y:Nat)(e:E):IS c C d (.mA o y e):=λ O hc ee=>Ò (oJ.symm^ee) λ v ç U ee=>Ò ee λ ov ŷ h2 ee=>â ee λ BH h3 ee=>jn hc λ t v' p q=>aZ (P:=λ t=>Es _ _ _ _ _ _ (.Assign [t] v' p)) q λ oe a ap q=>
 ee▸seq_eq (ŗ q).1▸plainObj_wpAny_Assign_Attribute (IE.on (Ž S hC e).1 O (ŗ q).2.2 U λ u Â Á st Ù hv=>IE.on (Ž S hC o).1 Ù (ŗ q).2.1 h2 λ w s₂ Û ô Ĝ hw=>
  Ü (uL S Ĝ.R h3 hw (hv.step ô)) λ _ Ġ x=>x.elim λ bS x=>ľ ((st^ô).trans x.1).any (Ĝ.step x.1 x.2)) (sM _ _ _ _ _)
end
end
end Mine
namespace Mine
open PySem PySem.W PyProof.Rows PySem.Calls PySem.SeqAt
noncomputable section
section
variable{c:Cx}{C:Call}{d:Nat}{φ:Pl}{A:Around}{s:Shared}{σ:St}{env:Env}{sc:ű}{ρ:Loc}
variable{ç:St}
theorem FR.change{h h':Heap}{I:Addr}(F:FR c φ env ρ h)(kb:nT I h h')(hI:I∉own env)(nt:∀vs n,h.get? I≠some (ģ vs n)):FR c φ env ρ h' where
 fn:=F.fn
 glob:=F.glob
 blt:=F.blt
 lo:=F.lo
 out:=F.out
 ns:=F.ns.elim λ m z=>⟨m,ť z.1 (λ zz=>kb _ zz λ e=>hI (e▸fm)),λ y w e k=>(z.2 y w e k).elim λ z y=>⟨z,y.1,y.2.ý (kb.tk nt)⟩⟩
 cells n a e:=have z:=F.cells n a e;⟨z.1,z.2.1,z.2.2.1,z.2.2.2.elim λ w c=>⟨w,ĵ c (λ zz=>kb a zz λ q=>hI (q▸gQ e))⟩⟩
 apart:=F.apart
 has:=F.has
 cZ y w a e k l:=(F.cZ y w a e k l).elim λ z y=>⟨z,ĵ y.1 (λ zz=>kb a zz λ q=>hI (q▸gQ l)),y.2.ý (kb.tk nt)⟩
theorem wL(F:FR c φ env ρ s.heap)(a)(ha:a∈own env):(s.heap.get? a).isSome=true:=u3 ha (λ e=>F.ns.elim λ m z=>(nW z.1).elim λ o y=>e▸Ā y.1) λ n hn=>(F.cells n a hn).2.2.2.elim λ v x=>x.elim λ o y=>Ā y.1
theorem u4(F:FR c φ env ρ s.heap){I:Addr}(hI:s.heap.get? I=none):I∉own env:=λ h=>ba (wL F I h) hI
theorem sN(value:Expr)(t:Str)(p:Pos)(l:Nat):swapsWith value (some (.Name t p)) l env=pure false\/swapsWith value (some (.Name t p)) l env=pure true:=by
 have key:∀b:Bool,(pure b:Sem Bool)=pure false\/(pure b:Sem Bool)=pure true:=λ b=>by cases b;exact .inl rfl;exact .inr rfl
 cases value<;>(first|exact .inl rfl|exact key _)
theorem mq(S:ă c)(hC:û c C d){y:Nat}{e:E}{v':Expr}{tp p:Pos}{v:V}(Ep:swapsWith v' (some (.Name (c.T.nm y) tp)) p.line env=pure false)(O:On c d A env sc ρ φ s σ)(hk:ć (Đ sc (c.T.nm y))=true)(hc:ï c.T sc e v'=true)(U:Ä c.sig C ρ e σ\(v,ç)):
  wpAny c.M A (exec (.Assign [.Name (c.T.nm y) tp] v' p) env) (Gs c φ s env (.next,ρ.set y v,ç)) Ø s:=
 wpAny_Assign_Name (IE.on (Ž S hC e).1 O hc U λ u Â Á st Ù hv=>gS S Ù hk hv λ h' tk a1 a2 a4 a5=>ľ (st.any^a1) a2) Ep
theorem AZ(S:ă c)(hC:û c C d){y:Nat}{elt:E}{x:Nat}{src:E}{ù:Option Nat}{ifs:List E}{v':Expr}{tp p:Pos}{r:V×St}(Ep:swapsWith v' (some (.Name (c.T.nm y) tp)) p.line env=pure true)(O:On c d A env sc ρ φ s σ)(hk:ć (Đ sc (c.T.nm y))=true)(hc:ï c.T sc (.comp elt x src ù ifs) v'=true)(U:Ä c.sig C ρ (.comp elt x src ù ifs) σ\r):
  wpAny c.M A (exec (.Assign [.Name (c.T.nm y) tp] v' p) env) (Gs c φ s env (.next,ρ.set y r.1,r.2)) Ø s:=
 Ò (jB.symm^U) λ v ç U ee=>í ee λ sr h2 ee=>Ò ee λ ys ŷ h3 ee=>u1 (P:=λ v'=>swapsWith v' (some (.Name (c.T.nm y) tp)) p.line env=pure true->wpAny c.M A (exec (.Assign [.Name (c.T.nm y) tp] v' p) env) (Gs c φ s env (.next,ρ.set y r.1,r.2)) Ø s) hc (λ xe px iter jd scope cp ő hx iB aD ce ci JH Ep=>by
  refine(eJ λ n hn=>O.F.has n (dC O.hK aD hn)).elim λ cl q=>?_;have es:=sI S (Ž S hC src).1 O JH U h2;refine Xn ee▸sj (exec_Assign_Name_used _ _ _ _ Ep) (XD (wpAny_standAt (XD ?_)));show wpAny _ A (do let _<-comprehension (.ListComp xe [⟨.Name (c.T.nm x) px,iter,jd,0⟩] scope cp) scope env _ (PySem.newList []) false (eval iter env) (some (assign (.Name (c.T.nm y) tp) env))) _ _ s;refine XD (Ü (wpAny_comprehension_free (use:=some (assign (.Name (c.T.nm y) tp) env)) (Q:=λ _ s'=>Gs c φ s env (.next,ρ.set y (.ref ŷ.n),ŷ.new (.list ys)) .next s') rfl es.1 q.1 ő (λ y hy e=>(Ĭ ..).symm.trans (aB iB y hy e).2) (Ü es.2 λ xv Â gK=>Ü gK λ it s₂ sx=>?_)) λ _ s' hq=>XT (XT hq));refine k9 S (Ž S hC elt).1 (λ e he=>(Ž S hC e).2) (RR:=λ acc L=>compPost c.M A Ø (some (assign (.Name (c.T.nm y) tp) env)) (λ _ s'=>Gs c φ s env (.next,ρ.set y (.ref ŷ.n),ŷ.new (.list ys)) .next s') acc L) O.hA O.hK O.F aD iB ő hx q.2 ce ci (λ D L s' ð vs n m st R' hD Ĥ hL nD nL OQ SP OS F8 JB=>?_) sx h3;have g:=Ni (o:=.list ys) (s₂:=s') st R' (λ _ _ _ e=>e) SP nD F8 (sF hD) ⟨D,vs,n,rfl,hD,Ĥ,Xp (gN h3) (u2 h2)⟩;have WR:L∉own env:=u4 O.F OS;show wpAny _ A (assign (.Name (c.T.nm y) tp) env (.ref D)) _ _ _
  exact aaP (gS S (O.step g.1 g.2.1) hk g.2.2 λ h' tk a1 a2 a4 a5=>
   have SR:=ť (h':=h') hL λ o e=>a5 _ _ WR e
   ⟨m,SR,λ Pb sb=>⟨_,(g.1.any^a1).bg (Ģ sb) OS,a2.R.out (Ģ sb) (λ q=>bz q nL λ q=>OQ (gE (mf q)).symm) JB (bj SR),a2.F.change (Ģ sb) WR (bj SR),rfl⟩⟩)) Ep
theorem Er{e:E}{y:Expr}(h:ï c.T sc e y=true)(hn:∀a b c d f,e≠.comp a b c d f):ÿ y=false:=by
 cases e with
 |const=>exact aY (P:=λ y=>ÿ y=false) h λ _ _ _ _=>rfl
 |loc=>exact Ě (P:=λ y=>ÿ y=false) h λ _ _ _=>rfl
 |glob=>exact Ě (P:=λ y=>ÿ y=false) h λ _ _ _=>rfl
 |attr=>exact aZ (P:=λ y=>ÿ y=false) h λ _ _ _ _=>rfl
 |sub=>exact aq (P:=λ y=>ÿ y=false) h λ _ _ _ _=>rfl
 |slice=>exact aq (P:=λ y=>ÿ y=false) h λ _ _ _ _=>rfl
 |bin=>exact nK (P:=λ y=>ÿ y=false) h λ _ _ _ _ _=>rfl
 |neg=>exact iw (P:=λ y=>ÿ y=false) h λ _ _ _ _=>rfl
 |not=>exact iw (P:=λ y=>ÿ y=false) h λ _ _ _ _=>rfl
 |and=>exact a_ (P:=λ y=>ÿ y=false) h λ _ _ _ _=>rfl
 |or=>exact a_ (P:=λ y=>ÿ y=false) h λ _ _ _ _=>rfl
 |cmp=>exact dw (P:=λ y=>ÿ y=false) h λ _ _ _ _ _=>rfl
 |BL=>exact dw (P:=λ y=>ÿ y=false) h λ _ _ _ _ _=>rfl
 |Ñ=>exact Ų (P:=λ y=>ÿ y=false) h λ _ _ _ _=>rfl
 |new=>exact Ų (P:=λ y=>ÿ y=false) h λ _ _ _ _=>rfl
 |bi=>exact Ų (P:=λ y=>ÿ y=false) h λ _ _ _ _=>rfl
 |ì=>exact Ų (P:=λ y=>ÿ y=false) h λ _ _ _ _=>rfl
 |list=>exact kF (P:=λ y=>ÿ y=false) h λ _ _ _=>rfl
 |tup=>exact gD (P:=λ y=>ÿ y=false) h λ _ _ _ _=>rfl
 |dict=>exact kG (P:=λ y=>ÿ y=false) h λ _ _ _ _=>rfl
 |comp=>exact(hn _ _ _ _ _ rfl).elim
theorem JI(S:ă c)(hC:û c C d)(y:Nat)(e:E):IS c C d (.asg y e):=fun {A env sc x φ s σ ρ r} O hc ee=>Ò (tn.symm^ee) λ v ç U ee=>jn hc λ t v' p q=>Ě (P:=λ t=>Es c A env φ s r (.Assign [t] v' p)) q λ i tp q=>
 have e1:=seq_eq (ŗ q).1
 Xn ee▸e1▸(sN (env:=env) v' (c.T.nm y) tp p.line).elim (λ Ep=>mq S hC Ep O (e1▸(ŗ q).2.1) (ŗ q).2.2 U)
  λ Ep=>(Classical.em (∃a b c d f,e=E.comp a b c d f)).elim (λ h=>h.elim λ elt h=>h.elim λ x h=>h.elim λ src h=>h.elim λ ù h=>h.elim λ ifs h=>AZ (r:=(v,ç)) S hC Ep O (e1▸(ŗ q).2.1) (h▸(ŗ q).2.2) (h▸U))
   λ h=>mq S hC (k_ (Er (ŗ q).2.2 λ a b c d f e=>h ⟨a,b,c,d,f,e⟩) _ _) O (e1▸(ŗ q).2.1) (ŗ q).2.2 U
theorem Et(S:ă c)(hC:û c C d)(o i e:E):IS c C d (.é o i e):=fun {A env sc x φ s σ ρ r} O hc ee=>Ò (oK.symm^ee) λ v ç U ee=>Ò ee λ ov ŷ h2 ee=>Ò ee λ iv' BH h3 ee=>â ee λ OT h4 ee=>jn hc λ t v' p q=>aq (P:=λ t=>Es c A env φ s r (.Assign [t] v' p)) q λ oe ie ap q=>
 ee▸wpAny_Assign_Subscript (IE.on (Ž S hC e).1 O (eI q).2.2.2 U λ u Â Á st Ù hv=>IE.on (Ž S hC o).1 Ù (eI q).2.1 h2 λ w s₂ Û ô Ĝ hw=>IE.on (Ž S hC i).1 Ĝ (eI q).2.2.1 h3 λ z Ġ bS bT qt hz=>
  Ü (uG S O.hA qt.R h4 (hw.step bT) hz ((hv.step ô).step bT)) λ _ bk x=>x.elim λ eK x=>ľ (((st^ô)^bT).trans x.1).any (qt.step x.1 x.2)) (wK _ _ _ _ _)
theorem wM{k:Option NameKind}(h:ć k=true):stored k=true:=by
 cases k with
 |none=>exact ft h
 |some k=>cases k<;>first|rfl|exact ft h
theorem Eu(S:ă c)(hC:û c C d)(y:Nat)(o:fo)(e:E):IS c C d (.mB y o e):=fun {A env sc x φ s σ ρ r} O hc ee=>í (oM.symm^ee) λ old h0 ee=>Ò ee λ v ç U ee=>â ee λ w h2 ee=>nN hc λ t op v' p q=>Ě (P:=λ t=>Es c A env φ s r (.AugAssign t op v' p)) q λ i tp q=>
 have e1:=seq_eq (eI q).2.1
 ee▸e1▸wpAny_AugAssign_Name (qf S O h0 (wM (e1▸(eI q).2.2.1)) λ u0 hu0=>IE.on (Ž S hC e).1 O (eI q).2.2.2 U λ u Â Á st Ù hv=>
  Ü (nY (A:=A) (eI q).1 h2 (hu0.step st) hv) λ r s₂ x=>(x.gd (Step.refl _ _ _) Ù.R _ _).elim λ Û z=>gS S (Ù.step z.1 z.2.1) (e1▸(eI q).2.2.1) z.2.2 λ h' tk a1 a2 a4 a5=>ľ ((st.trans z.1).any.trans a1) a2)
theorem Ew(S:ă c)(hC:û c C d)(b:E)(y:Nat)(o:fo)(e:E):IS c C d (.jw b y o e):=fun {A env sc x φ s σ ρ r} O hc ee=>Ò (oN.symm^ee) λ bv ç U ee=>í ee λ old h2 ee=>Ò ee λ v ŷ h3 ee=>í ee λ w h4 ee=>â ee λ BH h5 ee=>nN hc λ t op v' p q=>aZ (P:=λ t=>Es c A env φ s r (.AugAssign t op v' p)) q λ be a tp q=>
 have q:=eI q
 ee▸seq_eq q.2.1▸wpAny_AugAssign_AttributeAny (IE.on (Ž S hC b).1 O q.2.2.1 U λ u Â Á st Ù hu=>Ü (uK (A:=A) S Ù.R h2 hu) λ u0 s₂ x=>(x.gd (Step.refl _ _ _) Ù.R _ _).elim λ Û z=>
  IE.on (Ž S hC e).1 (Ù.step z.1 z.2.1) q.2.2.2 h3 λ w' Ġ bS bT qt hw=>Ü (nY (A:=A) q.1 h4 (z.2.2.step bT) hw) λ r bk x=>(x.gd (Step.refl _ _ _) qt.R _ _).elim λ eK y=>
   Ü (uL S y.2.1 h5 (((hu.step z.1).step bT).step y.1) y.2.2) λ _ qp x=>x.elim λ uZ x=>ľ ((((st.trans z.1)^bT).trans y.1).trans x.1).any (qt.step (y.1.trans x.1) x.2))
theorem wN{i:Expr}(h:isSlice i=false)(ov iv new:Value):augStore i ov iv new=(do holding [new,ov,iv] (setItem ov iv new);release [new,ov,iv] [];pure .next):=by cases i<;>(first|rfl|(exact tf h;done))
theorem Ex(S:ă c)(hC:û c C d)(b i:E)(o:fo)(e:E):IS c C d (.lj b i o e):=fun {A env sc x φ s σ ρ r} O hc ee=>Ò (oO.symm^ee) λ bv ç U ee=>Ò ee λ iv' ŷ h1' ee=>í ee λ old h2 ee=>Ò ee λ v BH h3 ee=>í ee λ w h4 ee=>â ee λ OT h5 ee=>nN hc λ t op v' p q=>aq (P:=λ t=>Es c A env φ s r (.AugAssign t op v' p)) q λ be ie tp q=>
 have q:=Kj q
 ee▸wpAny_AugAssign_SubscriptAny (IE.on (Ž S hC b).1 O q.2.2.1 U λ u Â Á st Ù hu=>IE.on (Ž S hC i).1 Ù q.2.2.2.1 h1' λ z s₂ Û ô Ĝ hz=>Ü (p_ (A:=A) S O.hA Ĝ.R h2 (hu.step ô) hz) λ u0 WT x=>(x.gd (Step.refl _ _ _) Ĝ.R _ _).elim λ bS g=>
  IE.on (Ž S hC e).1 (Ĝ.step g.1 g.2.1) q.2.2.2.2 h3 λ w' Ġ bS bT qt hw=>Ü (nY (A:=A) q.1 h4 (g.2.2.step bT) hw) λ r bk x=>(x.gd (Step.refl _ _ _) qt.R _ _).elim λ eK y=>
   Ü (uG S O.hA y.2.1 h5 ((((hu.step ô).step g.1).step bT).step y.1) (((hz.step g.1).step bT).step y.1) y.2.2) λ _ qp x=>x.elim λ uZ x=>ľ (((((st^ô).trans g.1)^bT).trans y.1).trans x.1).any (qt.step (y.1.trans x.1) x.2)) (wN (bn q.2.1))
theorem Ey:IS c C d (.ret none):=fun {A env sc x φ s σ ρ r} O hc ee=>uB hc λ o p q=>M1 q▸(Xn ee:(Fl.ret .none,ρ,σ)=r)▸wpAny_Return_none ⟨φ,Step.refl _ _ _,O.R,O.F,.none,rfl,rfl⟩
theorem JJ(S:ă c)(hC:û c C d)(e:E):IS c C d (.ret (some e)):=fun {A env sc x φ s σ ρ r} O hc ee=>Ò (mK.symm^ee) λ v ç U ee=>uB hc λ o p q=>IW (P:=λ o=>Es c A env φ s r (.Return o p)) q λ v' q=>
 Xn ee▸wpAny_Return_some (IE.on (Ž S hC e).1 O q U λ u Â Á st Ù hv=>⟨Á,st.any,Ù.R,Ù.F,u,rfl,hv⟩)
variable{α:Type}
def Ga(c:Cx)(d:Nat)(A:Around)(sc:ű)(φ:Pl)(s:Shared)(σ:St)(env:Env)(Ð:Loc):Unit->Shared->Prop:=λ _ s'=>Step (own env) φ φ s s'/\On c d A env sc Ð φ s' σ/\∀b o,b∉own env->s.heap.get? b\o->s'.heap.get? b\o
theorem jr{T:Tab}{x:Nat}{a:Expr}{P:Expr->Prop}(h:ļ T sc x a=true)(k:∀p,ć (Đ sc (T.nm x))=true->P (.Name (T.nm x) p)):P a:=Ě h λ i p q=>seq_eq (an q).1▸k p (seq_eq (an q).1▸(an q).2)
theorem la(S:ă c)(O:On c d A env sc ρ φ s σ){x:Nat}{a:Expr}(na:ļ c.T sc x a=true){v:V}{u:Value}(hu:VR c φ s.heap v u):wpAny c.M A (assign a env u) (Ga c d A sc φ s σ env (ρ.set x v)) Ø s:=jr (P:=λ a=>wpAny c.M A (assign a env u) (Ga c d A sc φ s σ env (ρ.set x v)) Ø s) na λ p hk=>aaP (gS S O hk hu λ h' tk a1 a2 a4 a5=>⟨a1,a2,a5⟩)
theorem A4(S:ă c)(O:On c d A env sc ρ φ s σ){x y:Nat}{a b:Expr}(na:ļ c.T sc x a=true)(nb:ļ c.T sc y b=true){v w:V}{u z:Value}(hu:VR c φ s.heap v u)(hz:VR c φ s.heap w z):
  wpAny c.M A (assignInOrder [assign a env,assign b env] [u,z]) (Ga c d A sc φ s σ env ((ρ.set x v).set y w)) Ø s:=
 XD (YJ (Ü (la S O na hu) λ _ Â g=>XD (YJ (Ü (la S g.2.1 nb (hz.ý g.1.tup)) λ _ s₂ g'=>XT ⟨g.1.trans g'.1,g'.2.1,λ b o hb e=>g'.2.2 b o hb (g.2.2 b o hb e)⟩))))
theorem mu(S:ă c)(O:On c d A env sc ρ φ s σ){x y:Nat}{a b:Expr}{k}{tp:Pos}(na:ļ c.T sc x a=true)(nb:ļ c.T sc y b=true){v:V}{u:Value}(hu:VR c φ s.heap v u){ċ:Loc}(e:fu x y ρ v\ċ):
  wpAny c.M A (assign (.Tuple [a,b] k tp) env u) (Ga c d A sc φ s σ env ċ) Ø s:=
 ox e λ l hl e=>xu e λ va vb hv e=>Xn e▸(hv▸hl▸hu:VR c φ s.heap (.tup [va,vb]) u).ff (P:=λ u=>wpAny c.M A (assign (.Tuple [a,b] k tp) env u) (Ga c d A sc φ s σ env ((ρ.set x va).set y vb)) Ø s) λ t vs n g Ĥ=>
  Ĥ.au (P:=λ us=>vs.toList=us->wpAny c.M A (assign (.Tuple [a,b] k tp) env (.ref t)) (Ga c d A sc φ s σ env ((ρ.set x va).set y vb)) Ø s) (λ ua r hua hr e1=>hr.au (P:=λ r=>vs.toList=ua::r->wpAny c.M A (assign (.Tuple [a,b] k tp) env (.ref t)) (Ga c d A sc φ s σ env ((ρ.set x va).set y vb)) Ø s) (λ ub r' hub hr e1=>
   have e1:vs.toList=[ua,ub]:=hr.lJ▸e1
   jr (P:=λ a=>ļ c.T sc x a=true->wpAny c.M A (assign (.Tuple [a,b] k tp) env (.ref t)) (Ga c d A sc φ s σ env ((ρ.set x va).set y vb)) Ø s) na (λ pa _ na=>jr (P:=λ b=>ļ c.T sc y b=true->wpAny c.M A (assign (.Tuple [.Name (c.T.nm x) pa,b] k tp) env (.ref t)) (Ga c d A sc φ s σ env ((ρ.set x va).set y vb)) Ø s) nb (λ pb _ nb=>
    wpAny_assign_Tuple O.hA.handled ⟨_,g,rfl,n,rfl⟩ (YL.symm.trans (Xq List.length e1)).symm rfl λ h' eb=>
     have kp:∀b o,s.heap.get? b\o->h'.get? b\o:=λ b o e=>eb b o (Y9 (aaw e)) e;have E9:Step [] φ φ s {s with heap:=h'}:=Step.ē kp;show wpAny c.M A (assignInOrder [assign (.Name (c.T.nm x) pa) env,assign (.Name (c.T.nm y) pb) env] vs.toList) _ _ _ from e1▸Ü (A4 (s:={s with heap:=h'}) S (O.step E9 (O.R.ē kp)) na nb (hua.step E9) (hub.step E9)) λ _ Â g=>⟨E9.any.trans g.1,g.2.1,λ b o hb e=>g.2.2 b o hb (kp b o e)⟩) nb) na) e1) rfl
theorem A5{v:Expr}(h:z7 v=true):ÿ v=false:=by cases v<;>first|rfl|exact ft h
theorem JK{v a b:Expr}{k:Nat}{tp:Pos}(h:z7 v=true):swappedStores [.Tuple [a,b] k tp] v env=pure none:=by cases v<;>first|rfl|exact ft h
theorem Ez(S:ă c)(hC:û c C d)(y z:Nat)(e:E):IS c C d (.ou y z e):=fun {A env sc x φ s σ ρ r} O hc ee=>Ò (oH.symm^ee) λ v ç U ee=>â ee λ ċ h2 ee=>jn hc λ t v' p q=>gD (P:=λ t=>Es c A env φ s r (.Assign [t] v' p)) q λ l k tp q=>Aa (P:=λ l=>Es c A env φ s r (.Assign [.Tuple l k tp] v' p)) q λ a b q=>
 have q:=Kj q
 ee▸wpAny_Assign_stores (IE.on (Ž S hC e).1 O q.2.2.2.2 U λ u Â Á st Ù hv=>show wpAny c.M A (assign (.Tuple [a,b] k tp) env u) _ _ _ from Ü (mu S Ù q.2.1 q.2.2.1 hv h2) λ _ s₂ g=>ľ (st.any.trans g.1) g.2.1)
  (show swapsWith v' (some (.Tuple [a,b] k tp)) p.line env=pure false from k_ (A5 q.1) _ _) (JK q.1)
theorem JL(S:ă c)(hC:û c C d)(e:E){t f:List Mine.S}(iht:AY c C d t)(ihf:AY c C d f):IS c C d (.ite e t f):=fun {A env sc x φ s σ ρ r} O hc ee=>IX hc λ te a b p q=>Ò (fA.symm^ee) λ v ç U ee=>fw ee λ bb hb ee=>
 have q:=ŗ q
 wpAny_If (Ü ((Ž S hC e).2 O q.1 (hb▸U)) λ u Â z=>z.2.elim λ Á w=>by
  rw[z.1];clear U hb;have Ù:=O.step w.1 w.2;cases bb with
  |true=>exact Ü (iht Ù q.2.1 ee) λ f s₂ g=>g.up w.1.any
  |false=>exact Ü (ihf Ù q.2.2 ee) λ f s₂ g=>g.up w.1.any)
theorem u5:AY c C d []:=λ O hc ee=>I2 hc▸Xn ee▸aa8 (ľ (Step.refl _ _ _) O)
theorem qu{st:S}{r:List Mine.S}(ih:IS c C d st)(wo:AY c C d r):AY c C d (st::r):=fun {A env sc x φ s σ ρ r'} O hc ee=>DN (P:=λ x=>wpAny c.M A (execs x env) (Gs c φ s env r') Ø s) hc λ x xs c1 c2=>
 oy (dj.symm^ee) (λ ċ ç U ee=>wpAny_execs_cons (Ü (ih O c1 U) λ f Â z=>z.elim λ Á w=>(show f=.next from w.2.2.2).symm▸Ü (wo ⟨O.hA,O.hK,w.2.1,w.2.2.1⟩ c2 ee) λ f s₂ g=>g.up w.1))
  λ v ċ ç U ee=>wpAny_execs_cons (Ü (ih O c1 U) λ f Â z=>z.elim λ Á w=>w.2.2.2.elim λ u y=>y.1.symm▸Xn ee▸⟨Á,w.1,w.2.1,w.2.2.1,u,rfl,y.2⟩)
theorem JM{x y z:α}(h:(bif true then x else y)=z):x=z:=h
structure WI (c:Cx) (d:Nat) (A:Around) (sc:ű) (W:Nat->Loc->St->Option (Fl×Loc×St)) (φ:Pl) (s:Shared) (env:Env) (r:Fl×Loc×St) (n:Nat) (s':Shared) (ċ:Loc) (ç:St) (nZ:Pl):Prop where
 ev:W n ċ ç\r
 st:Step (own env) φ nZ s s'
 O:On c d A env sc ċ nZ s' ç
theorem A6(S:ă c)(hC:û c C d)(e:E){b:List Mine.S}(EA:AY c C d b):IS c C d (.while e b):=fun {A env sc x φ s σ ρ r} O hc ee=>v7 hc λ te be p q=>by
 refine wpAny_While (codeAny_whileLoop (A:=A) (λ n s'=>∃ċ ç nZ,WI c d A sc (whileLoop (λ Ð s'=>Ä c.sig C Ð e s') (λ Ð s'=>Ê c.sig C b Ð s')) φ s env r n s' ċ ç nZ) (λ n Â z=>z.elim λ ċ z=>z.elim λ ç z=>z.elim λ nZ t=>?_) i3 ⟨ρ,σ,φ,ee,Step.refl _ _ _,O⟩);clear ee z O;cases n with
 |zero=>exact ns t.ev
 |succ n=>
  refine Ò (mL.symm^t.ev) λ v ŷ h2 ee=>fw ee λ bb hb ee=>YV ((Ž S hC e).2 t.O (an q).1 (hb▸h2)) (λ u s₂ z=>z.2.elim λ Û w=>?_) λ _ _ x=>x.elim;rw[z.1];clear h2 hb;have Ĝ:=t.O.step w.1 w.2;have ô:=t.st.trans w.1.any;cases bb with
  |false=>exact aa8 (Xn ee▸ľ ô Ĝ)
  |true=>
   exact oy (JM ee) (λ WU BH h3 ee=>YV (EA Ĝ (an q).2 h3) (λ f Ġ z=>z.elim λ bS y=>(show f=.next from y.2.2.2).symm▸⟨n,YA _,WU,BH,bS,ee,ô.trans y.1,⟨Ĝ.hA,Ĝ.hK,y.2.1,y.2.2.1⟩⟩) λ _ _ x=>x.elim)
    λ v WU BH h3 ee=>YV (EA Ĝ (an q).2 h3) (λ f Ġ z=>z.elim λ bS y=>y.2.2.2.elim λ u y'=>y'.1.symm▸Xn ee▸⟨bS,ô.trans y.1,y.2.1,y.2.2.1,u,rfl,y'.2⟩) λ _ _ x=>x.elim
variable{Â:Shared}{ð:Pl}{s':Shared}
theorem c_{elts:List Expr}{x1}{pos:Pos}{I:Addr}{T:String}{fs:Array Value}{o:Obj}{u:Value}{E:Value->Shared->Prop}{Q:Unit->Shared->Prop}(ho:s.heap.get? I\o)(hc:o.cls=.type T)(hd:o.data=.fields fs)
  (hT:(["enumerate","zip","dict_itemiterator","dict_reverseitemiterator","odict_iterator","itertools.zip_longest","itertools.pairwise"].contains T)=false) (hQ:Q () s):wpAny c.M A (letOwnedTupleGo (.Tuple elts x1 pos) (.ref I) u) Q E s:=by
 unfold letOwnedTupleGo;cases u<;>(first|exact XT hQ|skip);rename_i a;refine XD (wpAny_load ho ?_);rw[hc,hd];show wpAny _ A (if (["enumerate","zip","dict_itemiterator","dict_reverseitemiterator","odict_iterator","itertools.zip_longest","itertools.pairwise"].contains T&&fs[0]?==some (rawInt a))=true then _ else _) Q E s;rw[hT,Bool.false_and];exact XT hQ
theorem sP{elts:List Expr}{x1}{pos:Pos}{I:Addr}{i:Nat}{k:SK}{u:Value}{E:Value->Shared->Prop}{Q:Unit->Shared->Prop}(it:ã c φ s.heap I i k)(hQ:Q () s):wpAny c.M A (letOwnedTupleGo (.Tuple elts x1 pos) (.ref I) u) Q E s:=by
 cases k with
 |ù n=>exact c_ it rfl rfl (by decide) hQ
 |tup l=>exact it.elim λ a x=>x.elim λ vs x=>x.elim λ m x=>x.1.elim λ o y=>c_ y.1 y.2.1 y.2.2 (by decide) hQ
 |lst r len=>exact it.elim λ a x=>x.1.elim λ o y=>c_ y.1 y.2.1 y.2.2 (by decide) hQ
structure FI (c:Cx) (d:Nat) (A:Around) (sc:ű) (W:Nat->Nat->Loc->St->Option (Fl×Loc×St)) (I:Addr) (k:SK) (φ:Pl) (s:Shared) (env:Env) (r:Fl×Loc×St) (n:Nat) (s':Shared) (i:Nat) (ċ:Loc) (ç:St) (nZ:Pl):Prop where
 len:i+n=k.src.len
 ev:W n i ċ ç\r
 st:Step (own env) φ nZ s s'
 O:On c d A env sc ċ nZ s' ç
 it:ã c nZ s'.heap I i k
 nI:I∉nZ.flatten
theorem FI.move{W:Nat->Nat->Loc->St->Option (Fl×Loc×St)}{I:Addr}{k:SK}{r:Fl×Loc×St}{n i j:Nat}{ċ:Loc}{nZ:Pl}{h':Heap}{tk:Nat}(t:FI c d A sc W I k φ s env r n Â i ċ ç nZ)(hI:s.heap.get? I=none)(JA:c.H0.get? I=none)(Kk:I∉own env)(kb:nT I Â.heap h'):
  Step (own env) φ nZ s {Â with heap:=h',toks:=tk}/\On c d A env sc ċ nZ {Â with heap:=h',toks:=tk} ç:=
 ⟨t.st.bg kb hI,⟨t.O.hA,t.O.hK,t.O.R.out kb t.nI JA t.it.fh,t.O.F.change kb Kk t.it.fh⟩⟩
theorem ã.F_{X:List Addr}{I:Addr}{i:Nat}{k:SK}(x:ã c φ s.heap I i k)(hI:I∉φ.flatten)(hX:I∉X)(st:Step X φ ð s s'):ã c ð s'.heap I i k/\I∉ð.flatten:=st.ext.elim λ ψ h=>h.1▸⟨x.keep (λ o e=>st.keep _ _ e hI hX) st.tup,λ q=>bz q hI λ q=>x.obj.elim λ o y=>Ħ y.1 (h.2 _ q)⟩
theorem qv(S:ă c){b:List Mine.S}(EA:AY c C d b){t iter:Expr}{be:List Stmt}{p:Pos}{bnd:Loc->V->Option Loc}{src:Src}{ç:St}{r:Fl×Loc×St}
  (hb:∀{φ s σ ρ v u ċ},On c d A env sc ρ φ s σ->VR c φ s.heap v u->bnd ρ v\ċ->wpAny c.M A (assign t env u) (Ga c d A sc φ s σ env ċ) Ø s)
  (hgo:∀{φ s I i k u Q} {E:Value->Shared->Prop},ã c φ s.heap I i k->Q () s->wpAny c.M A (letOwnedTupleGo t (.ref I) u) Q E s)
  (hs:∀x,foldedSetIterable iter env x=pure x) (hc:bQ c.T sc b be=true) (O:On c d A env sc ρ φ s σ)
  (hit:wpAny c.M A (eval iter env) (λ xv Â=>wpAny c.M A (pyIter xv) (AQ c φ s ç src) Ø Â) Ø s)
  (ee:forLoop (λ Ð s'=>Ê c.sig C b Ð s') bnd src src.len 0 ρ ç\r):
  wpAny c.M A (exec (.For t iter be [] p) env) (Gs c φ s env r) Ø s:=by
 refine wpAny_For (Ü hit λ xv Â gK=>Ü gK λ it s₂ sx=>sx.elim λ Û z=>z.elim λ k z=>z.elim λ I z=>?_) hs;have ee:=z.1▸ee;have hz:=z.2.1;rw[z.2.2.1];have z:=z.2.2.2;have Kk:=u4 O.F z.2.2.2.1
 refine codeAny_forLoop_any (A:=A) (λ n s'=>∃i ċ ç nZ,FI c d A sc (λ n i=>forLoop (λ Ð s'=>Ê c.sig C b Ð s') bnd k.src n i) I k φ s env r n s' i ċ ç nZ) (λ n Â y=>y.elim λ i y=>y.elim λ ċ y=>y.elim λ ç y=>y.elim λ nZ t=>?_) k.src.len
  ⟨0,ρ,ç,Û,Zg _,ee,z.1.any,O.step z.1 z.2.1,z.2.2.1,z.2.2.2.2.1⟩
 clear ee hit hz y O;cases n with
 |zero=>
  exact ñ (show gd (k.src.fin ç=true) (some (.next,ċ,ç))\r from t.ev) λ SS e=>YV (uU t.O.hA.handled t.O.R (t.len▸t.it) SS (Q:=λ r s'=>r=none/\∃h',s'={Â with heap:=h'}/\Heap.ExtBut I Â.heap h') λ h' eb=>⟨rfl,h',rfl,eb⟩)
   (λ r' s' y=>y.2.elim λ h' w=>y.1.symm▸w.1.symm▸(have m:=t.move (h':=h') (tk:=Â.toks) (j:=0) z.2.2.2.1 z.2.2.2.2.2 Kk w.2;aa8 (Xn e▸ľ m.1 m.2))) λ _ _ x=>x.elim
 |succ n=>
  refine í (tq.symm^t.ev) λ v hv e=>í e λ dG Ny e=>?_;have lt:i<k.src.len:=t.len▸Y7 (Y0 n);refine YV (uT t.O.R t.it lt hv (Q:=λ r s'=>∃u h' tk,r\u/\s'={Â with heap:=h',toks:=tk}/\VR c nZ h' v u/\ã c nZ h' I (i+1) k/\Heap.SameBut I Â.heap h') λ u h' tk a1 a2 a3=>⟨u,h',tk,rfl,rfl,a1,a2,a3⟩) (λ r' s' y=>y.elim λ u y=>y.elim λ h' y=>y.elim λ tk y=>?_) λ _ _ x=>x.elim;rw[y.1,y.2.1];have y:=y.2.2;have m:=t.move (h':=h') (tk:=tk) (j:=0) z.2.2.2.1 z.2.2.2.2.2 Kk (Ģ y.2.2);refine hgo (s:={Â with heap:=h',toks:=tk}) y.2.1 (YV (hb (s:={Â with heap:=h',toks:=tk}) m.2 y.1 Ny) (λ _ Ġ g=>?_) λ _ _ x=>x.elim);have qq:=ã.F_ (s:={Â with heap:=h',toks:=tk}) y.2.1 t.nI Kk g.1;have Nz:=m.1.trans g.1;have len:i+1+n=k.src.len:=(aaT i n)^t.len;clear y m lt hv Ny
  exact oy e (λ WV OT h4 e=>YV (EA g.2.1 hc h4) (λ f bk w=>w.elim λ eK w=>(show f=.next from w.2.2.2).symm▸(have i4:=qq.1.F_ qq.2 Kk w.1;⟨n,YA _,i+1,WV,OT,eK,len,e,Nz.trans w.1,⟨t.O.hA,t.O.hK,w.2.1,w.2.2.1⟩,i4.1,i4.2⟩)) λ _ _ x=>x.elim)
   λ v WV OT h4 e=>YV (EA g.2.1 hc h4) (λ f bk w=>w.elim λ eK w=>w.2.2.2.elim λ u y'=>y'.1.symm▸Xn e▸⟨eK,Nz.trans w.1,w.2.1,w.2.2.1,u,rfl,y'.2⟩) λ _ _ x=>x.elim
theorem EB(S:ă c)(hC:û c C d)(x:Nat)(e:E)(ù:Option Nat){b:List Mine.S}(EA:AY c C d b):IS c C d (.Č x e ù b):=fun {A env sc y φ s σ ρ r} O hc ee=>Ò (jC.symm^ee) λ v ç U ee=>í ee λ src h2 ee=>uC hc λ t iter be p q=>
 have es:=sI S (Ž S hC e).1 O (ŗ q).2.2 U h2
 jr (P:=λ t=>ļ c.T sc x t=true->Es c A env φ s r (.For t iter be [] p)) (ŗ q).1 (λ tp _ na=>qv S EA (λ O hu e=>Xn e▸la S O na hu) (λ _ hQ=>XT hQ) es.1 (ŗ q).2.1 O es.2 ee) (ŗ q).1
theorem EC(S:ă c)(hC:û c C d)(x z:Nat)(e:E){b:List Mine.S}(EA:AY c C d b):IS c C d (.g_ x z e b):=fun {A env sc y φ s σ ρ r} O hc ee=>Ò (oP.symm^ee) λ v ç U ee=>í ee λ src h2 ee=>uC hc λ t iter be p q=>gD (P:=λ t=>Es c A env φ s r (.For t iter be [] p)) q λ l k tp q=>Aa (P:=λ l=>Es c A env φ s r (.For (.Tuple l k tp) iter be [] p)) q λ a b' q=>
 have q:=Wv q
 qv S EA (λ O hu e=>mu S O q.1 q.2.1 hu e) (λ it hQ=>sP it hQ) (qr (bn q.2.2.2.1)) q.2.2.2.2.2 O (ql (Ž S hC e).1 O q.2.2.2.2.1 U h2) ee
theorem SU(S:ă c)(hC:û c C d)(x:Mine.S):IS c C d x:=by
 refine Mine.S.rec (motive_1:=λ x=>IS c C d x) (motive_2:=λ l=>AY c C d l) ?_ ?_ ?_ ?_ ?_ ?_ ?_ ?_ ?_ ?_ ?_ ?_ ?_ ?_ ?_ ?_ x
 ·exact λ e=>En S hC e
 ·exact λ x e=>JI S hC x e
 ·exact λ x y e=>Ez S hC x y e
 ·exact λ o x e=>Eo S hC o x e
 ·exact λ o i e=>Et S hC o i e
 ·exact λ x o e=>Eu S hC x o e
 ·exact λ b x o e=>Ew S hC b x o e
 ·exact λ b i o e=>Ex S hC b i o e
 ·exact λ e t f U h2=>JL S hC e U h2
 ·exact λ e b h=>A6 S hC e h
 ·exact λ x e ù b h=>EB S hC x e ù h
 ·exact λ x y e b h=>EC S hC x y e h
 ·exact λ o=>o.casesOn (motive:=λ o=>IS c C d (.ret o)) Ey λ e=>JJ S hC e
 ·exact λ O hc ee=>ns ee
 ·exact u5
 ·exact λ x r U h2=>qu U h2
theorem NA(S:ă c)(hC:û c C d)(l:List Mine.S):AY c C d l:=by
 induction l with
 |nil=>exact u5
 |cons x r ih=>exact qu (SU S hC x) ih
end
end
end Mine
namespace Mine
open PySem PySem.W PyProof.Rows PySem.Calls PySem.SeqAt
noncomputable section
variable{us:List Value}
structure A7 (c:Cx) (f:Nat) (fn:Fn):Prop where
 ex:∃o fd body,c.H0.get? (c.fn f)\o/\o.data=.func fd/\fd.body=.stmts body/\fd.closure=[]/\fd.globals=mainGlobals/\fd.builtins=builtinsNs/\fd.defaults=.none/\c.H0.CodeRec fd.code fd.qualname/\pO c.T fn fd.params body fd.scope=true
theorem qw{α β:Type}{f g:α->Option β}:∀{l:List α},(∀x∈l,f x=g x)->l.filterMap f=l.filterMap g
 |[],_=>rfl
 |a::l,h=>by rw[aas,aas,h a (by exact mg 0 rfl),qw λ x hx=>h x (by exact XM _ hx)]
theorem sQ{names:List Str}(nd:names.Nodup):∀{us:List Value},names.length=us.length->names.filterMap (λ n=>((names.zip us).lookup n).map (n,·))=names.zip us:=by
 induction names with
 |nil=>intro us h;rfl
 |cons a r ih=>
  intro us h;cases us with
  |nil=>exact XR h
  |cons u us=>
   simp only[X0]at nd;rw[List.zip_cons_cons,aas];simp only[YR,Z9,Zf]
   congr 1
   refine(qw λ n hn=>?_).trans (ih nd.2 (by exact abl h));have:(n==a)=false:=by simp only[beq_eq_false_iff_ne];rintro rfl;exact nd.1 hn
   rw[this]
theorem A8{names:List Str}(h:names.length=us.length):∀n∈names,((names.zip us).lookup n).isSome=true:=by
 induction names generalizing us with
 |nil=>simp
 |cons a r ih=>
  cases us with
  |nil=>simp at h
  |cons u us=>
   intro n hn;rw[List.zip_cons_cons,YR];split
   ·rfl
   ·rename_i wX;refine ih (by exact abl h) n ?_;rcases XE.mp hn with rfl|hn
    ·simp at wX
    ·exact hn
theorem bp1{fd:FuncData}{as:List Arg}{us:List Value}(hp:fd.params=⟨[],as,none,[],[],none,[]⟩)(hd:fd.defaults=.none)
  (h0:¬(decide (us.length>(as.map λ a:Arg=>a.arg).length)&&true)=true) {z:List (Str×Value)} (U:((as.map λ a:Arg=>a.arg)++[]).filterMap (λ n=>(((as.map λ a:Arg=>a.arg).zip us).lookup n).map (n,·))=z)
  (h2:¬(!(((as.map λ a:Arg=>a.arg).take ((as.map λ a:Arg=>a.arg).length -(([]:List Value).drop (([]:List Value).length -(as.map λ a:Arg=>a.arg).length)).length)).filter λ n=>(((as.map λ a:Arg=>a.arg).zip us).lookup n).isNone).isEmpty)=true)
  (h3:((as.map λ a:Arg=>a.arg).drop ((as.map λ a:Arg=>a.arg).length -(([]:List Value).drop (([]:List Value).length -(as.map λ a:Arg=>a.arg).length)).length)).zip (([]:List Value).drop (([]:List Value).length -(as.map λ a:Arg=>a.arg).length))=[]):
  bindArgs fd ⟨us,[]⟩=pure z:=by
 obtain⟨a1,a2,a3,a4,a5,a6,a7,a8,a9,a10,a11,a12,a13,a14,a15⟩:=fd;cases hp;cases hd;unfold bindArgs;refine(aah (m:=Sem) _ _).trans ?_;refine(aah (m:=Sem) (none:Option (Array Value)) _).trans ?_;refine(XW h0).trans ?_;show ite _ _ _=_;refine(XW h2).trans ?_;refine(Xq (·>>=_) (show forIn _ _ _=pure _ from(Xq (λ l=>forIn l _ _) h3).trans rfl)).trans ?_;refine(aah (m:=Sem) _ _).trans ?_;refine(aah (m:=Sem) _ _).trans ?_;exact Xq Sem.pure U
theorem sR{fd:FuncData}{as:List Arg}(hp:fd.params=⟨[],as,none,[],[],none,[]⟩)(hd:fd.defaults=.none)(nd:(as.map (·.arg)).Nodup)(hl:as.length=us.length):
  bindArgs fd ⟨us,[]⟩=pure ((as.map (·.arg)).zip us):=
 have Fi:(as.map (·.arg)).length=us.length:=(Xm ..)^hl
 bp1 hp hd (λ e=>absurd (XA (an e).1) (Fi▸Nat.lt_irrefl _)) ((Xq (List.filterMap _) (XQ _))^(sQ nd Fi))
  (by rw[Z2.mpr λ n hn=>by rw[Option.isNone_eq_false_iff.mpr (A8 Fi n (ZG hn))];exact Yy];decide) (by rw[List.drop_nil,List.zip_nil_right])
theorem qx{T:Tab}{sc:ű}{ps:List Nat}:∀{as:List Arg},z9 T sc ps as=true->as.map (·.arg)=ps.map T.nm/\as.length=ps.length/\∀p∈ps,ć (Đ sc (T.nm p))=true:=by
 induction ps with
 |nil=>exact λ h=>z_ h▸⟨rfl,rfl,λ _ h=>nomatch h⟩
 |cons p ps ih=>
  intro as h;cases as with
  |nil=>exact ft h
  |cons a as=>
   have h:=ŗ h;have z:=ih h.2.2;have e:=seq_eq h.1;exact⟨congr (Xq List.cons e.symm) z.1,Xq (·+1) z.2.1,λ q hq=>(XE.mp hq).elim (λ q=>q▸e▸h.2.1) (z.2.2 q)⟩
theorem n6{l:List Nat}:rZ l=true->l.Nodup:=by
 induction l with
 |nil=>exact λ _=>YU
 |cons x r ih=>exact λ h=>X0.mpr ⟨λ m=>Yy ((bn (an h).1).symm.trans (List.contains_iff_mem.mpr m)),ih (an h).2⟩
theorem args_eq{a:Arguments}(h:uA a=true):a=⟨[],a.args,none,[],[],none,[]⟩:=by
 cases a with
 |mk a b c d e f g=>
  have h:=Wv h;exact congr (congr (congr (congr (congr (Yk (Xq Arguments.mk (z_ h.1)) b) (M1 h.2.1)) (z_ h.2.2.1)) (z_ h.2.2.2.1)) (M1 h.2.2.2.2.1)) (z_ h.2.2.2.2.2)
theorem mw{T:Tab}(inj:∀x y,T.nm x=T.nm y->x=y):∀{l:List Nat},l.Nodup->(l.map T.nm).Nodup
 |[],_=>YU
 |x::r,h=>by obtain⟨U,h2⟩:=X0.mp h;refine X0.mpr ⟨λ hm=>?_,mw inj h2⟩;refine dQ (Xx.mp hm) λ y hy e=>?_;rw[inj _ _ e]at hy;exact U hy
theorem mx{kindOf:Str->Option NameKind}{n:Str}:∀{bs:List (Str×Value)} {m:Str->Option Value},(∀p∈bs,p.1≠n)->bindL kindOf bs m n=m n
 |[],m,_=>rfl
 |(k,v)::r,m,h=>by
  unfold bindL;rw[mx λ p hp=>h p (by exact XM _ hp)];split
  ·have:n≠k:=λ e=>h (k,v) (by exact mg 0 rfl) e.symm;exact XW this
  ·rfl
theorem my{kindOf:Str->Option NameKind}{n:Str}:∀{bs:List (Str×Value)} {m:Str->Option Value},(∀p∈bs,p.1≠n)->bindC kindOf bs m n=m n
 |[],m,_=>rfl
 |(k,v)::r,m,h=>by
  unfold bindC;rw[my λ p hp=>h p (by exact XM _ hp)];split
  ·rfl
  ·have:n≠k:=λ e=>h (k,v) (by exact mg 0 rfl) e.symm;exact XW this
theorem Ge{p:Nat}{ps:List Nat}{vs:List V}{ρ:Loc}{P:Prop}(h:Ŕ (p::ps) vs\ρ)(k:∀v aw Ð,vs=v::aw->Ŕ ps aw\Ð->Ð.set p v=ρ->P):P:=ow (show wc vs (λ v vs=>(Ŕ ps vs).map λ ρ=>ρ.set p v)\ρ from h) λ v aw e h=>â h λ Ð h e'=>k v aw Ð e h e'
theorem sS{ps:List Nat}:∀{vs:List V} {ρ:Loc},Ŕ ps vs\ρ->ps.length=vs.length:=by
 induction ps with
 |nil=>exact fun {vs ρ} h=>bX (show wV vs (some λ _=>none)\ρ from h) λ e _=>e▸rfl
 |cons p ps ih=>exact λ h=>Ge h λ v aw Ð e h _=>e▸Xq (·+1) (ih h)
section
variable{c:Cx}{C:Call}{d:Nat}{φ:Pl}{A:Around}{s:Shared}{σ:St}
theorem qy(inj:∀x y,c.T.nm x=c.T.nm y->x=y){kindOf:Str->Option NameKind}{h:Heap}{ps:List Nat}:∀{vs:List V} {us:List Value} {ρ:Loc},Ŕ ps vs\ρ->ps.Nodup->ö c φ h vs us->∀x v,ρ x\v->
  ∃u,VR c φ h v u/\(kindOf (c.T.nm x)=some .local->∀m,bindL kindOf ((ps.map c.T.nm).zip us) m (c.T.nm x)\u)/\(kindOf (c.T.nm x)≠some .local->∀m,bindC kindOf ((ps.map c.T.nm).zip us) m (c.T.nm x)\u):=by
 induction ps with
 |nil=>exact fun {vs us ρ} h _ _ x v e=>bX (show wV vs (some λ _=>none)\ρ from h) λ _ q=>by rw[<-Xn q]at e;exact ns e
 |cons p ps ih=>
  intro vs us ρ e nd hv x v hx;refine Ge e λ w aw Ð e1 U e2=>(e1▸hv:ö c φ h (w::aw) us).au (P:=λ us=>∃u,VR c φ h v u/\(kindOf (c.T.nm x)=some .local->∀m,bindL kindOf (((p::ps).map c.T.nm).zip us) m (c.T.nm x)\u)/\(kindOf (c.T.nm x)≠some .local->∀m,bindC kindOf (((p::ps).map c.T.nm).zip us) m (c.T.nm x)\u)) λ u r hu hr=>?_;have nd:=X0.mp nd;refine fj (show(Ð.set p w) x\v from e2▸hx) (λ q1 q2=>⟨u,q2▸hu,λ k m=>?_,λ k m=>?_⟩) λ _ hx=>(ih U nd.2 hr x v hx).elim λ u' z=>⟨u',z.1,λ k m=>z.2.1 k _,λ k m=>z.2.2 k _⟩
  ·have y7:∀q∈(ps.map c.T.nm).zip r,q.1≠c.T.nm x:=λ q hq e=>(Xx.mp (aa9 hq).1).elim λ y z=>nd.1 (q1▸inj _ _ (z.2^e)▸z.1);exact(mx y7)^((Yk (XR (q1▸k)) _)^(XR (Xq c.T.nm q1)))
  ·have y7:∀q∈(ps.map c.T.nm).zip r,q.1≠c.T.nm x:=λ q hq e=>(Xx.mp (aa9 hq).1).elim λ y z=>nd.1 (q1▸inj _ _ (z.2^e)▸z.1);exact(my y7)^((Yk (XW (q1▸k)) _)^(XR (Xq c.T.nm q1)))
theorem Ŋ:∀{names:ű} {n:Nat} {acc:List (Str×Addr)} {x:Str},((x,NameKind.cell)∈names\/(acc.lookup x).isSome=true)->((cellsFrom n names acc).lookup x).isSome=true
 |[],n,acc,x,h=>by unfold cellsFrom;exact h.resolve_left (by exact Yh)
 |(m,k)::r,n,acc,x,h=>by
  unfold cellsFrom;split
  ·rename_i hk;refine Ŋ ?_;rcases h with h|h
   ·rcases XE.mp h with e|h
    ·injection e with e _;subst e;right;simp
    ·exact .inl h
   ·right;rw[YR];split
    ·rfl
    ·exact h
  ·rename_i hk;refine Ŋ ?_;rcases h with h|h
   ·rcases XE.mp h with e|h
    ·injection e with _ e;subst e;exact absurd hk (by decide)
    ·exact .inl h
   ·exact .inr h
theorem qz{l:ű}:nH l=true->∀p∈l,p.2≠.free/\p.2≠.globalExplicit:=by
 induction l with
 |nil=>exact λ _ _ h=>nomatch h
 |cons q r ih=>exact λ h p hp=>(XE.mp hp).elim (λ e=>e▸⟨XA (an (an h).1).1,XA (an (an h).1).2⟩) (ih (an (an h).2).2 p)
theorem u6(S:ă c)(hC:û c C d){f:Nat}{fn:Fn}(hf:A7 c f fn){args:List V}{v:V}{Ú:St}{ρ:Loc}{us:List Value}(hb:Ŕ fn.params args\ρ)(ee:∃Ð,Ê c.sig C fn.body ρ σ\(.ret v,Ð,Ú)\/(Ê c.sig C fn.body ρ σ\(.next,Ð,Ú)/\v=.none))
  (hA:uD A (d+1)) (R:Rel c φ σ s.heap) (BG:ö c φ s.heap args us):
  codeAny c.M A (.call (.ref (c.fn f)) ⟨us,[]⟩) (λ r s'=>∃u,r=.ok (.ret u)/\Gd c φ s [] Ú v u s') s:=by
 refine Kr hf.ex λ o fd body ho hd NB SV NC SW SX ND SY=>?_;have K:=Kj SY;have K':=eI K.2.2.2.2;have k1:=XA K.1;have k2:=bn K.2.1;have k3:=bn K.2.2.1;have k4:=K.2.2.2.1;have k7:=K'.2.2.2;have S2:=args_eq K'.1;have pn:=qx K'.2.1;have p1:=pn.1;have p3:=pn.2.2;have nd:=n6 K'.2.2.1;have hlen:fd.params.args.length=us.length:=pn.2.1^((sS hb)^BG.length.symm);have Gf:=sR S2 SX (by rw[p1];exact mw S.DS nd) hlen;rw[p1]at Gf;have NF:=hA.depth;have hun:=hA.units;have hL:=R.fresh (get_none (XS s.heap.objs.size))
 have ő:∀x∈(fn.params.map c.T.nm).zip us,fd.scope.names.lookup x.1=some .local\/(fd.scope.names.lookup x.1=some .cell/\((cellsFrom (s.heap.objs.size+1) fd.scope.names []).lookup x.1).isSome=true):=by
  intro x hx;refine dQ (Xx.mp (aa9 hx).1) λ p hp e=>?_;have:=p3 p hp;rw[e,Ĭ]at this;cases hl:fd.scope.names.lookup x.1 with
  |none=>rw[hl]at this;exact ft this
  |some k=>
   rw[hl]at this;cases k with
   |«local»=>exact .inl rfl
   |cell=>exact .inr ⟨rfl,Ŋ (.inl (lookup_mem hl))⟩
   |_=>exact ft this
 refine codeAny_call_cells (by have:recursionLimit=1000:=rfl;exact Ye (Xs (Ya _ _) NF) (by decide)) (R.e9 _ _ ho) hd (let ⟨mc,a,b⟩:=S.nolimit;⟨mc,jq R a,b⟩) (ND.keeps λ b o e=>R.e9 b o e) NB Gf SV ő (λ Â x=>?_) k3 k2 k1;have hh:=x.toInCall.keep;refine W7 x.done λ h' tk=>?_;rintro rfl _;have S3:Rel c φ σ h':=R.ē hh;have kZ:Step [] φ φ s {s with heap:=h',toks:=tk}:=Step.ē hh
 have S4:r6 (callEnvC fd s.heap.objs.size (c.fn f)) fd.scope.names:=by
  intro n;show match Đ fd.scope.names n with|some .local=>fd.scope.names.lookup n=some .local|some .cell=>fd.scope.names.lookup n=some .cell|some .free=>fd.scope.names.lookup n=some .cell|some .globalImplicit=>fd.scope.names.lookup n=some .globalImplicit|_=>True
  rw[Ĭ];cases hl:fd.scope.names.lookup n with
  |none=>trivial
  |some k=>
   have:=qz k4 _ (lookup_mem hl);cases k<;>first|trivial|exact absurd rfl this.1
 have hF:FR c φ (callEnvC fd s.heap.objs.size (c.fn f)) ρ h':=by
  refine⟨k1,NC,SW,hL.2,hL.1,⟨_,x.toInCall.ns,λ y w e k=>?_⟩,λ n a e=>?_,λ n m a e1 e2=>name_of_addr x.apart (mem_of_lookup e1) (mem_of_lookup e2),λ n k=>?_,λ y w a e k l=>?_⟩
  ·refine gV (qy S.DS (kindOf:=(callEnvC fd s.heap.objs.size (c.fn f)).kindOf) hb nd BG y w e) λ u U h2 h3=>?_;exact⟨u,h2 k _,by have:=U.step kZ;exact this⟩
  ·have gk:=x.above n a (mem_of_lookup e);have gk:s.heap.objs.size<a:=gk;have WW:=R.fresh (get_none (XJ gk));exact⟨WW.1,abi gk,WW.2,_,x.cell n a e⟩
  ·exact X_.mp (Ŋ (.inl (lookup_mem k)))
  ·refine gV (qy S.DS (kindOf:=(callEnvC fd s.heap.objs.size (c.fn f)).kindOf) hb nd BG y w e) λ u U h2 h3=>?_;have hc:=x.cell _ _ l;rw[h3 (by rw[k];simp)]at hc;exact⟨u,hc,by have:=U.step kZ;exact this⟩
 have NG:ŵ (A.deeper (callEnvC fd s.heap.objs.size (c.fn f))) d:=by
  refine⟨hA.handled,?_,?_⟩
  ·show A.depth+1+3*d+2<=900;exact ln [_,_] [] (.c 1 (.a (.v 0) (.m 3 (.a (.v 1) (.k 1)))) (.k 900) .e) 0 (.a (.a (.a (.v 0) (.k 1)) (.m 3 (.v 1))) (.k 2)) (.k 900) rfl NF
  ·show A.units+3+40*d+30<=9000;exact ln [_,_] [] (.c 1 (.a (.v 0) (.m 40 (.a (.v 1) (.k 1)))) (.k 9000) .e) 0 (.a (.a (.a (.v 0) (.k 3)) (.m 40 (.v 1))) (.k 30)) (.k 9000) rfl hun
 have S5:∀b∈own (callEnvC fd s.heap.objs.size (c.fn f)),s.heap.get? b=none:=by intro b hb;exact u3 hb (λ e=>e▸get_none (XS _)) λ n hn=>get_none (XJ (x.above n b (mem_of_lookup hn)))
 have lift:∀{ð:Pl} {s':Shared},Step (own (callEnvC fd s.heap.objs.size (c.fn f))) φ ð {s with heap:=h',toks:=tk} s'->Step [] φ ð s s':=by
  intro ð s' st;refine⟨?_,λ b hb=>st.alive b (kZ.alive b hb),λ b o e n _=>?_,λ b vs n e=>st.tup _ _ _ (kZ.tup _ _ _ e),st.gens,st.os,st.drawn⟩
  ·refine dQ st.ext λ ψ e hψ=>?_;refine⟨ψ,e,λ b hb=>?_⟩;cases q:s.heap.get? b with
   |none=>rfl
   |some o=>have:=hψ b hb;rw[show({s with heap:=h',toks:=tk}:Shared).heap.get? b\o from hh _ _ q]at this;exact sn this
  ·refine st.keep b o (hh _ _ e) n λ hm=>?_;rw[S5 b hm]at e;exact ns e
 have O:On c d (A.deeper (callEnvC fd s.heap.objs.size (c.fn f))) (callEnvC fd s.heap.objs.size (c.fn f)) fd.scope.names ρ φ {s with heap:=h',toks:=tk} σ:=⟨NG,S4,S3,hF⟩
 exact ee.elim λ Ð ee=>ee.elim (λ ee=>YV (NA S hC fn.body O k7 ee) (λ fl s' y=>y.elim λ ð y=>y.2.2.2.elim λ u z=>z.1.symm▸⟨u,rfl,ð,lift y.1,y.2.1,z.2⟩) λ _ _ y=>y.elim)
  λ ee=>ee.2.symm▸YV (NA S hC fn.body O k7 ee.1) (λ fl s' y=>y.elim λ ð y=>(show fl=.next from y.2.2.2).symm▸⟨.none,rfl,ð,lift y.1,y.2.1,rfl⟩) λ _ _ y=>y.elim
theorem A9(S:ă c){fns:Nat->Option Fn}(hf:∀f fn,fns f\fn->A7 c f fn)(d:Nat):û c (Ý c.sig fns d) d:=by
 induction d with
 |zero=>exact λ _ _ _ _ _ e=>ns e
 |succ d ih=>
  exact λ f args σ v Ú e A φ s us hA R BG=>í (show bo (fns f) (λ fn=>bo (Ŕ fn.params args) λ ρ=>bf (Ê c.sig (Ý c.sig fns d) fn.body ρ σ) (λ _ s1=>some (.none,s1)) λ v _ s1=>some (v,s1))\(v,Ú)from e) λ fn OU e=>í e λ ρ La e=>
   oy e (λ ċ ç U e=>have z:=YX (Xn e);u6 S ih (hf f fn OU) La ⟨ċ,.inr ⟨z.2▸U,z.1.symm⟩⟩ hA R BG) λ v' ċ ç U e=>have z:=YX (Xn e);u6 S ih (hf f fn OU) La ⟨ċ,.inl (z.1▸z.2▸U)⟩ hA R BG
end
end
end Mine
namespace Mine
open PySem PySem.W
noncomputable section
def OW:List (List Str):=[[Y 3363195942756,Y 1849328,Y 1700596,Y 242841190,Y 240909299,Y 28418061048,Y 3463322612851,Y 526866271844979,Y 30032885619,Y 0xa14a4cdbf16744,Y 30806881253,Y 3811208377074,Y 1882103,Y 2843169039565,Y 107,Y 1782510],[Y 27615131492,Y 0x31e8cb8f5dfd7a7764bfcb7f7,Y 27057207912,Y 4116142748788,Y 3844209357540,Y 22212354258,Y 2843162812626,Y 29204787948,Y 0x72dfdefeccbdb2ec,Y 0x1a776ecbcafebd3bb273,Y 28418224882,Y 0x89162d08b4ea5f9726744,Y 0x488b06b498b4ea5f9726744,Y 243005812,Y 363922134690259,Y 363927212075717],[Y 363921610678489,Y 363921893794502,Y 363921872921284,Y 363926167790278,Y 22212288727,Y 22212094542,Y 13812,Y 0x396fef7f665dd9fa68,Y 0x18f465c7aefeec3b72e4,Y 0x6dc3e6ff3e987764,Y 0x31e8cb8f5dfc3cb3f3,Y 0xa92625fa14a4cd,Y 205304819,Y 1603943,Y 181658820,Y 21117478475],[Y 0x4bd3bb254c38b665,Y 31394116339,Y 452235856787935,Y 482888761733747,Y 29733122803,Y 205321971,Y 27344583033,Y 31880592101,Y 23286031046,Y 0xad7e9d4a5561d4,Y 245101167,Y 1914864,Y 30292865509,Y 452445527898468,Y 32178483827,Y 0x36efed96ff0d9874ee],[Y 381517810393541,Y 354480714506448,Y 0xdd97bdfefbf964,Y 104,Y 205075058,Y 110,Y 0x529f5efc19926b45,Y 0xa53ebdf8312252,Y 1833716,Y 0xa53ebdfa73e954,Y 0x917e9d4a53e747,Y 219771120,Y 29464770035,Y 1700590,Y 31358351207,Y 12532],[Y 26809825140,Y 0x336febbb25fc9970e4,Y 29494194931,Y 226064500,Y 3876685804260,Y 3533111326323,Y 30815056505,Y 30041322226,Y 526728860170087,Y 0x24458312fd79f4a253,Y 0x2645834ea5fa726d45,Y 226129764,Y 31098403443,Y 242908517,Y 0x77dfcb273bf9b7f2,Y 3978722701548],[Y 29213029620,Y 0x63c3cb25fc5a7a73,Y 4013868954611,Y 0x46934a9d4bf06244a5169d3,Y 26780414579,Y 27621161448,Y 0x1e77f5dd9efecd3b74f4,Y 29494194916,Y 230191717,Y 22768416615,Y 372172001501902,Y 0x3af3cb92ff7dfcb273,Y 251394404,Y 27365241332,Y 1783799,Y 219837416],[Y 3773608572517,Y 242956276,Y 504875259000046,Y 0x1a37ecc9ceff2cb9b2f2cbbb1e5,Y 0x18f0f2c97f775db8b2f2,Y 0x73d9bfa5fefbf964,Y 3535500178163,Y 509787361669619,Y 230470374,Y 207352441,Y 13552,Y 478829734476255,Y 31114949099,Y 26809711219,Y 3427899405428,Y 438771123894902],[Y 226063088,Y 219936485,Y 27365554529,Y 3879105836280,Y 0x1d37ecc97fa61e59f2f4,Y 513537109228147,Y 1914084,Y 244939892,Y 0x1bb7f4cb7fa68e5bfbee,Y 31115180389,Y 1766638,Y 0xc997361ebb3a73,Y 4049828673907,Y 0x62f37f775db8b2f2,Y 28418144883,Y 27585574515],[Y 1833075,Y 487149371503347,Y 31114951269,Y 2874607446734,Y 245102180,Y 4013887847406,Y 26780317299,Y 3879940535012,Y 3429736706803,Y 0xd3bba65e5bb2e4,Y 465605807093622,Y 219772516,Y 3944365258356,Y 228096500,Y 0x75dda30eec9b32e4,Y 460759471174387],[Y 3877486785267,Y 0x50d9871e591bf9f4,Y 509787357655794,Y 369049869300466,Y 3430839808754,Y 0x25e9dd921ecdfcf2f2,Y 509891483284210,Y 369153994928882,Y 0x1bb7f4cb7f875e7a32e4,Y 109,Y 328229897707737,Y 102,Y 19031160549,Y 251394411,Y 0x3369dd92ff4d1a7767,Y 0xefbf964e77f7e6],[Y 0x70ebcf45fefbf964,Y 0x3875e7a2ff6c3b3ae5,Y 29213129331,Y 4080715789043,Y 0x6fd992ff3d9bfa73,Y 27084223726,Y 26249607539,Y 0x3965cd97973bfe77f5dd9f2f2,Y 0x79dfd7767cbcaff3d9bfa73,Y 0x6dc3cb5dfc787964,Y 1668964,Y 217837804,Y 0xcbbb25fdf9afefd9932f2,Y 0x36efed96ff6c3b3ae5,Y 0xdbbfb65c97fb61d9d72f3,Y 105],[Y 3739286665063,Y 31114951923,Y 0xe797a74d996ff4d1a7767,Y 23588549235,Y 27361114489,Y 0x70ebd2fecd3cfa73,Y 0x6ecbdefecd3cfa73,Y 0x1b77f6cb92fe1c993973,Y 0x73cbd3a6ccb7fa68d3bb3f3,Y 0x73e9cb7eecf7fb61d9d72f3,Y 230193515,Y 0x396fdfd2fecd3cfa73,Y 0x63d9970f2bfa30eec9b32f3,Y 319945956387156,Y 0x1c34e3d77f369dd87673,Y 0x3965c38f45fdbbf965],[Y 2499563218759,Y 3394582083941,Y 0x19b4eec97f669eda7767,Y 0x386cc3bafeddfdb2f3,Y 0xdbbfb65bf8766c,Y 0xdbbfb65bfa30eec9b32f3,Y 0x1cb2eecbdefe3c3cb273,Y 0x376fe996fe3dfb3665c7d32e4,Y 3981407236836,Y 26794818021,Y 209286764,Y 320021982819059,Y 439249754747380,Y 30836259443,Y 0x74d1cb7f7bfbb2f7,Y 345959522705625],[Y 0x18f7ecd9971f4bf9b7f2,Y 345959528916164,Y 0xc58725fc3cb3f5db97774,Y 0x2a5f834a3d2833a3c5,Y 0x15b0eceb9506debcfa20c595070dfcf4f4d3db2ae,Y 4012008665844,Y 2732292399572,Y 0x10e6df9f0a55f8d267419926d45,Y 22748883271,Y 0x56c3b3ae5418f0eeddbfa20c59506eebb362e,Y 0xe7d7870e5979f3,Y 0x1d3469dd9efeec3b72e4,Y 0x66d3bb0ecd3cf2e4,Y 0x3965e5973e9e7d32f2,Y 103,Y 0x8d4afc18f064ce],[Y 0xd3bafe6d3bb0ecd3cf2f2,Y 0x3a61d796ff2cb87279,Y 0x70ebcf45fc78766c,Y 0xcda7761d9a79e5e57f7e6,Y 0x4ebf0e7cc99161d4,Y 0x47c70f7ecd9971f4,Y 0x4ebf0e7cc99161d4bf1e2ce,Y 0x8f8e1efd9b32e3e91f2ee,Y 0x275fa756850a5169d3,Y 0x23e3a7d7870e5979f3,Y 0x9d7e945a5163c9a7522d2,Y 0x8f8e965e5973e9e7d32f2,Y 0x13afd78326a46933a0cc,Y 2466300589300,Y 181920948,Y 0x3765ef7f461dd93665],[Y 0x9d7e745af7e4419d12645,Y 0xaf970eb9b875e5,Y 0x13afc8833a24c8b7ea41a51e2d4,Y 0x2be5c3aea61e59f2f4,Y 119,Y 97,Y 32163592549,Y 116,Y 228227941,Y 28944609907,Y 31104744051,Y 217675635,Y 0x2fecc3deff6c3b3ae5,Y 26788705907,Y 209221228,Y 241006451],[Y 31083557491,Y 240809831,Y 0x2fecc3deff2cb871e8,Y 0x5fd987bdfef970eb,Y 228325876,Y 1799406,Y 99,Y 121,Y 122,Y 0x3465c3c2fe1d9b37e3,Y 0xe5973e9e7d32f2,Y 0xbfb30f7bfc3af4,Y 13550,Y 30047711986,Y 1799396,Y 230519272],[Y 0x5fd987bdfdd97c74,Y 310706397275724,Y 0x5fd987bdfe7876e5,Y 0x5fd987bdfe7d32f0,Y 217611109,Y 0x17f661ef7f761e9a7b65,Y 98,Y 0xbfb30f7bf8f7ecd9971f4,Y 14320,Y 0x5fd987bdfdb875e5,Y 0x39f4dfcb2dfe7b37f4,Y 0xbfb30f7bf9f2ee,Y 0x5fd987bdfcf97773,Y 0x5fd987bdfe9bf664,Y 0x5fd987bdfef874f4,Y 120],[Y 0x5fd987bdfc9972e4,Y 3978185832564,Y 232617715,Y 27602500084,Y 22525245797,Y 22499915366,Y 152662256,Y 0x69ddcfa61d9b2feec3d34f6cb7f3e3,Y 0x1a7773e98766cbfbb0f4d3db2dfef970eb,Y 1850100,Y 9396,Y 0x8d4afc387527d2,Y 2427393909463,Y 0x8d4afcdab32a49,Y 0x46a57e34999522d2,Y 21117478486],[Y 0x17f661ef7f165cdbf965,Y 217839588]]
def OX:List (List (Option GV)):=[[none,none,none,none,none,none,none,none,none,some (.val (.int 16)),some (.range),none,none,some (.val (.int 1)),none,some (.bi .len)],[none,some (.fn 6),none,none,none,some (.val (.int 6)),some (.val (.int 7)),none,some (.fn 4),some (.fn 3),none,some (.val (.int 24)),some (.val (.int 4096)),none,some (.val (.int 2)),some (.val (.int 3))],[some (.val (.int 4)),some (.val (.int 5)),some (.val (.int 8)),some (.val (.int 9)),some (.val (.int 11)),some (.val (.int 10)),none,some (.fn 5),some (.fn 7),some (.fn 9),some (.fn 8),some (.keys [20,9,10,11,12,13,14,15,16,17,18,19,1,4]),none,none,some (.val (.int 0)),some (.val (.int 14))],[some (.cls 0),none,none,none,none,none,none,none,some (.val (.int 4)),some (.val (.int 5)),none,none,none,none,none,some (.fn 13)],[some (.val (.int 6)),some (.val (.int 3)),none,none,none,none,some (.val (.int 2)),some (.val (.int 1)),none,some (.val (.int 0)),some (.val (.int 3)),none,none,none,none,none],[none,some (.fn 18),none,none,none,none,none,none,none,some (.val (.int 2)),some (.val (.int 3)),none,none,none,some (.fn 26),none],[none,none,none,some (.val (.int 16)),none,none,none,none,none,some (.cls 3),some (.val (.int 2)),some (.fn 30),none,none,none,none],[none,none,some (.fn 11),some (.fn 34),some (.fn 35),some (.fn 33),none,none,none,none,none,none,none,none,none,none],[none,none,none,none,some (.fn 46),none,none,none,some (.fn 44),none,none,none,none,none,none,none],[none,none,none,some (.val (.int 0)),none,none,none,none,none,none,none,none,none,none,none,none],[none,some (.cls 5),none,some (.cls 7),none,some (.cls 9),none,some (.cls 8),some (.fn 45),none,some (.val (.int (-2))),none,some (.cls 6),none,some (.fn 32),some (.fn 47)],[some (.fn 48),some (.fn 49),none,none,some (.fn 51),some (.fn 50),none,some (.fn 55),some (.fn 56),some (.fn 54),none,none,some (.fn 58),some (.fn 12),some (.fn 62),none],[none,some (.fn 61),some (.fn 66),some (.cls 11),none,some (.fn 64),some (.fn 63),some (.fn 65),some (.fn 67),some (.fn 17),some (.fn 52),some (.fn 69),some (.fn 19),some (.val (.int 1)),some (.fn 21),some (.fn 53)],[some (.val (.int 2)),none,some (.fn 70),some (.fn 59),some (.fn 68),some (.fn 20),some (.fn 57),some (.fn 31),some (.bi .sorted),none,none,some (.cls 2),some (.fn 71),some (.fn 72),none,some (.val (.int (-2)))],[some (.fn 73),some (.val (.int (-1))),some (.fn 75),some (.val (.int 32)),none,some (.fn 16),some (.val (.int 12)),some (.val (.int 6)),some (.val (.int 31)),none,some (.fn 23),some (.fn 74),none,some (.fn 24),none,some (.val (.int 5))],[some (.fn 81),some (.fn 25),none,some (.fn 78),some (.val (.int 33)),some (.cls 12),some (.val (.int 34)),some (.cls 13),some (.val (.int 35)),some (.cls 14),some (.val (.int 36)),some (.cls 15),some (.val (.int 37)),some (.cls 16),some (.val (.int 1)),some (.fn 15)],[some (.val (.int 38)),some (.cls 17),some (.val (.int 39)),some (.cls 18),none,none,none,none,none,none,none,none,some (.fn 87),none,none,none],[none,none,some (.fn 89),some (.fn 90),none,some (.bi .min),none,none,none,some (.fn 29),some (.fn 22),some (.fn 92),none,none,none,none],[some (.fn 94),some (.val (.int 0)),some (.fn 88),some (.fn 100),none,some (.fn 96),none,some (.fn 91),none,some (.fn 93),some (.fn 36),some (.fn 98),some (.val (.tup [(.int 0),(.int (-1)),(.int 1),(.int 2),(.int 3),(.int 2147483647),(.int (-2147483648))])),some (.fn 97),some (.fn 95),none],[some (.fn 99),none,none,none,some (.cls 1),some (.cls 10),some (.cls 4),some (.fn 83),some (.fn 86),none,some (.val (.int 7)),some (.val (.int 2)),some (.val (.int 3)),some (.val (.int 4)),some (.val (.int 1)),some (.val (.tup [(.int 4),(.int 0)]))],[some (.val (.tup [(.int 7),(.int 8),(.int 18),(.int 0),(.int 960),(.int 10),(.int 3),(.int 22),(.int 70),(.int 15),(.int 6),(.int 9),(.int 4),(.int 9),(.int 2),(.int 9),(.int 230),(.int 5),(.int 44),(.int 39),(.int 5)])),none]]
def TT:Tab:=⟨λ i=>match (OW.getD (i/16) [])[i%16]? with|some s=>s|none=>⟨lA [2000000+i]⟩,λ i=>(OX.getD (i/16) []).getD (i%16) none⟩
def Kl:List Stmt:=[2305,2306,2307,2368,2432,2496,2560,2624,2688,2752,3201,3712,3776,3840,4417,4480,4544,4608,4672,4736,4800,4864,4928,4992,5056,5120,5504,5569,5633,5696,5760,5824,5888,5952,6016,6080,6144,6273,7169,7495,7503,7553,7555,7557,7616,7680,7744,8000,8064,8128,8192,8256,8320,8384,8512,8576,8640,8704,8832,8896,8961,9088,9152,9216,9280,9344,9408,9472,9536,9664,9728,9792,9920,9984,10560,10624,10753,10817,10880,10945,11009,11072,11137,11200,11265,11329,11392,11648,11712,11776,11840,11904,11968,12032,12096,12160,12224,12288,12352,12416,12480,12544].map (λ n=>match n%64 with|0=>ķ (n/64)|j+1=>Sj (n/64) j)
def ckF(f:Fn)(s:Stmt):Bool:=pO TT f (zD s) (xb s) (zE s)
def xg:List Fn->List Stmt->Bool
 |[],[]=>true
 |f::r,s::t=>ckF f s&&xg r t
 |_,_=>false
theorem dD:∀(n:Nat) (f:List Fn) (s:List Stmt),xg (f.take n) (s.take n)=true->xg (f.drop n) (s.drop n)=true->xg f s=true
 |0,_,_,_,h=>h
 |_+1,[],[],_,_=>rfl
 |_+1,[],_::_,h,_=>by cases h
 |_+1,_::_,[],h,_=>by cases h
 |n+1,f::r,s::t,h,g=>by simp only[List.take_succ_cons,xg,Yx]at h;simp only[xg,Yx];exact⟨h.1,dD n r t h.2 g⟩
theorem ck1:xg (Bs.take 25) (Kl.take 25)=true:=by kernel_rfl
theorem ck2:xg ((Bs.drop 25).take 25) ((Kl.drop 25).take 25)=true:=by kernel_rfl
theorem ck3:xg (((Bs.drop 25).drop 25).take 25) (((Kl.drop 25).drop 25).take 25)=true:=by kernel_rfl
theorem ck4:xg (((Bs.drop 25).drop 25).drop 25) (((Kl.drop 25).drop 25).drop 25)=true:=by kernel_rfl
theorem ckA:xg Bs Kl=true:=dD 25 _ _ ck1 (dD 25 _ _ ck2 (dD 25 _ _ ck3 ck4))
end
end Mine
namespace Mine
open PySem PySem.W PyProof.Rows
noncomputable section
def wQ:List Nat:=[85,169,219,324,345,422,444,500,521,549,745,897,1030,1049,1075,1094,1120,1146,1165]
def A_:List Nat:=[68,75,82,96,103,110,117,124,131,138,166,181,188,195,216,230,237,244,251,258,265,272,279,286,293,300,307,321,342,356,363,370,377,384,391,398,405,419,441,609,665,693,707,721,754,761,768,789,796,803,810,817,824,831,838,845,852,859,866,873,887,915,922,929,936,943,950,957,964,971,978,985,992,999,1006,1013,1027,1046,1058,1072,1091,1103,1117,1129,1143,1162,1174,1183,1188,1195,1202,1207,1214,1219,1226,1233,1240,1245,1252,1257,1264,1269]
def S6:List Nat:=[0,1,2,3,54,67,68,74,75,81,82,84,85,95,96,102,103,109,110,116,117,123,124,130,131,137,138,165,166,168,169,174,180,181,187,188,194,195,215,216,218,219,229,230,236,237,243,244,250,251,257,258,264,265,271,272,278,279,285,286,292,293,299,300,306,307,320,321,323,324,341,342,344,345,355,356,362,363,369,370,376,377,383,384,390,391,397,398,404,405,418,419,421,422,427,440,441,443,444,462,464,465,483,490,497,499,500,518,520,521,539,546,548,549,567,574,581,588,595,602,608,609,616,623,630,637,644,651,658,664,665,672,674,675,692,693,700,706,707,714,720,721,728,735,742,744,745,753,754,760,761,767,768,788,789,795,796,802,803,809,810,816,817,823,824,830,831,837,838,844,845,851,852,858,859,865,866,872,873,886,887,894,896,897,914,915,921,922,928,929,935,936,942,943,949,950,956,957,963,964,970,971,977,978,984,985,991,992,998,999,1005,1006,1012,1013,1026,1027,1029,1030,1045,1046,1048,1049,1057,1058,1071,1072,1074,1075,1090,1091,1093,1094,1102,1103,1116,1117,1119,1120,1128,1129,1142,1143,1145,1146,1161,1162,1164,1165,1173,1174,1175,1176,1182,1183,1187,1188,1194,1195,1201,1202,1206,1207,1213,1214,1218,1219,1225,1226,1232,1233,1239,1240,1244,1245,1251,1252,1256,1257,1263,1264,1268,1269]
def n7:List Nat->Nat->List Obj->Frag
 |i::r,n,o::l=>match Nat.beq i n with
  |true=>(i,o)::n7 r (n+1) l
  |false=>n7 (i::r) (n+1) l
 |_,_,_=>[]
def KK(P:Params):Frag:=n7 S6 0 (Sp P)
def BI(k:Nat):Addr:=wQ.getD k 0
def n8(f:Nat):Addr:=A_.getD f 0
abbrev qA:=Arguments×FuncBody×Scope×List (Str×Addr)×Addr×Addr×Value×Bool
def iZ(K:Frag)(a:Addr):Option qA:=match K.lookup a with
 |some ⟨.type "function",_,.func fd,_⟩=>some (fd.params,fd.body,fd.scope,fd.closure,fd.globals,fd.builtins,fd.defaults,match fd.code with
  |.ref c=>(match K.lookup c with
   |some ⟨_,_,.fields vs,_⟩=>(match vs.toList with
    |_::.str q _::_=>seq q fd.qualname
    |_=>false)
   |_=>false)
  |_=>false)
 |_=>none
abbrev rowOf(st:Stmt):Option qA:=some (zD st,.stmts (xb st),zE st,[],mainGlobals,builtinsNs,.none,true)
def sT(a b:Option (Option Value)):Bool:=a==b
def n9(K:Frag)(C:Addr):Bool:=plainGet K C ""&&sT (findIn K (.ref C) "__setattr__") (some (some (.builtin "object.__setattr__")))&&plainOver K C&&hasDictIn K C&&makesIn K C&&keepIn K (.ref C)
def Ba(K:Frag)(C:Addr)(x:Str):Bool:=(match findIn K (.ref C) x with
 |some attr=>noGet K attr
 |none=>false)&&sT (takerIn K C x) (some none)
def isFn(K:Frag)(a:Addr):Bool:=match typeIn K (.ref a)with
 |some (.type "function")=>true
 |_=>false
def js(K:Frag)(C:Addr):Option Nat->Bool
 |none=>sT (findIn K (.ref C) "__init__") (some (some (.builtin "object.__init__")))
 |some f=>sT (findIn K (.ref C) "__init__") (some (some (.ref (n8 f))))&&isFn K (n8 f)&&Nat.blt f 102
def jt(K:Frag)(C:Addr)(x:Str)(f:Nat):Bool:=sT (findIn K (.ref C) x) (some (some (.ref (n8 f))))&&isFn K (n8 f)&&Nat.blt f 102
def Ř:List DictEntry->Str->Option Value
 |[],_=>none
 |⟨_,.str s _,v⟩::r,n=>match seq s n with
  |true=>some v
  |false=>Ř r n
 |_::r,n=>Ř r n
def aC(K:Frag)(a:Addr):List DictEntry:=match K.lookup a with
 |some ⟨_,_,.dict es _,_⟩=>es.toList
 |_=>[]
def da(K:Frag)(a:Addr):Bool:=match K.lookup a with
 |some ⟨_,_,.dict es _,_⟩=>es.toList.all λ e=>match e.key with|.str _ _=>true|_=>false
 |_=>false
def tupK(K:Frag)(a:Addr)(f:List Value->Bool):Bool:=match K.lookup a with
 |some ⟨.type T,none,.seq vs _,sl⟩=>T=="tuple"&&sl.toList.isEmpty&&f vs.toList
 |_=>false
def vN(u:Value):Bool:=dX u.ctorIdx 0 λ h=>Value.none.elim (motive:=λ _=>Bool) u h true
def vB(a:Bool)(u:Value):Bool:=dX u.ctorIdx 3 λ h=>Value.bool.elim (motive:=λ _=>Bool) u h λ b=>a==b
def vI(a:Int)(f:Bool)(u:Value):Bool:=dX u.ctorIdx 4 λ h=>Value.int.elim (motive:=λ _=>Bool) u h λ b _=>decide (a=b)&&f
def vS(k:Nat)(u:Value):Bool:=dX u.ctorIdx 6 λ h=>Value.str.elim (motive:=λ _=>Bool) u h λ s _=>seq (TT.nm k) s
def vT(K:Frag)(f:List Value->Bool)(u:Value):Bool:=dX u.ctorIdx 10 λ h=>Value.ref.elim (motive:=λ _=>Bool) u h λ a=>tupK K a f
def vL(f:Value->Bool)(g:List Value->Bool):List Value->Bool
 |[]=>false
 |u::us=>f u&&g us
def JN(K:Frag):V->Value->Bool:=V.rec (motive_1:=λ _=>Value->Bool) (motive_2:=λ _=>List Value->Bool) vN vB (λ i=>vI i true) vS (λ _ _=>false) (λ _=>vT K) (λ _ _=>false) List.isEmpty λ _ _=>vL
def NH(K:Frag):List V->List Value->Bool:=V.rec_1 (motive_1:=λ _=>Value->Bool) (motive_2:=λ _=>List Value->Bool) vN vB (λ i=>vI i true) vS (λ _ _=>false) (λ _=>vT K) (λ _ _=>false) List.isEmpty λ _ _=>vL
def isRef(a:Addr):Option Value->Bool
 |some (.ref b)=>Nat.beq a b
 |_=>false
def NI:Bi->String
 |.len=>"len"|.sorted=>"sorted"|.min=>"min"
def JO(s:String):Option Value->Bool
 |some (.builtin t)=>s==t
 |_=>false
def JP(s:String):Option Value->Bool
 |some (.type t)=>s==t
 |_=>false
def Gg(ks:List Int):List DictEntry->Bool:=List.rec List.isEmpty (λ i _ f=>List.rec false λ d es _=>vI i (decide (d.hash=hashInt i)&&f es) d.key) ks
def Ŧ(K:Frag)(gs bs:List DictEntry)(x:Nat):Bool:=match TT.gl x with
 |none=>true
 |some (.val v)=>(match Ř gs (TT.nm x)with|some u=>JN K v u|none=>false)
 |some (.fn f)=>isRef (n8 f) (Ř gs (TT.nm x))&&Nat.blt f 102
 |some (.cls k)=>isRef (BI k) (Ř gs (TT.nm x))
 |some (.bi b)=>(Ř gs (TT.nm x)).isNone&&JO (NI b) (Ř bs (TT.nm x))
 |some .range=>(Ř gs (TT.nm x)).isNone&&JP "range" (Ř bs (TT.nm x))
 |some (.keys ks)=>isRef 54 (Ř gs (TT.nm x))&&Gg ks (aC K 54)&&decide (ks=[20,9,10,11,12,13,14,15,16,17,18,19,1,4])
def Bb(K:Frag)(a:Addr):Bool:=match K.lookup a with
 |some ⟨.type T,none,.dict _ _,sl⟩=>T=="dict"&&sl.toList.isEmpty
 |_=>false
def lb(K:Frag):Bool:=wQ.all (n9 K)
 &&(List.range 19).all (λ k=>match oR[k]? with|some r=>js K (BI k) r|none=>false)
 &&(List.range 19).all (λ k=>match lS[k]? with|some l=>l.all λ q=>jt K (BI k) (TT.nm q.1) q.2|none=>false)
 &&(List.range 19).all (λ k=>match xM[k]? with|some l=>l.all λ x=>Ba K (BI k) (TT.nm x)|none=>false)
 &&K.all (λ p=>match p.2.data with|.freed=>false|_=>true)&&(K.lookup 1).isSome
 &&da K 3&&da K 0&&da K 2&&(Ř (aC K 2) "sys.recursionlimit").isNone&&Bb K 54
 &&(List.range 336).all (Ŧ K (aC K 3) (aC K 0))
theorem Bc(P:Params):lb (KK P)=true:=by kernel_rfl
def code(s:Str):Nat:=s.cps.toList.foldl (λ a c=>a*2097152+c) 0*1024+s.cps.size
def n_:List Nat->Bool
 |[]=>true
 |x::r=>r.all (λ y=>!Nat.beq x y)&&n_ r
def oa:List Fn->List (Option qA)->Prop
 |[],[]=>True
 |f::r,o::s=>(∃st,o=rowOf st/\pO TT f (zD st) (xb st) (zE st)=true)/\oa r s
 |_,_=>False
def qB:List (Option qA):=Kl.map rowOf
theorem oc(P:Params):A_.map (iZ (KK P))=qB:=by kernel_rfl
def iC:List Nat:=(List.range 336).map (λ x=>code (TT.nm x))
theorem u7:∀(f:List Fn) (s:List Stmt),xg f s=true->oa f (s.map rowOf)
 |[],[],_=>trivial
 |[],_::_,h=>by exact ft h
 |_::_,[],h=>by exact ft h
 |f::r,s::t,h=>by obtain⟨a,b⟩:=XK.mp h;exact⟨⟨_,rfl,a⟩,u7 r t b⟩
theorem ED:oa Bs qB:=u7 _ _ ckA
theorem Bd:n_ iC=true:=by kernel_rfl
theorem Be:iC.all (λ c=>(!Nat.beq (c%1024) 1||Nat.blt c (2000336*1024))&&!Nat.beq c (code "__debug__")&&!Nat.beq c (code ⟨#[46,48]⟩))=true:=by kernel_rfl
theorem Bf:code "__debug__"%1024=9:=by kernel_rfl
theorem Bh:code ⟨#[46,48]⟩%1024=2:=by kernel_rfl
theorem JQ(x:Nat)(h:336<=x):TT.nm x=⟨lA [2000000+x]⟩:=by
 show(match (OW.getD (x/16) [])[x%16]? with|some s=>s|none=>⟨lA [2000000+x]⟩)=_;have hl:OW.length=21:=by kernel_rfl
 have:OW.getD (x/16) []=[]:=by rw[XO,Zz (by omega)];rfl
 rw[this];rfl
theorem JR(x:Nat)(h:336<=x):TT.gl x=none:=by
 show(OX.getD (x/16) []).getD (x%16) none=_;have hl:OX.length=21:=by kernel_rfl
 have:OX.getD (x/16) []=[]:=by rw[XO,Zz (by omega)];rfl
 rw[this];rfl
theorem de(x:Nat)(h:336<=x):code (TT.nm x)=(2000000+x)*1024+1:=by rw[JQ x h];show(0*2097152+(2000000+x))*1024+1=_;omega
theorem bl(x:Nat)(h:x<336):iC[x]?\(code (TT.nm x)):=by simp[iC,h]
theorem mz:∀{l:List Nat},n_ l=true->l.Nodup
 |[],_=>YU
 |x::r,h=>by simp only[n_,Yx]at h;refine X0.mpr ⟨λ hm=>?_,mz h.2⟩;have:=YI.mp h.1 x hm;simp at this
theorem iD{c:Nat}(h:c∈iC):(c%1024≠1\/c<2000336*1024)/\c≠code "__debug__"/\c≠code ⟨#[46,48]⟩:=by
 have:=YI.mp Be c h;simp only[Yx,Bool.or_eq_true,Bool.not_eq_true',abg]at this;obtain⟨⟨U,h2⟩,h3⟩:=this;refine⟨U.imp (λ q e=>?_) id,λ e=>?_,λ e=>?_⟩
 ·rw[e]at q;exact tf q
 ·rw[e,abj]at h2;exact tf h2
 ·rw[e,abj]at h3;exact tf h3
theorem JS(x y:Nat)(e:TT.nm x=TT.nm y):x=y:=by
 have e:=Xq code e;by_cases hx:x<336<;>by_cases hy:y<336
 ·have U:=bl x hx;have h2:=bl y hy;rw[e]at U;have nd:=mz Bd;have l1:x<iC.length:=(Xv.mp U).1;exact(List.getElem?_inj l1 nd).mp (U.trans h2.symm)
 ·have U:=iD (Xt (bl x hx));rw[e,de y (by exact Yg hy)]at U;omega
 ·have U:=iD (Xt (bl y hy));rw[<-e,de x (by exact Yg hx)]at U;omega
 ·rw[de x (by exact Yg hx),de y (by exact Yg hy)]at e;omega
theorem Gh(x:Nat):TT.nm x≠"__debug__"/\TT.nm x≠⟨#[46,48]⟩:=by
 by_cases hx:x<336
 ·have h:=iD (Xt (bl x hx));exact⟨λ e=>h.2.1 (by rw[e]),λ e=>h.2.2 (by rw[e])⟩
 ·have h:=de x (by exact Yg hx);constructor
  ·intro e;rw[e]at h;have:=Bf;omega
  ·intro e;rw[e]at h;have:=Bh;omega
theorem df:∀{idx:List Nat} {n:Nat} {l:List Obj} {a:Nat} {o:Obj},(n7 idx n l).lookup a\o->n<=a/\l[a - n]?\o
 |[],n,l,a,o,h=>by unfold n7 at h;simp at h
 |i::r,n,[],a,o,h=>by unfold n7 at h;simp at h
 |i::r,n,x::l,a,o,h=>by
  unfold n7 at h;split at h
  ·rename_i e;have e:=YM e;subst e;rw[YR]at h;split at h
   ·rename_i e2;have:a=i:=by simpa using e2
    subst this;simpa using h
   ·obtain⟨U,h2⟩:=df h;refine⟨by exact XJ U,?_⟩;have:a - i=(a -(i+1))+1:=by exact Yq (ln [_,_,_,_] [] (.c 1 (.a (.v 0) (.v 1)) (.v 2) (.c 1 (.v 2) (.a (.v 3) (.a (.v 1) (.k 1))) .e)) 0 (.v 0) (.a (.v 3) (.k 1)) rfl (XB (Yb (ln [_,_] [] (.c 1 (.a (.v 0) (.k 1)) (.v 1) .e) 0 (.v 0) (.v 1) rfl U))) (su _ _)) (ln [_,_,_,_] [] (.c 1 (.a (.v 0) (.a (.v 1) (.k 1))) (.v 2) (.c 1 (.v 2) (.a (.v 3) (.v 1)) .e)) 0 (.a (.v 0) (.k 1)) (.v 3) rfl (XB (Yb (ln [_,_] [] (.c 1 (.a (.v 0) (.k 1)) (.v 1) .e) 0 (.a (.v 0) (.k 1)) (.v 1) rfl U))) (su _ _))
    rw[this];exact h2
  ·obtain⟨U,h2⟩:=df h;refine⟨by exact XJ U,?_⟩;have:a - n=(a -(n+1))+1:=by exact Yq (ln [_,_,_,_] [] (.c 1 (.a (.v 0) (.v 1)) (.v 2) (.c 1 (.v 2) (.a (.v 3) (.a (.v 1) (.k 1))) .e)) 0 (.v 0) (.a (.v 3) (.k 1)) rfl (XB (Yb (ln [_,_] [] (.c 1 (.a (.v 0) (.k 1)) (.v 1) .e) 0 (.v 0) (.v 1) rfl U))) (su _ _)) (ln [_,_,_,_] [] (.c 1 (.a (.v 0) (.a (.v 1) (.k 1))) (.v 2) (.c 1 (.v 2) (.a (.v 3) (.v 1)) .e)) 0 (.a (.v 0) (.k 1)) (.v 3) rfl (XB (Yb (ln [_,_] [] (.c 1 (.a (.v 0) (.k 1)) (.v 1) .e) 0 (.a (.v 0) (.k 1)) (.v 1) rfl U))) (su _ _))
   rw[this];exact h2
theorem i0:∀{K:Frag} {a:Addr} {o:Obj},K.lookup a\o->(a,o)∈K
 |[],a,o,h=>by simp at h
 |(b,x)::r,a,o,h=>by
  rw[YR]at h;split at h
  ·rename_i e;have:a=b:=by simpa using e
   subst this;obtain rfl:=Xn h;exact X2 ..
  ·exact XM _ (i0 h)
theorem EE{idx:List Nat}{l:List Obj}{lf:Life}(h:(n7 idx 0 l).all (λ p=>match p.2.data with|.freed=>false|_=>true)=true):(n7 idx 0 l).In ⟨lA l,lf⟩:=by
 intro a o ho;obtain⟨_,h2⟩:=df ho;have hnf:=YI.mp h _ (i0 ho);show(match (lA l)[a]? with|some ⟨_,_,.freed,_⟩=>none|o=>o)\o
 have h3:(lA l)[a]?\o:=by
  have:(lA l)[a]?=l[a]?:=by simp[lA]
  rw[this];simpa using h2
 rw[h3];obtain⟨c,dd,dt,sl⟩:=o;cases dt<;>first|rfl|(exact XR hnf)
theorem iE:∀(es:List DictEntry) (n:Str),((es.find? λ e=>e.key.isStr n).map (·.val))=Ř es n
 |[],n=>rfl
 |⟨hs,k,v⟩::r,n=>by
  rw[Zt];cases k with
  |str s t=>
   show Option.map _ (match (s==n)with|true=>_|false=>_)=(match seq s n with|true=>some v|false=>Ř r n);rw[uV];cases h:(s==n)with
   |true=>rfl
   |false=>exact iE r n
  |_=>exact iE r n
theorem Bj{K:Frag}{H:Heap}{a:Addr}(hK:K.In H)(h:da K a=true):H.Ns a (Ř (aC K a)):=by
 unfold da at h;split at h
 ·rename_i cl dd es ep sl ho;refine⟨_,es,ep,hK _ _ ho,rfl,?_,λ n=>?_⟩
  ·intro e he;have:=YI.mp h e (by simpa using he);split at this
   ·rename_i s t hk;exact⟨s,t,hk⟩
   ·exact ft this
  ·unfold aC;rw[ho];show(es.find? λ e=>e.key.isStr n).map (·.val)=_;rw[<-iE,<-Array.find?_toList]
 ·exact ft h
def BJ(w:World)(K:Frag)(H:Heap):Cx:={T:=TT,prog:=PW,w:=w,K:=K,H0:=H,mg:=Ř (aC K 3),mb:=Ř (aC K 0),cls:=BI,fn:=n8,sig:=G}
theorem EF{K:Frag}{a:Addr}{f:List Value->Bool}{P:Prop}(h:tupK K a f=true)(k:∀vs n,K.lookup a\(ģ vs n)->f vs.toList=true->P):P:=by
 unfold tupK at h;split at h
 ·rename_i T vs n sl ho;have h:=XK.mp h;have g:=XK.mp h.1;have e:sl=#[]:=Array.toList_inj.mp (ZK.mp g.2);exact k vs n (ho^(Zy g.1▸e▸rfl)) h.2
 ·exact ft h
theorem NJ{u:Value}(h:vN u=true):u=.none:=Ċ h λ e q=>Value.none.elim (motive:=λ u=>∀e:u.ctorIdx=0,u=.none) u e (λ _=>rfl) e
theorem NK{a:Bool}{u:Value}(h:vB a u=true):u=.bool a:=Ċ h λ e q=>Value.bool.elim (motive:=λ u=>∀e:u.ctorIdx=3,Value.bool.elim (motive:=λ _=>Bool) u e (λ b=>a==b)=true->u=.bool a) u e (λ b _ q=>Xq _ (Zy q).symm) e q
theorem Gi{a:Int}{f:Bool}{u:Value}{P:Value->Prop}(h:vI a f u=true)(k:∀t,f=true->P (.int a t)):P u:=Ċ h λ e q=>Value.int.elim (motive:=λ u=>∀e:u.ctorIdx=4,Value.int.elim (motive:=λ _=>Bool) u e (λ b _=>decide (a=b)&&f)=true->P u) u e (λ b t _ q=>(XA (XK.mp q).1:a=b)▸k t (XK.mp q).2) e q
theorem NL{k:Nat}{u:Value}(h:vS k u=true):∃t,u=.str (TT.nm k) t:=Ċ h λ e q=>Value.str.elim (motive:=λ u=>∀e:u.ctorIdx=6,Value.str.elim (motive:=λ _=>Bool) u e (λ s _=>seq (TT.nm k) s)=true->∃t,u=.str (TT.nm k) t) u e (λ s t _ q=>⟨t,Xq (λ s=>Value.str s t) (seq_eq q).symm⟩) e q
theorem NM{K:Frag}{f:List Value->Bool}{u:Value}(h:vT K f u=true):∃a,u=.ref a/\tupK K a f=true:=Ċ h λ e q=>Value.ref.elim (motive:=λ u=>∀e:u.ctorIdx=10,Value.ref.elim (motive:=λ _=>Bool) u e (λ a=>tupK K a f)=true->∃a,u=.ref a/\tupK K a f=true) u e (λ a _ q=>⟨a,rfl,q⟩) e q
theorem EG{w:World}{K:Frag}{H:Heap}(hK:K.In H){v:V}{u:Value}:JN K v u=true->VR (BJ w K H) [] H v u:=by
 refine V.rec (motive_1:=λ v=>∀u,JN K v u=true->VR (BJ w K H) [] H v u) (motive_2:=λ l=>∀us,NH K l us=true->ö (BJ w K H) [] H l us) ?_ ?_ ?_ ?_ ?_ ?_ ?_ ?_ ?_ v u
 ·exact λ u h=>(NJ h:)
 ·exact λ a u h=>(NK h:)
 ·exact λ a u h=>(Gi (P:=λ u=>∃t,u=.int a t) h λ t _=>⟨t,rfl⟩:)
 ·exact λ k u h=>(NL h:)
 ·exact λ _ _ h=>ft h
 ·exact λ l ih u h=>(NM h).elim λ a g=>EF g.2 λ vs n ho q=>(⟨a,vs,n,g.1,hK _ _ ho,ih _ q⟩:∃a vs n,u=.ref a/\H.get? a\(ģ vs n)/\ö (BJ w K H) [] H l vs.toList)
 ·exact λ _ _ h=>ft h
 ·exact λ us h=>(ZK.mp h:)
 ·exact λ v l hv hl us=>List.rec (λ h=>ft h) (λ u us _ h=>.cons (hv u (XK.mp h).1) (hl us (XK.mp h).2)) us
theorem gT{a b:Option (Option Value)}(h:sT a b=true):a=b:=by unfold sT at h;simpa using h
theorem u9{K:Frag}{a:Addr}(h:isFn K a=true):typeIn K (.ref a)\(.type "function"):=by
 unfold isFn at h;split at h
 ·rename_i e;exact e
 ·exact ft h
theorem gU{a:Addr}{o:Option Value}(h:isRef a o=true):o\(.ref a):=by
 unfold isRef at h;split at h
 ·rw[YM h]
 ·exact ft h
theorem EH{s:String}{o:Option Value}(h:JO s o=true):o\(.builtin s):=by
 unfold JO at h;split at h
 ·rw[Zy h]
 ·exact ft h
theorem EI{s:String}{o:Option Value}(h:JP s o=true):o\(.type s):=by
 unfold JP at h;split at h
 ·rw[Zy h]
 ·exact ft h
theorem qC{k:Nat}{r:Option Nat}(h:G.init k\r):oR[k]?\r/\k<19:=by
 have h:oR[k]?\r:=h;have hl:oR.length=19:=by kernel_rfl
 exact⟨h,hl▸(Xv.mp h).1⟩
theorem Bk{k x f:Nat}(h:G.ì k x\f):∃l,lS[k]?\l/\(x,f)∈l/\k<19:=by
 have h:((lS[k]?).bind λ l=>(l.find? (λ p=>p.1==x)).map (·.2))\f:=h;have hl:lS.length=19:=by kernel_rfl
 cases e:lS[k]? with
 |none=>rw[e]at h;exact ns h
 |some l=>
  rw[e]at h;have h:(l.find? (λ p=>p.1==x)).map (·.2)\f:=h;refine dQ (Zr.mp h) λ p U=>?_;rintro rfl;have h2:=aa5 U;have h3:=ZL U;have:p.1=x:=by exact XA h2
  subst this;exact⟨l,rfl,h3,hl▸(Xv.mp e).1⟩
theorem EJ{k x:Nat}(h:G.fld k x=true):∃l,xM[k]?\l/\x∈l/\k<19:=by
 have h:(match xM[k]? with|some l=>l.any (λ y=>y==x)|none=>false)=true:=h;have hl:xM.length=19:=by kernel_rfl
 split at h
 ·rename_i l e;refine dQ (List.any_eq_true.mp h) λ y hy e2=>?_;have:y=x:=by simpa using e2
  subst this;exact⟨l,e,hy,hl▸(Xv.mp e).1⟩
 ·exact ft h
theorem EK{x:Nat}{g:GV}(h:TT.gl x\g):x<336:=by
 by_cases hx:x<336
 ·exact hx
 ·rw[JR x (by exact Yg hx)]at h;exact ns h
theorem qD{prog:Program}{w:World}{ks:List Int}:∀{es:List DictEntry},Gg ks es=true->∃kvs:List (Int×Value),kvs.map (·.1)=ks/\Pairs (intKind prog w) es kvs/\∀e∈es,∃k,(intKind prog w).is k e.key=true/\e.hash=(intKind prog w).hash k:=by
 induction ks with
 |nil=>exact fun {es} h=>(ZK.mp h:es=[])▸⟨[],rfl,.nil,λ _ h=>nomatch h⟩
 |cons i r ih=>
  intro es;cases es with
  |nil=>exact λ h=>ft h
  |cons d es=>
   exact λ h=>Gi (P:=λ u=>d.key=u->_) h (λ t g q=>(ih (XK.mp g).2).elim λ kvs z=>
    have e:d=⟨hashInt i,.int i t,d.val⟩:=congr (Xq DictEntry.mk (XA (XK.mp g).1)) q▸rfl
    ⟨(i,d.val)::kvs,Xq (i::·) z.1,e▸.cons (aaC _ _ _ _) rfl z.2.1,λ e' he=>(XE.mp he).elim (λ q=>⟨i,q▸e▸aaC _ _ _ _,q▸e▸rfl⟩) (z.2.2 e')⟩) rfl
theorem wR:([20,9,10,11,12,13,14,15,16,17,18,19,1,4]:List Int).Nodup:=by decide
theorem EL{K:Frag}{l:List (Option qA)}:∀{ad:List Nat} {fl:List Fn},oa fl l->ad.map (iZ K)=l->∀{f:Nat} {fn:Fn},fl[f]?\fn->∃st,iZ K (ad.getD f 0)\(zD st,.stmts (xb st),zE st,[],mainGlobals,builtinsNs,.none,true)/\pO TT fn (zD st) (xb st) (zE st)=true:=by
 induction l with
 |nil=>
  intro ad fl hp he f fn hf;cases fl with
  |nil=>simp at hf
  |cons _ _=>exact hp.elim
 |cons o l ih=>
  intro ad fl hp he f fn hf;cases fl with
  |nil=>exact hp.elim
  |cons g fl=>
   cases ad with
   |nil=>simp at he
   |cons a ad=>
    obtain⟨⟨st,U,h2⟩,hp⟩:=hp;simp only[Yd,Zs]at he;cases f with
    |zero=>
     simp at hf;subst hf;exact⟨st,he.1^U,h2⟩
    |succ f=>
     simp at hf;exact ih hp he.2 hf
theorem EM{c:Cx}{f:Nat}{fn:Fn}{st:Stmt}(hK:c.K.In c.H0)(hT:c.T=TT)(h:iZ c.K (c.fn f)\(zD st,.stmts (xb st),zE st,[],mainGlobals,builtinsNs,.none,true))(hc:pO TT fn (zD st) (xb st) (zE st)=true):A7 c f fn:=by
 unfold iZ at h;split at h
 ·rename_i dd fd sl ho;have h:=Xn h;simp only[abf]at h;refine O_ h λ U h2 h3 h4 h5 h6 h7 h8=>?_;refine⟨_,fd,xb st,hK _ _ ho,rfl,h2,h4,h5,h6,h7,?_,by rw[hT,U,h3];exact hc⟩;split at h8
  ·rename_i cc BD;split at h8
   ·rename_i d2 cl2 vs sl2 ho2;split at h8
    ·rename_i v0 q t r e;have:vs[1]?\(.str q t):=by rw[<-Zd,e];rfl
     exact⟨cc,_,vs,t,BD,hK _ _ ho2,rfl,by rw[this,seq_eq h8]⟩
    ·exact ft h8
   ·exact ft h8
  ·exact ft h8
 ·exact ns h
theorem Bl{w:World}{K:Frag}{H:Heap}(hK:K.In H)(rows:A_.map (iZ K)=qB):∀f fn,fns f\fn->A7 (BJ w K H) f fn:=by intro f fn hf;have hf:Bs[f]?\fn:=hf;refine dQ (EL ED rows hf) λ st U h2=>?_;exact EM (c:=BJ w K H) hK rfl U h2
theorem NN{f:Nat}(h:f<102):∃fn,fns f\fn:=by
 have hl:Bs.length=102:=by kernel_rfl
 exact⟨Bs[f]'(hl▸h),Xz _⟩
theorem Bm{p:Nat->Bool}(h:(List.range 19).all p=true){k:Nat}(hk:k<19):p k=true:=YI.mp h k (ZC.mpr hk)
theorem Bn{w:World}{K:Frag}{H:Heap}(hK:K.In H)(h:lb K=true)(rows:A_.map (iZ K)=qB):ă (BJ w K H):=by
 have FO:=Bl (w:=w) hK rows;unfold lb at h;simp only[Yx]at h;obtain⟨⟨⟨⟨⟨⟨⟨⟨⟨⟨⟨c1,c2⟩,c3⟩,c4⟩,c5⟩,c6⟩,c7⟩,c8⟩,c9⟩,OL⟩,Iw⟩,So⟩:=h;have gl:∀x g,TT.gl x\g->Ŧ K (aC K 3) (aC K 0) x=true:=λ x g e=>YI.mp So x (ZC.mpr (EK e))
 have cln:∀k,k<19->BI k∈wQ:=by
  intro k hk;have hl:wQ.length=19:=by kernel_rfl
  have:BI k=wQ[k]'(hl▸hk):=by show wQ.getD k 0=_;rw[XO,Xz (hl▸hk)];rfl
  rw[this];exact Zn _
 have WX:∀k,(G.init k).isSome=true->n9 K (BI k)=true:=by intro k hk;obtain⟨r,hr⟩:=X_.mp hk;exact YI.mp c1 _ (cln k (qC hr).2)
 have S7:∀k r,G.init k\r->js K (BI k) r=true:=by intro k r hr;obtain⟨U,h2⟩:=qC hr;have:=Bm c2 h2;rw[U]at this;exact this
 have met:∀k x f,G.ì k x\f->jt K (BI k) (TT.nm x) f=true:=by intro k x f hm;refine gV (Bk hm) λ l U h2 h3=>?_;have:=Bm c3 h3;rw[U]at this;exact YI.mp this _ h2
 exact {
  ns:=Bj hK c7
  nb:=Bj hK c8
  nolimit:=⟨_,Bj hK c9,by
   cases e:Ř (aC K 2) "sys.recursionlimit" with
   |none=>exact e
   |some v=>rw[e]at OL;exact ft OL⟩
  Wx:=hK
  DS:=JS
  uE:=λ x=>by show(TT.nm x==("__debug__":Str))=false;have:=(Gh x).1;exact XW this
  Wy:=λ x v e=>by
   have h:=gl x _ e;unfold Ŧ at h;rw[show TT.gl x\(.val v)from e]at h;dsimp only at h;split at h
   ·rename_i u hu;exact⟨u,hu,EG hK h⟩
   ·exact ft h
  Wz:=λ x f e=>by have h:=gl x _ e;unfold Ŧ at h;rw[show TT.gl x\(.fn f)from e]at h;dsimp only at h;exact gU (XK.mp h).1
  WA:=λ x k e=>by have h:=gl x _ e;unfold Ŧ at h;rw[show TT.gl x\(.cls k)from e]at h;exact gU h
  cl:=λ k hk=>by have:=WX k hk;unfold n9 at this;simp only[Yx]at this;obtain⟨⟨⟨⟨⟨a1,a2⟩,a3⟩,a4⟩,a5⟩,a6⟩:=this;exact⟨a1,gT a2,a3,a4,a5⟩
  fld:=λ k x hx=>by
   refine gV (EJ hx) λ l U h2 h3=>?_;have:=Bm c4 h3;rw[U]at this;have:=YI.mp this _ h2;unfold Ba at this;obtain⟨b1,b2⟩:=XK.mp this;split at b1
   ·rename_i attr ha;exact⟨attr,ha,b1,gT b2⟩
   ·exact ft b1
  FU:=λ k hk=>by have:=WX k hk;unfold n9 at this;simp only[Yx]at this;exact this.2
  FV:=λ k hk=>by have:=S7 k _ hk;exact gT this
  FW:=λ k f hk=>by have:=S7 k _ hk;unfold js at this;simp only[Yx]at this;exact⟨gT this.1.1,u9 this.1.2⟩
  ì:=λ k x f hm=>by have:=met k x f hm;unfold jt at this;simp only[Yx]at this;exact⟨gT this.1.1,u9 this.1.2⟩
  M5:=by kernel_rfl
  WB:=by kernel_rfl
  WC:=by kernel_rfl
  FX:=λ x=>(Gh x).2
  WE:=λ x b e=>by
   have h:=gl x _ e;unfold Ŧ at h;rw[show TT.gl x\(.bi b)from e]at h;dsimp only at h;obtain⟨U,h2⟩:=XK.mp h;refine⟨?_,?_⟩
   ·show Ř (aC K 3) (TT.nm x)=none;cases q:Ř (aC K 3) (TT.nm x)with
    |none=>rfl
    |some v=>rw[q]at U;exact ft U
   ·have:=EH h2;show Ř (aC K 0) (TT.nm x)=_;rw[this];cases b<;>rfl
  Sv:=λ x e=>by
   have h:=gl x _ e;unfold Ŧ at h;rw[show TT.gl x=some .range from e]at h;dsimp only at h;obtain⟨U,h2⟩:=XK.mp h;refine⟨?_,EI h2⟩;show Ř (aC K 3) (TT.nm x)=none;cases q:Ř (aC K 3) (TT.nm x)with
   |none=>rfl
   |some v=>rw[q]at U;exact ft U
  WG:=λ x ks e=>by
   have h:=gl x _ e;unfold Ŧ at h;rw[show TT.gl x\(.keys ks)from e]at h;dsimp only at h;simp only[Yx,YT]at h;obtain⟨⟨U,h2⟩,h3⟩:=h;subst h3;refine gV (qD (prog:=PW) (w:=w) h2) λ kvs e1 e2 e3=>?_;refine⟨54,kvs,gU U,?_,e1,by decide⟩;unfold Bb at Iw;split at Iw
   ·rename_i T es ep sl ho;simp only[Yx,ZW,ZK]at Iw;obtain⟨rfl,hs⟩:=Iw;have:sl=#[]:=by cases sl;simp at hs;exact hs▸rfl
    subst this;have he:aC K 54=es.toList:=by unfold aC;rw[ho]
    rw[he]at e2 e3;exact⟨_,es,ep,hK _ _ ho,⟨rfl,rfl,rfl⟩,rfl,λ e he=>e3 e (by simpa using he),e2,by rw[e1];exact wR⟩
   ·exact ft Iw
  fns:=λ f hf=>by
   have lt:f<102:=by
    rcases hf with⟨x,e⟩|⟨k,x,e⟩|⟨k,e⟩
    ·have h:=gl x _ e;unfold Ŧ at h;rw[show TT.gl x\(.fn f)from e]at h;dsimp only at h;exact abg.mp (XK.mp h).2
    ·have:=met k x f e;unfold jt at this;exact abg.mp (XK.mp this).2
    ·have:=S7 k _ e;unfold js at this;exact abg.mp (XK.mp this).2
   obtain⟨fn,OU⟩:=NN lt;refine W9 ((FO f fn OU).ex) λ o fd body U h2 _=>?_;exact⟨o,fd,U,h2⟩
  FY:=by obtain⟨o,ho⟩:=X_.mp c6;show(H.get? 1).isSome=true;rw[hK _ _ ho];rfl}
theorem JT(P:Params):(KK P).all (λ p=>match p.2.data with|.freed=>false|_=>true)=true:=by have:=Bc P;unfold lb at this;simp only[Yx]at this;exact this.1.1.1.1.1.1.1.2
theorem Bo(P:Params):(KK P).In (HF P):=by unfold KK HF;exact EE (JT P)
theorem NO(P:Params):isRef (n8 101) (Ř (aC (KK P) 3) (Ii (ķ 196)))=true:=by kernel_rfl
end
end Mine
namespace Mine
open PySem PySem.W PyProof.Rows PySem.Calls
noncomputable section
def S8:St:=⟨0,λ _=>none⟩
def Bp(D:Nat):Prop:=∀l:List Int,l.length<=63->∃Ú,Ý G fns D 101 [.fl l] S8\(.bool true,Ú)
theorem u_{R:WRecords}:∀{xs:List WData},WShape.hasItems R xs .int=true->∃l:List Int,xs=l.map .int
 |[],_=>⟨[],rfl⟩
 |x::xs,h=>by unfold WShape.hasItems at h;obtain⟨U,h2⟩:=XK.mp h;obtain⟨i,rfl⟩:=hasW_int U;obtain⟨l,rfl⟩:=u_ h2;exact⟨i::l,rfl⟩
theorem qE{P:Params}{h:Heap}:∀{l:List Int} {vs:List Value},WellAll P h vs (l.map .int)->IntsAre vs l
 |[],vs,w=>by cases w;exact .nil
 |i::l,vs,w=>by
  cases w with
  |cons a b=>cases a with
   |int _ t=>exact .cons _ t (qE b)
theorem EN{h:Heap}{a:Addr}{m₁ m₂:Str->Option Value}(x:h.Ns a m₁)(y:h.Ns a m₂)(n:Str):m₁ n=m₂ n:=by refine BK x λ o1 Ef ep1 g1 d1 _ f1=>?_;refine BK y λ o2 es2 ep2 g2 d2 _ f2=>?_;rw[g1]at g2;obtain rfl:=Xn g2;rw[d1]at d2;injection d2 with d2 _;subst d2;exact(f1 n).symm.trans (f2 n)
theorem EO{R:WRecords}{xs:List WData}(h:(OpenLaw.pre RW).holds R {args:=[.list xs]}=true):xs.length<=63:=by
 have e:OpenLaw.pre RW=.and (.not (.lt (.lit (.int 63)) (.len (.arg 0)))) (.lit (.bool true)):=rfl;rw[e]at h;by_cases hx:xs.length<=63
 ·exact hx
 ·exfalso;unfold WTm.holds at h;simp only[WTm.value]at h;have:less? (.int 63) (.int (xs.length:Int))\(decide ((63:Int)<xs.length)):=rfl;simp only[List.getElem?_cons_zero]at h;rw[this]at h;have:decide ((63:Int)<xs.length)=true:=by simp;exact li [_] [] (.c 1 (.a (.k 63) (.k 1)) (.v 0) .e) 0 (.a (.k 63) (.k 1)) (.n (.v 0)) rfl (Nat.lt_of_not_le hx)
  rw[this]at h;simp at h
theorem wU(args:List WData):RW.row.toRowW.claim.post args (.bool true) args=true:=by show WTm.holds _ (.eq .res (.lit (.bool true))) _=true;unfold WTm.holds;simp only[WTm.value,same_self]
theorem Bq(args:List WData)(cls:ExcName):RW.row.toRowW.claim.raises args cls=false:=by rfl
theorem JU{D:Nat}(hD:D<=190)(NP:Bp D){w:World}{K:Frag}{Â:Shared}{mg:Str->Option Value}{nm:Str}{a b:Addr}{vs:List Value}{l:List Int}(hK:K.In Â.heap)(JV:lb K=true)(rows:A_.map (iZ K)=qB)(S9:isRef (n8 101) (Ř (aC K 3) nm)=true)
  (S_:mg nm\(.ref a)) (SH:Â.heap.Ns mainGlobals mg) (hI:IntsAre vs l) (JW:Â.heap.get? b\{cls:=.type "list",data:=.seq vs.toArray}) (hlen:l.length<=63):
  wpAny (model PW w) callerA (call (.ref a) [.ref b]) (λ v s'=>v=.bool true/\(∀b o,Â.heap.get? b\o->s'.heap.get? b\o)/\s'.os=Â.os/\s'.gens=Â.gens) Ø Â:=by
 have S:=Bn (w:=w) hK JV rows;have FO:=Bl (w:=w) hK rows;have hC:=A9 S FO D;obtain⟨Ú,hl⟩:=NP l hlen
 have R0:Rel (BJ w K Â.heap) [] S8 Â.heap:={
  len:=rfl
  objs:=λ i o e=>by exact ns e
  nodup:=by simp
  above:=by simp
  e9:=λ b o e=>e
  full:=λ i hi=>absurd hi (YQ _)}
 have e1:=gU S9;have e2:=EN SH (show Â.heap.Ns mainGlobals (Ř (aC K 3))from S.ns) nm;have ha:a=n8 101:=Value.ref.inj (Xn (S_.symm.trans (e2^e1)));subst ha;refine wpAny_call (codeAny_mono (hC 101 [.fl l] S8 (.bool true) Ú hl callerA [] Â [.ref b] ?_ R0 ?_) λ r s' z=>?_)
 ·refine⟨rfl,?_,?_⟩
  ·have:callerA.depth=301:=by rfl
   exact ln [_,_] [] (.c 3 (.v 0) (.k 190) (.c 1 (.v 1) (.k 301) .e)) 0 (.a (.v 1) (.m 3 (.v 0))) (.k 900) rfl hD (XB this)
  ·have:callerA.units=4:=by rfl
   exact ln [_,_] [] (.c 40 (.v 0) (.k 190) (.c 1 (.v 1) (.k 4) .e)) 0 (.a (.v 1) (.m 40 (.v 0))) (.k 9000) rfl hD (XB this)
 ·refine .cons ?_ .nil;unfold VR;exact⟨b,vs.toArray,0,rfl,JW,hI⟩
 ·refine O6 z λ u=>?_;rintro rfl ð st R' hv;exact⟨hv.kM,λ b o e=>st.keep b o e (by simp) (by simp),st.os,st.gens⟩
theorem walk{D:Nat}(hD:D<=190)(NP:Bp D):WalkO qL eX (λ _ _=>True) YK RW.row.toRowW dL [] (λ f vs=>call f vs):=by
 intro w ħ Â mg mb Gd0 ZZ9 a o pm cd doc dV kV ho hd Nb hdf S_ NQ args vals as Ta aac hr hw dP;obtain⟨hsh,hpr⟩:=pre_splitW Ta;refine W8 (hasAllW_cons hsh) λ d r=>?_;rintro rfl U h2;obtain rfl:=hasAllW_nil h2;refine dQ (hasW_list U) λ xs=>?_;rintro rfl h3;obtain⟨l,rfl⟩:=u_ h3;have hlen:=EO hpr;cases hw with
 |cons w1 w2=>
  cases w2;cases w1 with
  |list JW JV=>
   rename_i b vs;have hK:(KK w.params).In Â.heap:=(Bo _).keeps ZZ9;refine YV (JU hD NP hK (Bc _) (oc _) (NO _) S_ Gd0.T.g (qE JV) JW (by simpa using hlen)) (λ u s' z=>?_) λ _ _ x=>x.elim;refine O7 z ?_;rintro rfl z1 z2 z3;exact⟨.inl ⟨.bool true,.bool true,[],rfl,Bq _,.bool _,wU _,λ _=>⟨by simp,by simp⟩⟩,.of_keep z1,z2,.of_eq (z3^NQ)⟩
theorem EP{D:Nat}(hD:D<=190)(NP:Bp D)(ws:RW.wellSaid=true):RW.Holds:=lI (walk hD NP) ws
end
end Mine
theorem PySem.Challenge.cw_sa0288_01_holds : PySem.Challenge.rw_sa0288_01.Holds :=
  Mine.EP (D := 61) (by decide) Mine.Z.Sg Mine.Wr
