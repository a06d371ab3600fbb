import PyProof.Rows.All
import Wide.All
import OpenK.AllK
import Wide.FinOn
import PySem.Challenge.RW_nz0106_01
set_option Elab.async false
set_option autoImplicit false
set_option linter.all false
set_option genSizeOf false
set_option genSizeOfSpec false
set_option genInjectivity false
set_option maxRecDepth 100000
set_option tactic.hygienic false
set_option backward.match.sparseCases false
set_option bootstrap.genMatcherCode false
set_option backward.linearNoConfusionType false
noncomputable section
namespace Hx
def Nm:=@List.mem_append_right
def Nn:=@List.length_map
def Nq:=@Nat.add_le_add
def Nr:=@List.mem_append_left
def Nt:=@Bool.and_eq_true_iff
def Nu:=@List.map_append
def Nv:=@List.mem_cons
def Nw:=@List.mem_append
def Nx:=@List.length_reverse
def Ny:=@Nat.le_of_eq
def Nz:=@List.getElem?_map
def NA:=@Nat.lt_of_le_of_lt
def NB:=@List.takeWhile_append_dropWhile
def ND:=@Bool.and_eq_true
def NF:=@Option.some.inj
def NG:=@Bool.false_ne_true
def NH:=@List.length_append
def NI:=@List.size_toArray
def NJ:=@Nat.lt_of_lt_of_le
def NK:=@List.append_assoc
def NM:=@List.getElem?_append_left
def NN:=@List.reverse_cons
def NO:=@List.getElem?_eq_none
def NP:=@List.getElem?_eq_getElem
def NQ:=@Nat.le_refl
def NR:=@Nat.eq_of_beq_eq_true
def NS:=@Nat.le_of_lt
def NT:=@Nat.lt_succ_self
def NU:=@List.mem_map
def NV:=@List.mem_range
def NW:=@List.Sublist.refl
def NX:=@List.mem_singleton
def NY:=@List.map_congr_left
def NZ:=@List.nodup_cons
def N0:=@List.length_range
def N1:=@Nat.le_trans
def N2:=@List.dropWhile_cons
def N3:=@List.reverse_append
def N4:=@List.getElem?_eq_some_iff
def N5:=@List.all_eq_true
def N6:=@List.mem_reverse
def N7:=@List.append_nil
def N_:=@Nat.lt_trans
def Oa:=@Nat.ne_of_lt
def Ob:=@List.mem_of_mem_drop
def Oc:=@Nat.lt_irrefl
def Od:=@List.length_cons
def Oe:=@Nat.le_succ
def Of:=@List.map_cons
def Og:=@List.getElem?_modify
def Oh:=@List.nodup_append
def Oi:=@Option.some_inj
def Oj:=@List.length_drop
def Ol:=@Nat.lt_succ_of_le
def Om:=@Nat.lt_succ_of_lt
def Oo:=@List.mem_of_getElem?
def Oq:=@List.reverse_reverse
def Ot:=@Nat.add_right_comm
def Ou:=@List.getElem_of_mem
def Ov:=@Nat.zero_le
def Ow:=@List.getElem?_append_right
def Ox:=@Int.ofNat_lt
def Oy:=@List.cons_append
def Oz:=@List.drop_eq_nil_of_le
def OA:=@Nat.succ_lt_succ
def OB:=@List.head?_dropWhile_not
def OC:=@List.pairwise_cons
def OD:=@List.dropWhile_sublist
def OE:=@List.Perm.nodup_iff
def OF:=@List.getElem?_range
def OG:=@List.drop_eq_getElem_cons
def OH:=@Int.lt_trans
def OI:=@Int.natCast_nonneg
def OJ:=@List.erase_sublist
def OK:=@List.not_mem_nil
def OL:=@Bool.eq_iff_iff
def OM:=@Int.ofNat_inj
def ON:=@List.filter_cons
def OO:=@PySem.F.slot_tuple_iterator_iter
def OP:=@Int.lt_of_lt_of_le
def OQ:=@List.countP_append
def OS:=@List.getElem?_reverse
def OU:=@List.map_singleton
def OV:=@Nat.le_of_ble_eq_true
def OW:=@List.range_succ
def OX:=@Nat.lt_or_ge
def OY:=@Nat.ne_of_gt
def OZ:=@Nat.not_lt_zero
def O0:=@Nat.zero_add
def O1:=@Nat.le_of_lt_succ
def O2:=@Nat.le_succ_of_le
def O3:=@Nat.add_le_add_left
def O4:=@Nat.add_sub_cancel'
def O5:=@List.any_eq_true
def O6:=@List.lookup_cons
def O7:=@Nat.lt_of_succ_lt_succ
def O8:=@Nat.add_comm
def O9:=@Nat.lt_of_lt_of_eq
def O_:=@List.erase_of_not_mem
def Pb:=@Nat.le_antisymm
def Pc:=@Bool.not_eq_true'
def Pd:=@Nat.lt_of_succ_lt
@[elab_as_elim]theorem aa.{u}{α:Sort u}{a b:α}{P:α→Prop}(h:a=b)(p:P b):P a:=h▸p
theorem gz{G:Prop}(h:false=true):G:=nomatch h
theorem cZ{β:Type}{G:Prop}{b:β}(h:(none:Option β)=some b):G:=nomatch h
theorem aJ{α:Type}{G:Prop}{a b:α}(k:a=b→G):some a=some b→G:=fun h=>k (NF h)
theorem du{α β:Type}{G:Prop}{a c:α}{b d:β}(k:a=c→b=d→G):(a,b)=(c,d)→G:=fun h=>k (Prod.mk.inj h).1 (Prod.mk.inj h).2
theorem nv{α β:Type}{G:Prop}{a c:α}{b d:β}(k:a=c→b=d→G):some (a,b)=some (c,d)→G:=fun h=>du k (NF h)
theorem CF{α β γ:Type}{G:Prop}{a c:α}{b d:β}{e f:γ}(k:a=c→b=d→e=f→G):some (a,b,e)=some (c,d,f)→G:=nv fun p=>du (k p)
@[elab_as_elim]theorem bR.{u}{α:Sort u}{a b:α}{P:α→Prop}(h:b=a)(p:P b):P a:=h▸p
inductive T|v:Nat→T|k:Nat→T|a:T→T→T|m:Nat→T→T
def ix(l:List Nat):Nat→Nat:=l.rec (fun _=>0) fun a _ f n=>n.casesOn a f
def T.d(c:List Nat)(t:T):Nat:=t.rec (fun i=>ix c i) (fun n=>n) (fun _ _ x y=>x+y) fun n _ x=>n*x
def pA(p:List Nat):List Nat→List Nat:=p.rec (fun q=>q) fun a l f q=>q.casesOn (a::l) fun b r=>(a+b)::f r
def pL(p:List Nat):List Nat→Bool:=p.rec (fun _=>true) fun a _ f q=>q.casesOn (a.beq 0&&f []) fun b r=>a.ble b&&f r
def dot(p:List Nat):List Nat→Nat:=p.rec (fun _=>0) fun a _ f c=>a*ix c 0+f c.tail
def T.p(t:T):List Nat:=t.rec (fun i=>.replicate (i+1) 0++[1]) (fun n=>[n]) (fun _ _ x y=>pA x y) fun n _ x=>x.map (n*·)
abbrev Sx (x:T):T:=.a x (.k 1)
abbrev V0:T:=.v 0
abbrev V1:T:=.v 1
abbrev V2:T:=.v 2
abbrev V3:T:=.v 3
abbrev V4:T:=.v 4
abbrev V5:T:=.v 5
abbrev V6:T:=.v 6
theorem EF{c:List Nat}{n:Nat}:ix c.tail n=ix c (n+1):=by cases c<;>rfl
theorem IV{p q c:List Nat}:dot (pA p q) c=dot p c+dot q c:=by
 induction p generalizing q c with
 |nil=>exact(O0 _).symm
 |cons a l ih=>
  cases q with
  |nil=>rfl
  |cons b r=>
   refine(?_:(a+b)*ix c 0+dot (pA l r) c.tail=a*ix c 0+dot l c.tail+(b*ix c 0+dot r c.tail));refine aa ih ?_;rw[Nat.add_mul];exact Nat.add_add_add_comm _ _ _ _
theorem FQ{p q c:List Nat}(h:pL p q=true):dot p c≤dot q c:=by
 induction p generalizing q c with
 |nil=>exact Ov _
 |cons a l ih=>
  cases q with
  |nil=>
   have h:=Nt.mp h;refine aa (NR h.1) ?_;have:=ih (c:=c.tail) h.2;show 0*_+dot l c.tail≤_;rw[Nat.zero_mul,O0];exact this
  |cons b r=>
   have h:=Nt.mp h;exact Nq (Nat.mul_le_mul_right _ (OV h.1)) (ih h.2)
theorem IX{n:Nat}{c:List Nat}:dot (.replicate n 0++[1]) c=ix c n:=by
 induction n generalizing c with
 |zero=>exact Nat.one_mul _
 |succ n ih=>exact(congrArg (· +_) (Nat.zero_mul _)).trans ((O0 _).trans (ih.trans EF))
theorem IW{n:Nat}{p c:List Nat}:dot (p.map (n*·)) c=n*dot p c:=by
 induction p generalizing c with
 |nil=>rfl
 |cons a l ih=>exact(congr (congrArg _ (Nat.mul_assoc _ _ _)) ih).trans (Nat.mul_add _ _ _).symm
theorem vG{c:List Nat}{t:T}:dot t.p (1::c)=t.d c:=by
 induction t with
 |v i=>exact IX
 |k n=>exact Nat.mul_one _
 |a x y hx hy=>exact IV.trans (congr (congrArg _ hx) hy)
 |m n x hx=>exact IW.trans (congrArg _ hx)
theorem LA(c:List Nat)(l r X Y:T)(ok:pL (l.a Y).p (r.a X).p=true)(h:X.d c≤Y.d c):l.d c≤r.d c:=by
 have:=FQ (c:=1::c) ok;rw[vG,vG]at this;exact Nat.le_of_add_le_add_right (N1 this (O3 h _))
theorem LE(c:List Nat)(l r:T)(ok:pL l.p r.p=true):l.d c≤r.d c:=by
 have:=FQ (c:=1::c) ok;rw[vG,vG]at this;exact this
theorem z1:0≤0:=Ov 0
theorem z2{a:Int}:a≤a:=Int.le_refl a
theorem z3{a:Nat}:a≤a:=NQ a
theorem z9{a b:Nat}:a-b≤a:=Nat.sub_le a b
theorem LB{a b:Nat}:a≤a+b:=Nat.le_add_right a b
theorem Kz{a:Nat}(h0:2<a):a≠1:=(OY (LA [a] (Sx (.k 1)) V0 (Sx (.k 2)) V0 rfl h0))
theorem KA{a:Nat}(h0:0<a):¬a=0:=Nat.ne_zero_of_lt h0
theorem LR{a:Int}(h0:0≤a):¬a<0:=Int.not_lt_of_ge h0
theorem M9(h0:2<1):False:=by omega
theorem gT{a b:Nat}(h0:a<b):a≠b:=Oa h0
theorem LW{a b:Nat}(h0:b<a):0<a:=Nat.zero_lt_of_lt h0
theorem Ke{a:Int}(h0:¬0≤a):a<0:=Int.lt_of_not_ge h0
theorem M_{a:Nat}(h0:a<a):False:=by lia
theorem Ma{a b:Nat}(h0:a<b):¬a=b:=Oa h0
theorem Na{a b:Nat}(h0:b<a):¬0=a:=by lia
theorem Nb{a b:Nat}(h0:a+0=b):a=b:=by omega
theorem o6{a b:Nat}(h0:a+1<b):a<b:=Pd h0
theorem Nc{a b:Nat}(h0:a<0+b):a<b:=(LA [a,b] (Sx V0) V1 (Sx V0) (.a (.k 0) V1) rfl h0)
theorem Df{a b:Nat}(h0:a<b):a<b+1:=Nat.lt_add_right 1 h0
theorem H_{a b:Nat}(h0:a≤b):a≤b+1:=Nat.le_add_right_of_le h0
theorem Mn{a b:Nat}(h0:b=a+1):a<b:=(LA [a,b] (Sx V0) V1 (Sx V0) V1 rfl (Ny h0.symm))
theorem Nd{a:Nat}:(a:Int)≠-1:=fun h=>nomatch h
theorem Mo{a b:Nat}:a+2≤a+4+b:=(LE [a,b] (.a V0 (.k 2)) (.a (.a V0 (.k 4)) V1) rfl)
theorem Mp{a b:Nat}:a<b+(a+1):=(LE [a,b] (Sx V0) (.a V1 (Sx V0)) rfl)
theorem MQ{a:Nat}(h0:0=a+1):False:=by omega
theorem MR{a:Nat}(h0:a+1=0):False:=by omega
theorem Kj{a b c:Nat}(h0:a+c<b):a<b:=Nat.lt_of_add_right_lt h0
theorem Mq{a b:Nat}:0+2≤a+12+b:=(LE [a,b] (.a (.k 0) (.k 2)) (.a (.a V0 (.k 12)) V1) rfl)
theorem KC{a b:Nat}:a+1≤a+12+b:=(LE [a,b] (Sx V0) (.a (.a V0 (.k 12)) V1) rfl)
theorem sr{a:Nat}:¬(a:Int)=-1:=by lia
theorem Mr{a:Nat}:¬-1=(a:Int):=fun h=>nomatch h
theorem Nf{b:Nat}{a:Prop}(h0:0<b)(h1:b=0):a:=by omega
theorem Ng{a b:Nat}(h0:a=b):a≤b-1+1:=h0▸Nat.le_add_of_sub_le (NQ _)
theorem Ih{a b:Nat}:a+1+b=a+b+1:=Ot a 1 b
theorem Nh{a b:Nat}:a+b+1-a-1=b:=(congrArg (· -1) (Nat.add_sub_cancel_left (n:=a) (m:=b+1)))
theorem MS{a:Nat}:¬(a:Int)+1=0:=fun h=>nomatch (Int.ofNat.inj h)
theorem HY{a b:Nat}(h0:a+40<b):a+1<b:=(LA [a,b] (Sx (Sx V0)) V1 (Sx (.a V0 (.k 40))) V1 rfl h0)
theorem vj{a b c:Nat}(h0:b≤c):a+b≤a+c:=Nat.add_le_add_iff_left.mpr h0
theorem C9{a b:Nat}:a+7+b≤a+12+b:=(LE [a,b] (.a (.a V0 (.k 7)) V1) (.a (.a V0 (.k 12)) V1) rfl)
theorem LC{a:Nat}(h0:5≤a):¬(a:Int)<3:=fun h=>absurd (Ox.mp h) (Nat.not_lt_of_le (N1 (by decide) h0))
theorem HZ{a:Nat}(h0:a<2):a≤16777216:=(LA [a] V0 (.k 16777216) (Sx V0) (.k 2) rfl h0)
theorem zH{a:Nat}(h0:a≤10):a<1000000:=(LA [a] (Sx V0) (.k 1000000) V0 (.k 10) rfl h0)
theorem Ft{a b:Nat}(h0:b<a):a-(a-b)=b:=Nat.sub_sub_self (NS h0)
theorem Fu{a b:Nat}(h0:b<a):a-(b+1)<a:=Nat.sub_lt (Nat.zero_lt_of_lt h0) (Nat.succ_pos _)
theorem LD{a:Nat}:0≤-1+(a+1:Int):=by lia
theorem Fv{a b:Nat}:a+(b+1)=a+b+1:=rfl
theorem H5{a b:Nat}:a+1+b=a+(b+1):=(Pb (LE [a,b] (.a (Sx V0) V1) (.a V0 (Sx V1)) rfl) (LE [a,b] (.a V0 (Sx V1)) (.a (Sx V0) V1) rfl))
theorem Fw{a b:Nat}:a-1-b=a-(b+1):=(Nat.sub_sub a 1 b).trans (congrArg _ (O8 1 b))
theorem Fy{a b c:Nat}(h0:a<c)(h1:c<b):a<b:=N_ h0 h1
theorem H6{a b c:Nat}(h0:a<c)(h1:c=b):a<b:=O9 h0 h1
theorem H7{a b c:Nat}(h0:a=c)(h1:c≤b):a≤b:=le_of_eq_of_le h0 h1
theorem JZ{a:Nat}(h0:¬3≤a):¬3≤(a:Int):=fun h=>h0 (Int.ofNat_le.mp h)
theorem LF{a:Nat}(h0:¬5≤a):¬5≤(a:Int):=fun h=>h0 (Int.ofNat_le.mp h)
theorem LG{a:Nat}(h0:¬a<3):¬(a:Int)<3:=fun h=>h0 (Ox.mp h)
theorem LH{a:Int}(h0:-1≤a)(h1:¬a=-1):0≤a:=Int.lt_iff_le_and_ne.mpr ⟨h0,Ne.symm h1⟩
theorem LI{a:Nat}(h0:0<a):0≤-1+(a:Int):=by lia
theorem J8{a b:Nat}(h0:a<b)(h1:a=b):False:=by lia
theorem J9{a b:Nat}(h0:a<b)(h1:b=0):False:=by lia
theorem J_{a b:Nat}(h0:a<b)(h1:b=a):False:=by lia
theorem LJ{a:Nat}(h0:a=5∨a=6):¬a<3∧5≤a:=by cases h0<;>subst a<;>decide
theorem LK{a b c:Int}(h0:a=c)(h1:b<c):¬a<b:=fun h=>Int.lt_asymm h1 (h0▸h)
theorem LL{a b c:Int}(h0:a=c)(h1:b≤c):¬a<b:=fun h=>absurd (h0▸h) (Int.not_lt_of_ge h1)
theorem eV{a b:Nat}(h0:a<b+1)(h1:¬a=b):a<b:=(Nat.lt_of_le_of_ne (LA [a,b] V0 V1 (Sx V0) (Sx V1) rfl h0) h1)
theorem LM{a:Nat}(h0:a=3∨a=4):¬a<3∧¬5≤a:=by cases h0<;>subst a<;>decide
theorem LN{a b:Nat}{c:Prop}(h0:a=b∧a<16∧c):a≤15:=(LA [a,b] V0 (.k 15) (Sx V0) (.k 16) rfl h0.2.1)
theorem LQ{a b:Int}(h0:0≤a)(h1:a<b):0≤a∧a<b:=And.symm ⟨h1,h0⟩
theorem H8{a:Nat}(h0:a<999900):a<1000000:=(LA [a] (Sx V0) (.k 1000000) (Sx V0) (.k 999900) rfl h0)
theorem C_{a b:Nat}(h0:b<a):a-(b+1)+1=a-b:=Nat.sub_add_cancel (Nat.sub_pos_of_lt h0)
theorem Dc{a b c:Nat}(h0:a+(b+1)<c):a+1+b<c:=(LA [a,b,c] (Sx (.a (Sx V0) V1)) V2 (Sx (.a V0 (Sx V1))) V2 rfl h0)
theorem LS{a b c:Nat}(h0:a-b≤c):a+1-(b+1)≤c:=Nat.add_sub_add_right a 1 b▸h0
theorem Ka{a:Nat}:(a+1:Int)-1=(a:Int):=Int.add_sub_cancel (↑a) 1
theorem Fz{a b c d:Nat}(h0:a+d<c)(h1:b≤d):a+b<c:=(LA [a,b,c,d] (Sx (.a V0 V1)) V2 (.a (Sx (.a V0 V3)) V1) (.a V2 V3) rfl (Nq h0 h1))
theorem kh{a:Nat}(h0:a<1048576):a≤16777216:=(LA [a] V0 (.k 16777216) (Sx V0) (.k 1048576) rfl h0)
theorem H9{a b:Nat}(h0:a<b):(a:Int)<(b:Int):=Ox.mpr h0
theorem LU{a:Int}(h0:a=1∨a=-1):a<4000000000:=h0.elim (fun h=>h▸by decide) fun h=>h▸by decide
theorem LX{a b:Nat}(h0:b<a):¬(a:Int)=(b:Int):=fun h=>OY h0 (Int.ofNat.inj h)
theorem LY{a b c d:Nat}(h0:a+1=b+1∧c=d):a=b∧c=d:=⟨(Pb (LA [a,b,c,d] V0 V1 (Sx V0) (Sx V1) rfl (Ny h0.1)) (LA [a,b,c,d] V1 V0 (Sx V1) (Sx V0) rfl (Ny h0.1.symm))),(Pb (LA [a,b,c,d] V2 V3 V2 V3 rfl (Ny h0.2)) (LA [a,b,c,d] V3 V2 V3 V2 rfl (Ny h0.2.symm)))⟩
theorem mu{a:Nat}(h0:a<1000000):a<1000000000:=(LA [a] (Sx V0) (.k 1000000000) (Sx V0) (.k 1000000) rfl h0)
theorem LZ{a:Int}(h0:a=1∨a=-1):-4000000000<a:=h0.elim (fun h=>h▸by decide) fun h=>h▸by decide
theorem L0{a b c:Int}{d:Prop}(h0:b=c)(h1:d)(h2:d→a<c):a<b:=h0▸h2 h1
theorem L1{a b:Nat}(h0:¬a<b):¬(a:Int)<(b:Int):=fun h=>h0 (Ox.mp h)
theorem Kc{a:Nat}:(-1+(a+1:Int)).toNat=a:=by lia
theorem L2{a:Nat}:(-1+(a:Int)).toNat=a-1:=by lia
theorem Dd{a b:Nat}(h0:a+b<999900):a+1<1000000:=(LA [a,b] (Sx (Sx V0)) (.k 1000000) (Sx (.a V0 V1)) (.k 999900) rfl h0)
theorem L3{a b c d:Nat}{e:Prop}(h0:a=c∧a<d∧e)(h1:b=c):a≤b:=(LA [a,b,c,d] V0 V1 (.a V0 V2) (.a V2 V1) rfl (Nq (Ny h0.1) (Ny h1.symm)))
theorem L4{a:Nat}{b:Int}(h0:b%8=(a:Int))(h1:¬a=7):a<7:=Nat.lt_of_le_of_ne (O1 (Ox.mp (h0▸Int.emod_lt_of_pos _ (by decide)))) h1
theorem FA{a:Nat}(h0:a+1<1000000):a<1000000000:=(LA [a] (Sx V0) (.k 1000000000) (Sx (Sx V0)) (.k 1000000) rfl h0)
theorem Kf{a b:Nat}(h0:b<a):0≤(a:Int)-1-(b:Int):=by rw[Int.sub_sub];exact Int.sub_nonneg_of_le ((Int.add_comm 1 b)▸Int.ofNat_le.mpr h0)
theorem L5{b:Nat}{a:Int}:a-(b+1:Int)=a-1-(b:Int):=((congrArg _ (Int.add_comm _ _)).trans (Int.sub_sub _ _ _).symm)
theorem sq{a b:Nat}(h0:a≤b)(h1:b<999900):a<1000000:=(LA [a,b] (Sx V0) (.k 1000000) (.a V0 (Sx V1)) (.a V1 (.k 999900)) rfl (Nq h0 h1))
theorem L6{a b c:Nat}(h0:a≤c+b)(h1:b≤a):a-b+(c+b-a)=c:=(Nat.sub_add_comm h1).symm.trans (by rw[O4 h0,Nat.add_sub_cancel])
theorem L7{b c:Nat}{a:Int}(h0:a=(b:Int)-(c:Int))(h1:b≤c):a≤0:=h0▸Int.sub_nonpos_of_le (Int.ofNat_le.mpr h1)
theorem L8{b c:Nat}{a:Int}(h0:a=(b:Int)-(c:Int))(h1:c<b):0<a:=h0▸Int.sub_pos_of_lt (Ox.mpr h1)
theorem L9{c:Nat}{a b:Int}(h0:a=b-(c:Int)):a-1=b-(c+1:Int):=h0▸Int.sub_sub _ _ _
theorem L_{a b c:Nat}(h0:c=b+a+1):¬(a+1+b:Int)<(c:Int):=fun h=>by subst h0;exact Oc (a+1+b) (O9 (Ox.mp h) (Ot a 1 b▸congrArg (·+1) (O8 b a)))
theorem Mb{b c:Nat}{a:Int}(h0:0≤a→c=a.toNat)(h1:c<b):a<(b:Int):=(Int.le_total 0 a).elim (fun h=>(Int.toNat_lt h).mp (h0 h▸h1)) fun h=>Int.lt_of_le_of_lt h (Ox.mpr (Nat.zero_lt_of_lt h1))
theorem De{a b:Nat}(h0:a<b)(h1:b+1<1000000):a<1000000000:=(LA [a,b] (Sx V0) (.k 1000000000) (.a (Sx V0) (Sx (Sx V1))) (.a V1 (.k 1000000)) rfl (Nq h0 h1))
theorem Kg{a:Nat}(h0:a<24):0≤97+(a:Int)∧97+(a:Int)<128:=⟨OI (97+a),Ox.mpr (NJ (Nat.add_lt_add_left h0 97) (by decide))⟩
theorem Mc{a b c d e:Nat}(h0:b≤a)(h1:e+c=a)(h2:e+d=b):a=b+(c-d):=by subst h1 h2;rw[Nat.add_assoc,O4 (Nat.le_of_add_le_add_left h0)]
theorem FC{a b c:Nat}(h0:c+b=a):((a:Int)-(b:Int)).toNat=c:=by subst h0;exact congrArg Int.toNat (Int.add_sub_cancel (c:Int) b)
theorem Md{b:Nat}{a:Int}(h0:0≤a)(h1:b=a.toNat):a=(b:Int)-(0:Int):=by subst h1;exact(Int.toNat_of_nonneg h0).symm.trans (Int.sub_zero _).symm
theorem Me{a b c d e f:Nat}(h0:b=c)(h1:d+a=e)(h2:d+c=f)(h3:e≤f):a≤b:=by subst h0 h1 h2;exact Nat.le_of_add_le_add_left h3
theorem Mf{a b:Int}(h0:b<a∧a<1000000000):a+(1-1)<4000000000:=OH ((Int.add_zero a).symm▸h0.2) (by decide)
theorem Mg{a b c d:Nat}(h0:b<d)(h1:c=d+a+1):(a+1+b:Int)<(c:Int):=h1▸Ox.mpr (LA [a,b,d] (Sx (.a (Sx V0) V1)) (Sx (.a V2 V0)) (Sx V1) V2 rfl h0)
theorem Mh{a b:Int}(h0:b<a∧a<1000000000):a+(-1+1)<4000000000:=OH ((Int.add_zero a).symm▸h0.2) (by decide)
theorem Mi{b:Nat}{a:Int}(h0:0≤a+(b:Int))(h1:¬0≤a):(a+(b:Int)).toNat<b:=by lia
theorem Mj{a b c d e f g:Nat}(h0:a≤c)(h1:c=d)(h2:d<e)(h3:e+f=g)(h4:g+1<b):a<b:=by subst h1 h3;exact N_ (NA h0 h2) (NA (Nat.le_add_right _ _) (Pd h4))
theorem Mk{a b:Nat}(h0:a<24)(h1:b≤a):10000-100*(a+1)+12+2*b≤10000-100*a:=by lia
theorem Ml{a b c d e f:Nat}(h0:a≤f+100)(h1:f+150*(b+1)+c+d<e):a+150*b+c+d<e:=(LA [a,b,c,d,e,f] (.a (.a (.a (.a V0 (.m 150 V1)) V2) V3) (.k 1)) V4 (.a V0 (.a (.a (.a (.a V5 (.m 150 (Sx V1))) V2) V3) (.k 1))) (.a (.a V5 (.k 100)) V4) rfl (Nq h0 h1))
theorem Mm{a:Int}(h0:-1000000000<a∧a<1000000000):-4000000000<a+(-1+1):=OH (by decide) ((Int.add_zero a).symm▸h0.1)
theorem ns{β:Type}{G:Prop}{b:β}(h:(none:Option β)=some b):G:=nomatch h
theorem aO{α β:Type}{x:Option α}{g:α→Option β}{b:β}{G:Prop}(k:∀a,x=some a→g a=some b→G):x.bind g=some b→G:=fun h=>let⟨a,u,v⟩:=Option.bind_eq_some_iff.mp h;k a u v
theorem Jz{α γ β:Type}{x:Option (α×γ)}{g:α×γ→Option β}{b:β}{G:Prop}(k:∀a c,x=some (a,c)→g (a,c)=some b→G):x.bind g=some b→G:=aO fun a u v=>k a.1 a.2 u v
theorem fQ{α β:Type}{x:Option α}{g:α→β}{b:β}{G:Prop}(k:∀a,x=some a→g a=b→G):x.map g=some b→G:=fun h=>let⟨a,u,v⟩:=Option.map_eq_some_iff.mp h;k a u v
theorem rE{α0:Type}{p1:α0→Prop}{G:Prop}(k:∀y0:α0,p1 y0→G):(∃y0:α0,p1 y0)→G:=fun h=>h.elim k
theorem xE{α0:Type}{p1:α0→Prop}{G:Prop}(h:∃y0:α0,p1 y0) (k:∀y0:α0,p1 y0→G):G:=rE k h
theorem rA{p0:Prop}{p1:Prop}{G:Prop}(k:p0→p1→G):(p0∧p1)→G:=fun h=>k h.1 h.2
theorem xA{p0:Prop}{p1:Prop}{G:Prop}(h:p0∧p1)(k:p0→p1→G):G:=rA k h
theorem M6{α0:Type}{α1:Type}{p2:α0→α1→Prop}{G:Prop}(k:∀y0:α0,∀y1:α1,p2 y0 y1→G):(∃y0:α0,∃y1:α1,p2 y0 y1)→G:=fun h=>h.elim fun a0 h0=>h0.elim (k a0)
theorem sk{α0:Type}{α1:Type}{p2:α0→α1→Prop}{G:Prop}(h:∃y0:α0,∃y1:α1,p2 y0 y1) (k:∀y0:α0,∀y1:α1,p2 y0 y1→G):G:=M6 k h
theorem JI{α0:Type}{p1:α0→Prop}{p2:α0→Prop}{G:Prop}(k:∀y0:α0,p1 y0→p2 y0→G):(∃y0:α0,p1 y0∧p2 y0)→G:=fun h=>h.elim fun a0 h0=>k a0 h0.1 h0.2
theorem ar{α0:Type}{p1:α0→Prop}{p2:α0→Prop}{G:Prop}(h:∃y0:α0,p1 y0∧p2 y0) (k:∀y0:α0,p1 y0→p2 y0→G):G:=JI k h
theorem ML{p0:Prop}{p1:Prop}{p2:Prop}{G:Prop}(k:p0→p1→p2→G):(p0∧p1∧p2)→G:=fun h=>k h.1 h.2.1 h.2.2
theorem gS{p0:Prop}{p1:Prop}{p2:Prop}{G:Prop}(h:p0∧p1∧p2)(k:p0→p1→p2→G):G:=ML k h
theorem Lm{α0:Type}{α1:Type}{α2:Type}{p3:α0→α1→α2→Prop}{G:Prop}(k:∀y0:α0,∀y1:α1,∀y2:α2,p3 y0 y1 y2→G):(∃y0:α0,∃y1:α1,∃y2:α2,p3 y0 y1 y2)→G:=fun h=>h.elim fun a0 h0=>h0.elim fun a1 h1=>h1.elim (k a0 a1)
theorem HX{α0:Type}{α1:Type}{α2:Type}{p3:α0→α1→α2→Prop}{G:Prop}(h:∃y0:α0,∃y1:α1,∃y2:α2,p3 y0 y1 y2) (k:∀y0:α0,∀y1:α1,∀y2:α2,p3 y0 y1 y2→G):G:=Lm k h
theorem Ll{α0:Type}{α1:Type}{p2:α0→α1→Prop}{p3:α0→α1→Prop}{G:Prop}(k:∀y0:α0,∀y1:α1,p2 y0 y1→p3 y0 y1→G):(∃y0:α0,∃y1:α1,p2 y0 y1∧p3 y0 y1)→G:=fun h=>h.elim fun a0 h0=>h0.elim fun a1 h1=>k a0 a1 h1.1 h1.2
theorem eB{α0:Type}{α1:Type}{p2:α0→α1→Prop}{p3:α0→α1→Prop}{G:Prop}(h:∃y0:α0,∃y1:α1,p2 y0 y1∧p3 y0 y1) (k:∀y0:α0,∀y1:α1,p2 y0 y1→p3 y0 y1→G):G:=Ll k h
theorem zu{α0:Type}{p1:α0→Prop}{p2:α0→Prop}{p3:α0→Prop}{G:Prop}(k:∀y0:α0,p1 y0→p2 y0→p3 y0→G):(∃y0:α0,p1 y0∧p2 y0∧p3 y0)→G:=fun h=>h.elim fun a0 h0=>k a0 h0.1 h0.2.1 h0.2.2
theorem bV{α0:Type}{p1:α0→Prop}{p2:α0→Prop}{p3:α0→Prop}{G:Prop}(h:∃y0:α0,p1 y0∧p2 y0∧p3 y0) (k:∀y0:α0,p1 y0→p2 y0→p3 y0→G):G:=zu k h
theorem Lk{p0:Prop}{α1:Type}{p2:α1→Prop}{p3:α1→Prop}{G:Prop}(k:p0→∀y1:α1,p2 y1→p3 y1→G):(p0∧∃y1:α1,p2 y1∧p3 y1)→G:=fun h=>h.2.elim fun a1 h1=>k h.1 a1 h1.1 h1.2
theorem jb{p0:Prop}{α1:Type}{p2:α1→Prop}{p3:α1→Prop}{G:Prop}(h:p0∧∃y1:α1,p2 y1∧p3 y1) (k:p0→∀y1:α1,p2 y1→p3 y1→G):G:=Lk k h
theorem JG{p0:Prop}{p1:Prop}{α2:Type}{p3:α2→Prop}{G:Prop}(k:p0→p1→∀y2:α2,p3 y2→G):(p0∧p1∧∃y2:α2,p3 y2)→G:=fun h=>h.2.2.elim (k h.1 h.2.1)
theorem Ck{p0:Prop}{p1:Prop}{p2:Prop}{p3:Prop}{G:Prop}(k:p0→p1→p2→p3→G):(p0∧p1∧p2∧p3)→G:=fun h=>k h.1 h.2.1 h.2.2.1 h.2.2.2
theorem ja{p0:Prop}{p1:Prop}{p2:Prop}{p3:Prop}{G:Prop}(h:p0∧p1∧p2∧p3)(k:p0→p1→p2→p3→G):G:=Ck k h
theorem JL{α0:Type}{α1:Type}{α2:Type}{p3:α0→α1→α2→Prop}{p4:α0→α1→α2→Prop}{G:Prop}(k:∀y0:α0,∀y1:α1,∀y2:α2,p3 y0 y1 y2→p4 y0 y1 y2→G):(∃y0:α0,∃y1:α1,∃y2:α2,p3 y0 y1 y2∧p4 y0 y1 y2)→G:=fun h=>h.elim fun a0 h0=>h0.elim fun a1 h1=>h1.elim fun a2 h2=>k a0 a1 a2 h2.1 h2.2
theorem Gi{α0:Type}{α1:Type}{α2:Type}{p3:α0→α1→α2→Prop}{p4:α0→α1→α2→Prop}{G:Prop}(h:∃y0:α0,∃y1:α1,∃y2:α2,p3 y0 y1 y2∧p4 y0 y1 y2) (k:∀y0:α0,∀y1:α1,∀y2:α2,p3 y0 y1 y2→p4 y0 y1 y2→G):G:=JL k h
theorem rS{α0:Type}{α1:Type}{p2:α0→α1→Prop}{p3:α0→α1→Prop}{p4:α0→α1→Prop}{G:Prop}(k:∀y0:α0,∀y1:α1,p2 y0 y1→p3 y0 y1→p4 y0 y1→G):(∃y0:α0,∃y1:α1,p2 y0 y1∧p3 y0 y1∧p4 y0 y1)→G:=fun h=>h.elim fun a0 h0=>h0.elim fun a1 h1=>k a0 a1 h1.1 h1.2.1 h1.2.2
theorem bx{α0:Type}{α1:Type}{p2:α0→α1→Prop}{p3:α0→α1→Prop}{p4:α0→α1→Prop}{G:Prop}(h:∃y0:α0,∃y1:α1,p2 y0 y1∧p3 y0 y1∧p4 y0 y1) (k:∀y0:α0,∀y1:α1,p2 y0 y1→p3 y0 y1→p4 y0 y1→G):G:=rS k h
theorem JK{α0:Type}{p1:α0→Prop}{α2:Type}{p3:α0→α2→Prop}{p4:α0→α2→Prop}{G:Prop}(k:∀y0:α0,p1 y0→∀y2:α2,p3 y0 y2→p4 y0 y2→G):(∃y0:α0,p1 y0∧∃y2:α2,p3 y0 y2∧p4 y0 y2)→G:=fun h=>h.elim fun a0 h0=>h0.2.elim fun a2 h2=>k a0 h0.1 a2 h2.1 h2.2
theorem JX{α0:Type}{p1:α0→Prop}{α2:Type}{p3:α0→α2→Prop}{p4:α0→α2→Prop}{G:Prop}(h:∃y0:α0,p1 y0∧∃y2:α2,p3 y0 y2∧p4 y0 y2) (k:∀y0:α0,p1 y0→∀y2:α2,p3 y0 y2→p4 y0 y2→G):G:=JK k h
theorem JJ{α0:Type}{p1:α0→Prop}{p2:α0→Prop}{p3:α0→Prop}{p4:α0→Prop}{G:Prop}(k:∀y0:α0,p1 y0→p2 y0→p3 y0→p4 y0→G):(∃y0:α0,p1 y0∧p2 y0∧p3 y0∧p4 y0)→G:=fun h=>h.elim fun a0 h0=>k a0 h0.1 h0.2.1 h0.2.2.1 h0.2.2.2
theorem ma{α0:Type}{p1:α0→Prop}{p2:α0→Prop}{p3:α0→Prop}{p4:α0→Prop}{G:Prop}(h:∃y0:α0,p1 y0∧p2 y0∧p3 y0∧p4 y0) (k:∀y0:α0,p1 y0→p2 y0→p3 y0→p4 y0→G):G:=JJ k h
theorem JH{p0:Prop}{α1:Type}{α2:Type}{p3:α1→α2→Prop}{p4:α1→α2→Prop}{G:Prop}(k:p0→∀y1:α1,∀y2:α2,p3 y1 y2→p4 y1 y2→G):(p0∧∃y1:α1,∃y2:α2,p3 y1 y2∧p4 y1 y2)→G:=fun h=>h.2.elim fun a1 h1=>h1.elim fun a2 h2=>k h.1 a1 a2 h2.1 h2.2
theorem Gh{p0:Prop}{α1:Type}{α2:Type}{p3:α1→α2→Prop}{p4:α1→α2→Prop}{G:Prop}(h:p0∧∃y1:α1,∃y2:α2,p3 y1 y2∧p4 y1 y2) (k:p0→∀y1:α1,∀y2:α2,p3 y1 y2→p4 y1 y2→G):G:=JH k h
theorem nj{p0:Prop}{p1:Prop}{p2:Prop}{p3:Prop}{p4:Prop}{G:Prop}(k:p0→p1→p2→p3→p4→G):(p0∧p1∧p2∧p3∧p4)→G:=fun h=>k h.1 h.2.1 h.2.2.1 h.2.2.2.1 h.2.2.2.2
theorem j9{p0:Prop}{p1:Prop}{p2:Prop}{p3:Prop}{p4:Prop}{G:Prop}(h:p0∧p1∧p2∧p3∧p4)(k:p0→p1→p2→p3→p4→G):G:=nj k h
theorem oT{α0:Type}{α1:Type}{α2:Type}{α3:Type}{α4:Type}{p5:α0→α1→α2→α3→α4→Prop}{G:Prop}(k:∀y0:α0,∀y1:α1,∀y2:α2,∀y3:α3,∀y4:α4,p5 y0 y1 y2 y3 y4→G):(∃y0:α0,∃y1:α1,∃y2:α2,∃y3:α3,∃y4:α4,p5 y0 y1 y2 y3 y4)→G:=fun h=>h.elim fun a0 h0=>h0.elim fun a1 h1=>h1.elim fun a2 h2=>h2.elim fun a3 h3=>h3.elim (k a0 a1 a2 a3)
theorem iF{α0:Type}{α1:Type}{α2:Type}{α3:Type}{α4:Type}{p5:α0→α1→α2→α3→α4→Prop}{G:Prop}(h:∃y0:α0,∃y1:α1,∃y2:α2,∃y3:α3,∃y4:α4,p5 y0 y1 y2 y3 y4) (k:∀y0:α0,∀y1:α1,∀y2:α2,∀y3:α3,∀y4:α4,p5 y0 y1 y2 y3 y4→G):G:=oT k h
theorem Cr{α0:Type}{α1:Type}{α2:Type}{α3:Type}{p4:α0→α1→α2→α3→Prop}{p5:α0→α1→α2→α3→Prop}{G:Prop}(k:∀y0:α0,∀y1:α1,∀y2:α2,∀y3:α3,p4 y0 y1 y2 y3→p5 y0 y1 y2 y3→G):(∃y0:α0,∃y1:α1,∃y2:α2,∃y3:α3,p4 y0 y1 y2 y3∧p5 y0 y1 y2 y3)→G:=fun h=>h.elim fun a0 h0=>h0.elim fun a1 h1=>h1.elim fun a2 h2=>h2.elim fun a3 h3=>k a0 a1 a2 a3 h3.1 h3.2
theorem vi{α0:Type}{α1:Type}{α2:Type}{α3:Type}{p4:α0→α1→α2→α3→Prop}{p5:α0→α1→α2→α3→Prop}{G:Prop}(h:∃y0:α0,∃y1:α1,∃y2:α2,∃y3:α3,p4 y0 y1 y2 y3∧p5 y0 y1 y2 y3) (k:∀y0:α0,∀y1:α1,∀y2:α2,∀y3:α3,p4 y0 y1 y2 y3→p5 y0 y1 y2 y3→G):G:=Cr k h
theorem Hv{α0:Type}{α1:Type}{α2:Type}{p3:α0→α1→α2→Prop}{α4:Type}{p5:α0→α1→α2→α4→Prop}{G:Prop}(k:∀y0:α0,∀y1:α1,∀y2:α2,p3 y0 y1 y2→∀y4:α4,p5 y0 y1 y2 y4→G):(∃y0:α0,∃y1:α1,∃y2:α2,p3 y0 y1 y2∧∃y4:α4,p5 y0 y1 y2 y4)→G:=fun h=>h.elim fun a0 h0=>h0.elim fun a1 h1=>h1.elim fun a2 h2=>h2.2.elim (k a0 a1 a2 h2.1)
theorem C8{α0:Type}{α1:Type}{α2:Type}{p3:α0→α1→α2→Prop}{α4:Type}{p5:α0→α1→α2→α4→Prop}{G:Prop}(h:∃y0:α0,∃y1:α1,∃y2:α2,p3 y0 y1 y2∧∃y4:α4,p5 y0 y1 y2 y4) (k:∀y0:α0,∀y1:α1,∀y2:α2,p3 y0 y1 y2→∀y4:α4,p5 y0 y1 y2 y4→G):G:=Hv k h
theorem Cq{α0:Type}{α1:Type}{α2:Type}{p3:α0→α1→α2→Prop}{p4:α0→α1→α2→Prop}{p5:α0→α1→α2→Prop}{G:Prop}(k:∀y0:α0,∀y1:α1,∀y2:α2,p3 y0 y1 y2→p4 y0 y1 y2→p5 y0 y1 y2→G):(∃y0:α0,∃y1:α1,∃y2:α2,p3 y0 y1 y2∧p4 y0 y1 y2∧p5 y0 y1 y2)→G:=fun h=>h.elim fun a0 h0=>h0.elim fun a1 h1=>h1.elim fun a2 h2=>k a0 a1 a2 h2.1 h2.2.1 h2.2.2
theorem dh{α0:Type}{α1:Type}{α2:Type}{p3:α0→α1→α2→Prop}{p4:α0→α1→α2→Prop}{p5:α0→α1→α2→Prop}{G:Prop}(h:∃y0:α0,∃y1:α1,∃y2:α2,p3 y0 y1 y2∧p4 y0 y1 y2∧p5 y0 y1 y2) (k:∀y0:α0,∀y1:α1,∀y2:α2,p3 y0 y1 y2→p4 y0 y1 y2→p5 y0 y1 y2→G):G:=Cq k h
theorem Cp{α0:Type}{α1:Type}{p2:α0→α1→Prop}{p3:α0→α1→Prop}{α4:Type}{p5:α0→α1→α4→Prop}{G:Prop}(k:∀y0:α0,∀y1:α1,p2 y0 y1→p3 y0 y1→∀y4:α4,p5 y0 y1 y4→G):(∃y0:α0,∃y1:α1,p2 y0 y1∧p3 y0 y1∧∃y4:α4,p5 y0 y1 y4)→G:=fun h=>h.elim fun a0 h0=>h0.elim fun a1 h1=>h1.2.2.elim (k a0 a1 h1.1 h1.2.1)
theorem HW{α0:Type}{α1:Type}{p2:α0→α1→Prop}{p3:α0→α1→Prop}{α4:Type}{p5:α0→α1→α4→Prop}{G:Prop}(h:∃y0:α0,∃y1:α1,p2 y0 y1∧p3 y0 y1∧∃y4:α4,p5 y0 y1 y4) (k:∀y0:α0,∀y1:α1,p2 y0 y1→p3 y0 y1→∀y4:α4,p5 y0 y1 y4→G):G:=Cp k h
theorem iB{α0:Type}{α1:Type}{p2:α0→α1→Prop}{p3:α0→α1→Prop}{p4:α0→α1→Prop}{p5:α0→α1→Prop}{G:Prop}(k:∀y0:α0,∀y1:α1,p2 y0 y1→p3 y0 y1→p4 y0 y1→p5 y0 y1→G):(∃y0:α0,∃y1:α1,p2 y0 y1∧p3 y0 y1∧p4 y0 y1∧p5 y0 y1)→G:=fun h=>h.elim fun a0 h0=>h0.elim fun a1 h1=>k a0 a1 h1.1 h1.2.1 h1.2.2.1 h1.2.2.2
theorem vh{α0:Type}{α1:Type}{p2:α0→α1→Prop}{p3:α0→α1→Prop}{p4:α0→α1→Prop}{p5:α0→α1→Prop}{G:Prop}(h:∃y0:α0,∃y1:α1,p2 y0 y1∧p3 y0 y1∧p4 y0 y1∧p5 y0 y1) (k:∀y0:α0,∀y1:α1,p2 y0 y1→p3 y0 y1→p4 y0 y1→p5 y0 y1→G):G:=iB k h
theorem Co{α0:Type}{p1:α0→Prop}{p2:α0→Prop}{α3:Type}{p4:α0→α3→Prop}{p5:α0→α3→Prop}{G:Prop}(k:∀y0:α0,p1 y0→p2 y0→∀y3:α3,p4 y0 y3→p5 y0 y3→G):(∃y0:α0,p1 y0∧p2 y0∧∃y3:α3,p4 y0 y3∧p5 y0 y3)→G:=fun h=>h.elim fun a0 h0=>h0.2.2.elim fun a3 h3=>k a0 h0.1 h0.2.1 a3 h3.1 h3.2
theorem Hu{α0:Type}{p1:α0→Prop}{p2:α0→Prop}{p3:α0→Prop}{p4:α0→Prop}{p5:α0→Prop}{G:Prop}(k:∀y0:α0,p1 y0→p2 y0→p3 y0→p4 y0→p5 y0→G):(∃y0:α0,p1 y0∧p2 y0∧p3 y0∧p4 y0∧p5 y0)→G:=fun h=>h.elim fun a0 h0=>k a0 h0.1 h0.2.1 h0.2.2.1 h0.2.2.2.1 h0.2.2.2.2
theorem Cn{p0:Prop}{p1:Prop}{p2:Prop}{p3:Prop}{p4:Prop}{p5:Prop}{G:Prop}(k:p0→p1→p2→p3→p4→p5→G):(p0∧p1∧p2∧p3∧p4∧p5)→G:=fun h=>k h.1 h.2.1 h.2.2.1 h.2.2.2.1 h.2.2.2.2.1 h.2.2.2.2.2
theorem dD{α:Type}{c:Prop} [Decidable c]{x:Option α}{b:α}{G:Prop}(k:c→x=some b→G):(if c then x else none)=some b→G:=fun h=>by
 by_cases q:c
 ·rw[if_pos q]at h;exact k q h
 ·rw[if_neg q]at h;exact ns h
theorem JA{α:Type}{c:Prop} [Decidable c]{x:Option α}{b:α}{G:Prop}(k:¬c→x=some b→G):(if c then none else x)=some b→G:=fun h=>by
 by_cases q:c
 ·rw[if_pos q]at h;exact ns h
 ·rw[if_neg q]at h;exact k q h
open PySem
inductive AV where
 |none|bool (b:Bool)|int (i:Int)|str (s:Str)|tup (vs:List AV)
 |loc (r i:Nat)|gl (k:Nat)|bi (id:String)|ty (n:String)|kf (a b st:Int)
 deriving Inhabited
inductive AO where
 |list (xs:List AV)|dict (kvs:List (Str×AV))|dZ (c:Nat) (kvs:List (Str×AV))|inst (c r i:Nat)
 deriving Inhabited
abbrev AH:=List (List AO)
abbrev Lo:=List (Str×AV)
inductive AF where
 |next|brk|ret (v:AV)
 deriving Inhabited
structure zK where
 name:Str
 qual:Str
 params:List Str
 defs:List AV
 body:List Stmt
 scope:Scope
structure jf where
 meths:List (Str×Nat)
 attrs:List Str
inductive GI where
 |fn (f:zK)
 |cls (c:jf)
structure PT where
 gl:List (Str×AV)
 gi:List (Option GI)
 site:Pos→Nat
noncomputable def PT.at_(P:PT)(k:Nat):Option GI:=(P.gi[k]?).bind id
noncomputable def GI.MZ:GI→Option zK
 |.fn f=>some f
 |.cls _=>.none
noncomputable def GI.cls?:GI→Option jf
 |.fn _=>.none
 |.cls c=>some c
def PT.fn(P:PT)(k:Nat):Option zK:=(P.at_ k).bind GI.MZ
def PT.cls(P:PT)(k:Nat):Option jf:=(P.at_ k).bind GI.cls?
noncomputable def ab:Nat:=1048576
noncomputable def AV.i?:AV→Option Int
 |.int i=>some i
 |_=>.none
noncomputable def AV.s?:AV→Option Str
 |.str s=>some s
 |_=>.none
noncomputable def AV.t?:AV→Option (List AV)
 |.tup l=>some l
 |_=>.none
noncomputable def AV.l?:AV→Option (Nat×Nat)
 |.loc r i=>some (r,i)
 |_=>.none
noncomputable def AO.l?:AO→Option (List AV)
 |.list l=>some l
 |_=>.none
noncomputable def AO.d?:AO→Option (List (Str×AV))
 |.dict l=>some l
 |_=>.none
noncomputable def AO.o?(c:Nat):AO→Option (List (Str×AV))
 |.dZ c' l=>if Nat.beq c c' then some l else .none
 |_=>.none
noncomputable def one?{α:Type}:List α→Option α
 |[]=>.none
 |a::l=>if l.isEmpty then some a else .none
theorem jW{α:Type}{l:List α}{a:α}(h:one? l=some a):l=[a]:=by
 cases l with
 |nil=>first|exact ns h|cases h
 |cons b l=>
  cases l with
  |nil=>revert h;refine aJ fun h=>?_;subst h;rfl
  |cons c l=>first|exact ns h|cases h
def h8{α:Type}:List α→Option (α×α)
 |[]=>.none
 |a::l=>(one? l).map fun b=>(a,b)
noncomputable def f7{α:Type}:List α→Option Unit
 |[]=>some ()
 |_::_=>.none
noncomputable def get(H:AH)(r i:Nat):Option AO:=(H[r]?).bind (·[i]?)
noncomputable def put(H:AH)(r i:Nat)(o:AO):AH:=H.modify r (·.set i o)
noncomputable def Ls(H:AH)(r:Nat):Nat:=((H[r]?).getD []).length
noncomputable def cP(H:AH)(r:Nat)(o:AO):Option (AV×AH):=match H[r]? with
 |some l=>some (.loc r l.length,H.modify r (· ++[o]))
 |.none=>.none
def ae(H:AH)(r i:Nat):Option (List AV):=(get H r i).bind AO.l?
def G6(H:AH)(c r i:Nat):Option (List (Str×AV)):=(get H r i).bind (AO.o? c)
noncomputable def lk(x:Str):List (Str×AV)→Option AV
 |[]=>.none
 |(y,v)::l=>if x==y then some v else lk x l
noncomputable def pt(x:Str)(v:AV):List (Str×AV)→List (Str×AV)
 |[]=>[(x,v)]
 |(y,w)::l=>if x==y then(y,v)::l else(y,w)::pt x v l
def newList(H:AH)(r:Nat)(xs:List AV):Option (AV×AH):=if xs.length<ab then cP H r (.list xs)else .none
noncomputable def gj(f:AV→Option PyData):List AV→Option (List PyData)
 |[]=>some []
 |v::vs=>(f v).bind fun d=>(gj f vs).map fun ds=>d::ds
noncomputable def toPy(H:AH):Nat→AV→Option PyData
 |0,_=>.none
 |n+1,v=>match v with
  |.none=>some .none
  |.bool b=>some (.bool b)
  |.int i=>some (.int i)
  |.str s=>some (.str s)
  |.tup vs=>(gj (toPy H n) vs).map .tuple
  |.loc r i=>(ae H r i).bind fun xs=>(gj (toPy H n) xs).map .list
  |_=>.none
noncomputable def MC(a b:PyData):Option Bool:=if a.canLay0&&b.canLay0 then some (PyData.eqv a b)else .none
def MD(H:AH)(a b:AV):Option Bool:=(toPy H 7 a).bind fun x=>(toPy H 7 b).bind fun y=>MC x y
noncomputable def oU(a b:AV):Option Bool:=match a with
 |.int x=>b.i?.map fun y=>decide (x=y)
 |.str x=>b.s?.map fun y=>x==y
 |_=>.none
def fg(H:AH)(a b:AV):Option Bool:=match oU a b with
 |some r=>some r
 |.none=>MD H a b
noncomputable def Jp:AV→Bool
 |.int _=>true
 |.str _=>true
 |_=>false
noncomputable def bg(x:AV):List AV→Option Bool
 |[]=>some false
 |y::l=>(oU y x).bind fun b=>(bg x l).map fun r=>b||r
def inD(x:AV)(kvs:List (Str×AV)):Option Bool:=match x with
 |.str s=>some (lk s kvs).isSome
 |.int _=>if kvs.isEmpty then some false else .none
 |_=>.none
def M1(z:Bool)(x:AV):AO→Option Bool
 |.list vs=>if Jp x then bg x vs else .none
 |.dict kvs=>if z then inD x kvs else .none
 |_=>.none
def m9(H:AH)(x c:AV):Option Bool:=match c with
 |.tup vs=>if Jp x then bg x vs else .none
 |.loc r i=>(get H r i).bind (M1 (decide (0<r+i)) x)
 |_=>.none
noncomputable def idx(k:Int)(n:Nat):Option Nat:=if 0≤k then(if k<n then some k.toNat else .none)else if 0≤k+n then some (k+n).toNat else .none
noncomputable def small(k:Int):Bool:=match k with
 |.ofNat n=>Nat.blt n 1000000000
 |.negSucc n=>Nat.blt n 999999999
def ai(vs:List AV)(i:AV):Option AV:=i.i?.bind fun k=>if small k then(idx k vs.length).bind (vs[·]?)else .none
def Lv(i:AV):AO→Option AV
 |.list vs=>ai vs i
 |.dict kvs=>i.s?.bind fun s=>lk s kvs
 |_=>.none
def ve(H:AH)(o i:AV):Option AV:=match o with
 |.tup vs=>ai vs i
 |.loc r j=>(get H r j).bind (Lv i)
 |_=>.none
noncomputable def clip(k:Int)(n:Nat):Nat:=if k<0 then(k+n).toNat else min k.toNat n
def ax(xs:List AV)(lo hi:Option Int):List AV:=
 let a:=match lo with|some k=>clip k xs.length|.none=>0
 let b:=match hi with|some k=>clip k xs.length|.none=>xs.length
 (xs.take b).drop a
def i6(i v:AV):AO→Option AO
 |.list vs=>i.i?.bind fun k=>if small k then(idx k vs.length).map (fun n=>.list (vs.set n v))else .none
 |.dict kvs=>i.s?.bind fun s=>if kvs.length<500 then some (.dict (pt s v kvs))else .none
 |_=>.none
noncomputable def nz(r i:Nat):Bool:=match r with
 |0=>(match i with
  |0=>false
  |_+1=>true)
 |_+1=>true
def E9(H:AH)(o i v:AV):Option AH:=o.l?.bind fun l=>if nz l.1 l.2 then(get H l.1 l.2).bind fun ao=>(i6 i v ao).map fun ao'=>put H l.1 l.2 ao' else .none
noncomputable def AO.n?:AO→Option (Nat×Nat×Nat)
 |.inst c r i=>some (c,r,i)
 |_=>.none
def lE(P:PT)(H:AH)(o:AV):Option ((Nat×Nat×Nat)×jf×List (Str×AV)):=
 o.l?.bind fun l=>(get H l.1 l.2).bind fun ao=>ao.n?.bind fun t=>(P.cls t.1).bind fun ci=>(G6 H t.1 t.2.1 t.2.2).map fun kvs=>(t,ci,kvs)
def Ex(P:PT)(H:AH)(o:AV)(x:Str):Option AV:=(lE P H o).bind fun t=>lk x t.2.2
noncomputable def mem(x:Str):List Str→Bool
 |[]=>false
 |y::l=>if x==y then true else mem x l
theorem neT{b:Bool}(q:b=false):¬b=true:=fun h=>gz (q.symm.trans h)
theorem mr{x:Str}{v:AV}{l:Lo}:lk x ((x,v)::l)=some v:=if_pos (beq_self_eq_true x)
theorem lH{x y:Str}{v:AV}{l:Lo}(q:(x==y)=false):lk x ((y,v)::l)=lk x l:=if_neg (neT q)
theorem Kr{x:Str}{v w:AV}{l:Lo}:pt x v ((x,w)::l)=(x,v)::l:=if_pos (beq_self_eq_true x)
theorem JE{x y:Str}{v w:AV}{l:Lo}(q:(x==y)=false):pt x v ((y,w)::l)=(y,w)::pt x v l:=if_neg (neT q)
theorem anyI{α:Type}{o:Option α}{p:α→Bool}(h:o.any p=true):∃a,o=some a∧p a=true:=by
 cases o with
 |none=>exact gz h
 |some a=>exact⟨a,rfl,h⟩
theorem Km{x y:Str}{v:AV}{l:Lo}:lk x ((y,v)::l)=if x==y then some v else lk x l:=rfl
theorem eS{x:Str}:mem x []=false:=rfl
theorem Jv{x y:Str}{l:List Str}:mem x (y::l)=if x==y then true else mem x l:=rfl
def Hz(P:PT)(H:AH)(o:AV)(x:Str)(v:AV):Option AH:=(lE P H o).bind fun t=>
 if t.2.2.length<500&&mem x t.2.1.attrs&&nz t.1.2.1 t.1.2.2 then some (put H t.1.2.1 t.1.2.2 (.dZ t.1.1 (pt x v t.2.2)))else .none
noncomputable def intOp(op:Operator)(x y:Int):Option Int:=match op with
 |.Add=>some (x+y)
 |.Sub=>some (x-y)
 |.Mod=>if 0<y then some (x%y)else .none
 |.FloorDiv=>if 0<y∧y<1000000 then some (x/y)else .none
 |_=>.none
noncomputable def isAdd:Operator→Bool
 |.Add=>true
 |_=>false
def AN(H:AH)(r:Nat)(op:Operator)(a b:AV):Option (AV×AH):=match a with
 |.int x=>b.i?.bind fun y=>(intOp op x y).map fun z=>(.int z,H)
 |.str x=>if isAdd op then b.s?.bind fun y=>if x.length+y.length<ab then some (.str (x++y),H)else .none else .none
 |.loc r1 i1=>if isAdd op then b.l?.bind fun l=>(ae H r1 i1).bind fun xs=>(ae H l.1 l.2).bind fun ys=>newList H r (xs++ys)else .none
 |_=>.none
noncomputable def Hs(op:CmpOp)(x y:Int):Option Bool:=match op with
 |.Lt=>some (decide (x<y))
 |.LtE=>some (decide (x≤y))
 |.Gt=>some (decide (y<x))
 |.GtE=>some (decide (y≤x))
 |_=>.none
def yX(H:AH)(op:CmpOp)(a b:AV):Option Bool:=match op with
 |.Eq=>fg H a b
 |.NotEq=>(fg H a b).map (!·)
 |.In=>m9 H a b
 |.NotIn=>(m9 H a b).map (!·)
 |op=>a.i?.bind fun x=>b.i?.bind fun y=>Hs op x y
def dG(H:AH)(v:AV):Option Bool:=match v with
 |.bool b=>some b
 |.loc r i=>(ae H r i).bind fun xs=>if xs.length<ab then some (!xs.isEmpty)else .none
 |_=>.none
noncomputable def aH(a b st:Int):List AV:=
 if st=1 then(List.range (b-a).toNat).map (fun k=>.int (a+(k:Nat)))
 else(List.range (a-b).toNat).map (fun k=>.int (a-(k:Nat)))
noncomputable def cQ:List AV→Option (List Int)
 |[]=>some []
 |v::l=>v.i?.bind fun i=>(cQ l).map (i::·)
noncomputable def dQ:List Int→Option Int
 |[]=>.none
 |x::l=>some (l.foldl (fun a b=>if a<b then b else a) x)
noncomputable def oX:List (Str×List Str):=
 [("b big code em font i s small strike strong tt u",["b","big","code","em","font","i","s","small","strike","strong","tt","u"]),
  ("rt rp rb rtc optgroup option",["rt","rp","rb","rtc","optgroup","option"])]
noncomputable def G_(x:Str):List (Str×List Str)→Option (List Str)
 |[]=>.none
 |(y,v)::l=>if x==y then some v else G_ x l
theorem Lb{x:Str}:G_ x []=.none:=rfl
theorem Lc{x y:Str}{v:List Str}{l:List (Str×List Str)}:G_ x ((y,v)::l)=if x==y then some v else G_ x l:=rfl
def jX(v:AV):Option (Str×Str):=v.t?.bind fun l=>(h8 l).bind fun p=>p.1.s?.bind fun a=>p.2.s?.map fun b=>(a,b)
def nu(xs:List AV):Option (List AV):=match xs with
 |[]=>some []
 |v::l=>(jX v).bind fun p=>match l with
  |[]=>some [v]
  |w::l=>(f7 l).bind fun _=>(jX w).bind fun q=>
   if p.1==("class":Str)&&q.1==("id":Str)then some [v,w]
   else if p.1==("id":Str)&&q.1==("class":Str)then some [w,v]else .none
def nZ(H:AH)(args:List AV):Option (List AV):=(one? args).bind fun v=>v.l?.bind fun l=>ae H l.1 l.2
def IL(H:AH)(args:List AV):Option (AV×AH):=(nZ H args).bind fun xs=>if xs.length<ab then some (.int xs.length,H)else .none
def IM(H:AH)(args:List AV):Option (AV×AH):=(nZ H args).bind fun xs=>((cQ xs).bind dQ).map (fun m=>(.int m,H))
def IP(H:AH)(args:List AV):Option (AV×AH):=(nZ H args).bind fun xs=>(cQ xs).map (fun l=>(.int l.sum,H))
def n7(H:AH)(r:Nat)(args:List AV):Option (AV×AH):=(one? args).bind fun v=>v.l?.bind fun l=>if 0<l.1+l.2 then(ae H l.1 l.2).bind fun xs=>(nu xs).bind (newList H r)else .none
def II(H:AH)(args:List AV):Option (AV×AH):=(one? args).bind fun v=>v.i?.bind fun k=>if 0≤k∧k<128 then some (.str ⟨#[k.toNat]⟩,H)else .none
noncomputable def isStr:AV→Option Bool
 |.str _=>some true
 |.int _=>some false
 |_=>.none
noncomputable def vX:AV→Bool
 |.ty n=>n=="str"
 |_=>false
def IK(H:AH)(args:List AV):Option (AV×AH):=(h8 args).bind fun p=>if vX p.2 then(isStr p.1).map fun b=>(.bool b,H)else .none
def uh(H:AH):List AV→Option (AV×AH)
 |[]=>.none
 |v::l=>v.i?.bind fun a=>match l with
  |[]=>if small a then some (.kf 0 a 1,H)else .none
  |w::l=>w.i?.bind fun b=>if small a&&small b then(match l with
   |[]=>some (.kf a b 1,H)
   |u::l=>(f7 l).bind fun _=>u.i?.bind fun c=>if c=-1 then some (.kf a b (-1),H)else .none)else .none
def AJ(H:AH)(r:Nat)(args:List AV):Option (AV×AH):=(one? args).bind fun v=>match v with
 |.tup vs=>newList H r vs
 |.loc r1 i1=>(ae H r1 i1).bind (newList H r)
 |_=>.none
def AM(H:AH)(args:List AV):Option (AV×AH):=(nZ H args).bind fun xs=>if xs.length<ab then some (.tup xs,H)else .none
def oj(H:AH)(r:Nat)(id:String)(args:List AV):Option (AV×AH):=
 if id="len"then IL H args else if id="max"then IM H args else if id="sum"then IP H args else if id="sorted"then n7 H r args
 else if id="chr"then II H args else if id="isinstance"then IK H args else .none
def uo(H:AH)(r:Nat)(n:String)(args:List AV):Option (AV×AH):=
 if n="range"then uh H args else if n="list"then AJ H r args else if n="tuple"then AM H args else .none
def vE(H:AH)(r:Nat)(f:AV)(args:List AV):Option (AV×AH):=match f with
 |.bi id=>oj H r id args
 |.ty n=>uo H r n args
 |_=>.none
def wh(xs args:List AV):Option (AV×List AV):=(one? args).map fun v=>(.none,xs++[v])
def Hc(xs args:List AV):Option (AV×List AV):=match args with
 |[]=>xs.getLast?.map fun v=>(v,xs.dropLast)
 |a::l=>(f7 l).bind fun _=>a.i?.bind fun k=>if small k then(idx k xs.length).bind fun n=>(xs[n]?).map fun v=>(v,xs.eraseIdx n)else .none
def wj(xs args:List AV):Option (AV×List AV):=(h8 args).bind fun p=>p.1.i?.bind fun k=>if 0≤k∧small k then some (.none,xs.take k.toNat++p.2::xs.drop k.toNat)else .none
def bf(xs args:List AV):Option Nat:=(one? args).bind fun v=>v.i?.bind fun k=>(cQ xs).bind fun l=>l.findIdx? (· ==k)
def wk(H:AH)(r i:Nat)(xs:List AV)(x:Str)(args:List AV):Option (AV×AH):=
 if xs.length<ab then
  if x==("append":Str)then(wh xs args).map fun p=>(p.1,put H r i (.list p.2))
  else if x==("pop":Str)then(Hc xs args).map fun p=>(p.1,put H r i (.list p.2))
  else if x==("insert":Str)then(wj xs args).map fun p=>(p.1,put H r i (.list p.2))
  else if x==("index":Str)then(bf xs args).map fun(n:Nat)=>(AV.int (n:Int),H)
  else if x==("remove":Str)then(bf xs args).map fun n=>(.none,put H r i (.list (xs.eraseIdx n)))
  else .none
 else .none
noncomputable def BL(x:Str):List (Str×Nat)→Option Nat
 |[]=>.none
 |(y,v)::l=>if x==y then some v else BL x l
theorem La{x y:Str}{v:Nat}{l:List (Str×Nat)}:BL x ((y,v)::l)=if x==y then some v else BL x l:=rfl
abbrev je:=Nat→List AV→AH→Option (AV×AH)
def AW(cal:je)(r:Nat)(f:AV)(args:List AV)(H:AH):Option (AV×AH):=match f with
 |.gl k=>cal k args H
 |f=>vE H r f args
inductive MF where
 |fn (k r i:Nat)|ls (r i:Nat)|sp (l:List Str)
noncomputable def kF:List Str:=["append","pop","insert","index","remove"]
def lJ(P:PT)(H:AH)(o:AV)(x:Str):Option MF:=match o with
 |.loc r i=>(get H r i).bind fun ao=>match ao with
  |.list _=>if mem x kF then some (.ls r i)else .none
  |_=>(lE P H o).bind fun t=>match lk x t.2.2 with
   |.none=>(BL x t.2.1.meths).map fun k=>.fn k r i
   |some _=>.none
 |.str s=>if x==("split":Str)then(G_ s oX).map .sp else .none
 |_=>.none
def BZ(cal:je)(rg:Nat)(f:MF)(x:Str)(args:List AV)(H:AH):Option (AV×AH):=match f with
 |.fn k r i=>cal k (.loc r i::args) H
 |.ls r i=>if nz r i then(ae H r i).bind fun xs=>wk H r i xs x args else .none
 |.sp l=>(f7 args).bind fun _=>newList H rg (l.map .str)
inductive It where
 |fix (vs:List AV)
 |live (r i:Nat) (n:Nat)
noncomputable def It.len:It→Nat
 |.fix vs=>vs.length
 |.live _ _ n=>n
def fj(H:AH):AV→Option It
 |.loc r i=>(ae H r i).map (fun xs=>.live r i xs.length)
 |.tup vs=>some (.fix vs)
 |.kf a b st=>if small a&&small b&&(decide (st=1)||decide (st=-1))then some (.fix (aH a b st))else .none
 |_=>.none
def jV(H:AH)(I:It)(j:Nat):Option (Option AV):=match I with
 |.fix vs=>some vs[j]?
 |.live r i n=>(ae H r i).bind fun xs=>if xs.length=n then some xs[j]? else .none
noncomputable def mW(f:AV→Lo→AH→Option (AF×Lo×AH))(I:It):Nat→Nat→Lo→AH→Option (AF×Lo×AH)
 |0,_,_,_=>.none
 |n+1,j,lo,H=>(jV H I j).bind fun o=>match o with
  |.none=>some (.next,lo,H)
  |some v=>(f v lo H).bind fun t=>match t.1 with
   |.next=>mW f I n (j+1) t.2.1 t.2.2
   |.brk=>some (.next,t.2)
   |.ret _=>some t
def FY(f:AV→Lo→AH→Option (AF×Lo×AH))(I:It)(lo:Lo)(H:AH):Option (AF×Lo×AH):=mW f I (I.len+1) 0 lo H
noncomputable def mM(f:AV→List AV→Lo→AH→Option (List AV×Lo×AH))(I:It):Nat→Nat→List AV→Lo→AH→Option (List AV×Lo×AH)
 |0,_,_,_,_=>.none
 |n+1,j,acc,lo,H=>(jV H I j).bind fun o=>match o with
  |.none=>some (acc,lo,H)
  |some v=>(f v acc lo H).bind fun t=>mM f I n (j+1) t.1 t.2.1 t.2.2
def mO(f:AV→List AV→Lo→AH→Option (List AV×Lo×AH))(I:It)(acc:List AV)(lo:Lo)(H:AH):Option (List AV×Lo×AH):=mM f I (I.len+1) 0 acc lo H
structure EV where
 e:Scope→Lo→Expr→AH→Option (AV×AH)
 t:Scope→Lo→Expr→AH→Option (Bool×AH)
 x:Scope→Lo→Stmt→AH→Option (AF×Lo×AH)
noncomputable def uA(g:Expr→AH→Option (AV×AH)):List Expr→AH→Option (List AV×AH)
 |[],H=>some ([],H)
 |a::l,H=>(g a H).bind fun v=>(uA g l v.2).map fun vs=>(v.1::vs.1,vs.2)
def Ib(g:Expr→AH→Option (AV×AH))(e:Option Expr)(H:AH):Option (Option Int×AH):=match e with
 |.none=>some (.none,H)
 |some a=>(g a H).bind fun v=>v.1.i?.bind fun k=>if small k then some (some k,v.2)else .none
noncomputable def ru(g:Lo→Stmt→AH→Option (AF×Lo×AH)):List Stmt→Lo→AH→Option (AF×Lo×AH)
 |[],lo,H=>some (.next,lo,H)
 |s::l,lo,H=>(g lo s H).bind fun t=>match t.1 with
  |.next=>ru g l t.2.1 t.2.2
  |_=>some t
noncomputable def nA(op:BoolOp)(b:Bool):Bool:=match op with
 |.And=>!b
 |.Or=>b
noncomputable def yL(g:Expr→AH→Option (Bool×AH))(op:BoolOp):List Expr→AH→Option (Bool×AH)
 |[],H=>some (op==.And,H)
 |x::l,H=>(g x H).bind fun t=>if nA op t.1 then some t else yL g op l t.2
noncomputable def Kq(g:Expr→AH→Option (AV×AH))(op:BoolOp):List Expr→AH→Option (AV×AH)
 |[],_=>.none
 |x::l,H=>(g x H).bind fun t=>if l.isEmpty then some t else(dG t.2 t.1).bind fun b=>if nA op b then some t else Kq g op l t.2
noncomputable def Const.s?:Const→Option Str
 |.str s=>some s
 |_=>.none
def litS:Expr→Option Str
 |.Constant c _ _=>Const.s? c
 |_=>.none
noncomputable def fz:List (Option Expr)→Option (List Str)
 |[]=>some []
 |k::l=>(k.bind litS).bind fun s=>(fz l).map (s::·)
noncomputable def cst:Const→Option AV
 |.none=>some .none
 |.bool b=>some (.bool b)
 |.int i=>some (.int i)
 |.str s=>some (.str s)
 |_=>.none
def lK(P:PT)(sc:Scope)(lo:Lo)(x:Str):Option AV:=match sc.names.lookup x with
 |some .local|some .cell|some .free=>lk x lo
 |some .globalImplicit=>lk x P.gl
 |_=>.none
noncomputable def c9(sc:Scope)(lo:Lo):Lo:=lo.filter (fun p=>sc.names.lookup p.1==some .free)
noncomputable def cM(sc:Scope)(x:Str):Bool:=sc.names.lookup x==some .local
noncomputable def d4(sc:Scope)(x:Str):Bool:=sc.names.lookup x==some .local||sc.names.lookup x==some .cell
noncomputable def ey:Expr→Option Str
 |.Name x _=>some x
 |_=>.none
noncomputable def compTurn(r:EV)(sc:Scope)(elt:Expr):List Comprehension→AV→List AV→Lo→AH→Option (List AV×Lo×AH)
 |[],_,_,_,_=>.none
 |g::rest,v,acc,lo,H=>(ey g.target).bind fun x=>if cM sc x then
   (yL (r.t sc (pt x v lo)) .And g.ifs H).bind fun t=>if t.1 then(match rest with
    |[]=>(r.e sc (pt x v lo) elt t.2).bind fun y=>if acc.length<ab then some (acc++[y.1],pt x v lo,y.2)else .none
    |g'::_=>(r.e sc (pt x v lo) g'.iter t.2).bind fun xs=>(fj xs.2 xs.1).bind fun I=>mO (compTurn r sc elt rest) I acc (pt x v lo) xs.2)
    else some (acc,pt x v lo,t.2)
  else .none
noncomputable def isName:Expr→Bool
 |.Name _ _=>true
 |_=>false
def f9:Expr→Bool
 |.Call g as ks _=>!(isName g&&as.isEmpty&&ks.isEmpty)
 |_=>true
noncomputable def rP(sc csc:Scope):Bool:=csc.kind==.function&&!csc.isGenerator&&!csc.isCoroutine&&csc.names.all (fun p=>!(p.1==("__debug__":Str))&&csc.names.lookup p.1==some p.2&&
 (p.2==.local||(p.2==.globalImplicit||(p.2==.free&&(sc.names.lookup p.1==some .cell||sc.names.lookup p.1==some .free)))))
def B9(g:Comprehension):Bool:=isName g.target&&decide (g.is_async=0)
def fo(gs:List Comprehension):Bool:=gs.all B9
noncomputable def isSlice:Expr→Bool
 |.Slice _ _ _ _=>true
 |_=>false
noncomputable def slice?:Expr→Option (Option Expr×Option Expr)
 |.Slice l u st _=>if st.isNone then some (l,u)else .none
 |_=>.none
noncomputable def AI:Expr→Option (Expr×Str×Pos)
 |.Attribute o x p=>some (o,x,p)
 |_=>.none
noncomputable def isTup:Expr→Bool
 |.Tuple _ _ _=>true
 |_=>false
noncomputable def uM:Expr→Bool
 |.ListComp _ _ _ _=>true
 |.SetComp _ _ _ _=>true
 |.DictComp _ _ _ _ _=>true
 |_=>false
noncomputable def n_:Expr→Bool
 |.SetComp _ _ _ _=>true
 |.DictComp _ _ _ _ _=>true
 |_=>false
def MB(r:EV)(sc:Scope)(lo:Lo)(op:UnaryOp)(a:Expr)(H:AH):Option (AV×AH):=match op with
 |.USub=>(r.e sc lo a H).bind fun t=>t.1.i?.map fun i=>(.int (-i),t.2)
 |.Not=>(r.e sc lo a H).bind fun t=>(dG t.2 t.1).map fun b=>(.bool (!b),t.2)
 |_=>.none
noncomputable def MA(r:EV)(sc:Scope)(lo:Lo)(c a b:Expr)(H:AH):Option (AV×AH):=(r.t sc lo c H).bind fun t=>if t.1 then r.e sc lo a t.2 else r.e sc lo b t.2
def KS(P:PT)(r:EV)(sc:Scope)(lo:Lo)(a:Expr)(op:Operator)(b:Expr)(p:Pos)(H:AH):Option (AV×AH):=
 (r.e sc lo a H).bind fun t=>(r.e sc lo b t.2).bind fun u=>AN u.2 (P.site p) op t.1 u.1
def Ed(r:EV)(sc:Scope)(lo:Lo)(a:Expr)(ops:List CmpOp)(bs:List Expr)(H:AH):Option (Bool×AH):=
 (one? ops).bind fun op=>(one? bs).bind fun b=>if behindInMarks op b then .none else
  (r.e sc lo a H).bind fun t=>(r.e sc lo b t.2).bind fun u=>(yX u.2 op t.1 u.1).map (·,u.2)
def IZ(P:PT)(r:EV)(sc:Scope)(lo:Lo)(a:Expr)(x:Str)(H:AH):Option (AV×AH):=
 if f9 a then(r.e sc lo a H).bind fun t=>(Ex P t.2 t.1 x).map (·,t.2)else .none
def uv(P:PT)(r:EV)(sc:Scope)(lo:Lo)(a:Expr)(l u:Option Expr)(p:Pos)(H:AH):Option (AV×AH):=
 (r.e sc lo a H).bind fun t=>t.1.l?.bind fun w=>(Ib (r.e sc lo) l t.2).bind fun x=>(Ib (r.e sc lo) u x.2).bind fun y=>(ae y.2 w.1 w.2).bind fun xs=>
  if xs.length<ab then newList y.2 (P.site p) (ax xs x.1 y.1)else .none
def Ee(P:PT)(r:EV)(sc:Scope)(lo:Lo)(a i:Expr)(p:Pos)(H:AH):Option (AV×AH):=
 if isSlice i then(slice? i).bind fun s=>uv P r sc lo a s.1 s.2 p H
 else(r.e sc lo a H).bind fun t=>(r.e sc lo i t.2).bind fun u=>(ve u.2 t.1 u.1).map (·,u.2)
def KY(r:EV)(sc:Scope)(lo:Lo)(es:List Expr)(H:AH):Option (AV×AH):=(uA (r.e sc lo) es H).bind fun t=>if t.1.length<ab then some (.tup t.1,t.2)else .none
def eList(P:PT)(r:EV)(sc:Scope)(lo:Lo)(es:List Expr)(p:Pos)(H:AH):Option (AV×AH):=(uA (r.e sc lo) es H).bind fun t=>newList t.2 (P.site p) t.1
def I8(P:PT)(r:EV)(sc:Scope)(lo:Lo)(ks:List (Option Expr))(es:List Expr)(p:Pos)(H:AH):Option (AV×AH):=
 (fz ks).bind fun xs=>(uA (r.e sc lo) es H).bind fun t=>if xs.length=t.1.length∧xs.length<16∧xs.Nodup then cP t.2 (P.site p) (.dict (xs.zip t.1))else .none
def I9(P:PT)(cal:je)(r:EV)(sc:Scope)(lo:Lo)(o:Expr)(x:Str)(ap:Pos)(args:List Expr)(p:Pos)(H:AH):Option (AV×AH):=
 if f9 o&&Nat.beq ap.endLine p.line&&Nat.blt args.length 30 then
  (r.e sc lo o H).bind fun t=>(lJ P t.2 t.1 x).bind fun mf=>(uA (r.e sc lo) args t.2).bind fun u=>BZ cal (P.site p) mf x u.1 u.2
 else .none
def I4(P:PT)(cal:je)(r:EV)(sc:Scope)(lo:Lo)(f:Expr)(args:List Expr)(p:Pos)(H:AH):Option (AV×AH):=
 (r.e sc lo f H).bind fun t=>(uA (r.e sc lo) args t.2).bind fun u=>AW cal (P.site p) t.1 u.1 u.2
def FT(P:PT)(cal:je)(r:EV)(sc:Scope)(lo:Lo)(f:Expr)(args:List Expr)(ks:List Keyword)(p:Pos)(H:AH):Option (AV×AH):=
 (f7 ks).bind fun _=>match AI f with
  |some a=>I9 P cal r sc lo a.1 a.2.1 a.2.2 args p H
  |.none=>I4 P cal r sc lo f args p H
def FU(P:PT)(r:EV)(sc:Scope)(lo:Lo)(elt:Expr)(gens:List Comprehension)(csc:Scope)(p:Pos)(H:AH):Option (AV×AH):=
 if rP sc csc&&fo gens then gens.head?.bind fun g=>(r.e sc lo g.iter H).bind fun t=>(fj t.2 t.1).bind fun I=>
  (mO (compTurn r csc elt gens) I [] (c9 csc lo) t.2).bind fun u=>newList u.2.2 (P.site p) u.1
 else .none
def K0(P:PT)(cal:je)(r:EV)(sc:Scope)(lo:Lo)(e:Expr)(H:AH):Option (AV×AH):=match e with
 |.Constant c _ _=>(cst c).map (·,H)
 |.Name x _=>(lK P sc lo x).map (·,H)
 |.UnaryOp op a _=>MB r sc lo op a H
 |.BoolOp op es _=>Kq (r.e sc lo) op es H
 |.IfExp c a b _=>MA r sc lo c a b H
 |.BinOp a op b p=>KS P r sc lo a op b p H
 |.Compare a ops bs _=>(Ed r sc lo a ops bs H).map fun t=>(.bool t.1,t.2)
 |.Attribute a x _=>IZ P r sc lo a x H
 |.Subscript a i p=>Ee P r sc lo a i p H
 |.Tuple es _ _=>KY r sc lo es H
 |.List es p=>eList P r sc lo es p H
 |.Dict ks es p=>I8 P r sc lo ks es p H
 |.Call f args ks p=>FT P cal r sc lo f args ks p H
 |.ListComp elt gens csc p=>FU P r sc lo elt gens csc p H
 |_=>.none
def uy(r:EV)(sc:Scope)(lo:Lo)(e:Expr)(H:AH):Option (Bool×AH):=(r.e sc lo e H).bind fun t=>(dG t.2 t.1).map (·,t.2)
noncomputable def KW(r:EV)(sc:Scope)(lo:Lo)(op:UnaryOp)(a:Expr)(H:AH):Option (Bool×AH):=match op with
 |.Not=>(r.t sc lo a H).map fun x=>(!x.1,x.2)
 |_=>.none
def K1(r:EV)(sc:Scope)(lo:Lo)(e:Expr)(H:AH):Option (Bool×AH):=match e with
 |.UnaryOp op a _=>KW r sc lo op a H
 |.BoolOp op es _=>yL (r.t sc lo) op es H
 |.IfExp _ _ _ _=>.none
 |.Compare a ops bs _=>Ed r sc lo a ops bs H
 |.Name x p=>uy r sc lo (.Name x p) H
 |.Call f as ks p=>uy r sc lo (.Call f as ks p) H
 |.Attribute a x p=>uy r sc lo (.Attribute a x p) H
 |.Subscript a i p=>uy r sc lo (.Subscript a i p) H
 |.Constant c k p=>uy r sc lo (.Constant c k p) H
 |_=>.none
def oY(sc:Scope)(lo:Lo)(x:Str)(v:AV):Option Lo:=if d4 sc x then some (pt x v lo)else .none
noncomputable def Fq(t:Lo→AH→Option (Bool×AH))(f:Lo→AH→Option (AF×Lo×AH)):Nat→Lo→AH→Option (AF×Lo×AH)
 |0,_,_=>.none
 |n+1,lo,H=>(t lo H).bind fun b=>if b.1 then((f lo b.2).bind fun t'=>match t'.1 with
   |.next=>Fq t f n t'.2.1 t'.2.2
   |.brk=>some (.next,t'.2)
   |.ret _=>some t')
  else some (.next,lo,b.2)
noncomputable def cg:Nat:=1000000
def aName(r:EV)(sc:Scope)(lo:Lo)(x:Str)(e:Expr)(H:AH):Option (AF×Lo×AH):=
 if n_ e then .none else(r.e sc lo e H).bind fun t=>(oY sc lo x t.1).map fun lo=>(.next,lo,t.2)
def IE(r:EV)(sc:Scope)(lo:Lo)(ts:List Expr)(e:Expr)(H:AH):Option (AF×Lo×AH):=
 (h8 ts).bind fun xy=>(ey xy.1).bind fun x=>(ey xy.2).bind fun y=>if isTup e then .none else
  (r.e sc lo e H).bind fun t=>t.1.t?.bind fun l=>(h8 l).bind fun vw=>if cM sc x&&cM sc y then some (.next,pt y vw.2 (pt x vw.1 lo),t.2)else .none
def FJ(P:PT)(r:EV)(sc:Scope)(lo:Lo)(o:Expr)(x:Str)(e:Expr)(H:AH):Option (AF×Lo×AH):=
 (r.e sc lo e H).bind fun t=>(r.e sc lo o t.2).bind fun u=>(Hz P u.2 u.1 x t.1).map fun H=>(.next,lo,H)
def aSub(r:EV)(sc:Scope)(lo:Lo)(o i:Expr)(e:Expr)(H:AH):Option (AF×Lo×AH):=
 (r.e sc lo e H).bind fun t=>(r.e sc lo o t.2).bind fun u=>(r.e sc lo i u.2).bind fun w=>(E9 w.2 u.1 w.1 t.1).map fun H=>(.next,lo,H)
def Mv(P:PT)(r:EV)(sc:Scope)(lo:Lo)(tg e:Expr)(H:AH):Option (AF×Lo×AH):=match tg with
 |.Name x _=>aName r sc lo x e H
 |.Tuple ts _ _=>IE r sc lo ts e H
 |.Attribute o x _=>FJ P r sc lo o x e H
 |.Subscript o i _=>aSub r sc lo o i e H
 |_=>.none
noncomputable def IH(op:Operator)(a b:Int):Option Int:=match op with
 |.Add=>some (a+b)
 |.Sub=>some (a-b)
 |_=>.none
def F0(P:PT)(r:EV)(sc:Scope)(lo:Lo)(x:Str)(op:Operator)(e:Expr)(H:AH):Option (AF×Lo×AH):=
 if cM sc x then(lk x lo).bind fun a=>a.i?.bind fun i=>(r.e sc lo e H).bind fun t=>t.1.i?.bind fun j=>(IH op i j).map fun k=>(.next,pt x (.int k) lo,t.2)else .none
def Jh(r:EV)(sc:Scope)(lo:Lo)(o i:Expr)(op:Operator)(e:Expr)(H:AH):Option (AF×Lo×AH):=
 if isSlice i||!isAdd op then .none else(r.e sc lo o H).bind fun u=>(r.e sc lo i u.2).bind fun w=>(ve w.2 u.1 w.1).bind fun a=>a.s?.bind fun y=>
  (r.e sc lo e w.2).bind fun t=>t.1.s?.bind fun z=>if y.length+z.length<ab then(E9 t.2 u.1 w.1 (.str (y++z))).map fun H=>(.next,lo,H)else .none
def ME(P:PT)(r:EV)(sc:Scope)(lo:Lo)(tg:Expr)(op:Operator)(e:Expr)(H:AH):Option (AF×Lo×AH):=match tg with
 |.Name x _=>F0 P r sc lo x op e H
 |.Subscript o i _=>Jh r sc lo o i op e H
 |_=>.none
noncomputable def Lz(r:EV)(sc:Scope)(lo:Lo)(e:Option Expr)(H:AH):Option (AF×Lo×AH):=match e with
 |.none=>some (.ret .none,lo,H)
 |some e=>(r.e sc lo e H).map fun t=>(.ret t.1,lo,t.2)
noncomputable def M8(r:EV)(sc:Scope)(lo:Lo)(c:Expr)(a b:List Stmt)(H:AH):Option (AF×Lo×AH):=(r.t sc lo c H).bind fun t=>if t.1 then ru (r.x sc) a lo t.2 else ru (r.x sc) b lo t.2
def Ly(r:EV)(sc:Scope)(lo:Lo)(tg it:Expr)(body:List Stmt)(H:AH):Option (AF×Lo×AH):=
 (ey tg).bind fun x=>if cM sc x then(r.e sc lo it H).bind fun t=>(fj t.2 t.1).bind fun I=>FY (fun v lo H=>ru (r.x sc) body (pt x v lo) H) I lo t.2 else .none
def K2(P:PT)(r:EV)(sc:Scope)(lo:Lo)(s:Stmt)(H:AH):Option (AF×Lo×AH):=match s with
 |.Pass _=>some (.next,lo,H)
 |.Break _=>some (.brk,lo,H)
 |.Return e _=>Lz r sc lo e H
 |.Expr e _=>if uM e then .none else(r.e sc lo e H).map fun t=>(.next,lo,t.2)
 |.Assign ts e _=>(one? ts).bind fun tg=>Mv P r sc lo tg e H
 |.AugAssign tg op e _=>ME P r sc lo tg op e H
 |.If c a b _=>M8 r sc lo c a b H
 |.While c body els _=>(f7 els).bind fun _=>Fq (fun lo H=>r.t sc lo c H) (ru (r.x sc) body) cg lo H
 |.For tg it body els _=>(f7 els).bind fun _=>Ly r sc lo tg it body H
 |_=>.none
noncomputable def Ek(P:PT)(cal:je):Nat→EV
 |0=>⟨fun _ _ _ _=>.none,fun _ _ _ _=>.none,fun _ _ _ _=>.none⟩
 |d+1=>⟨K0 P cal (Ek P cal d),K1 (Ek P cal d),K2 P (Ek P cal d)⟩
noncomputable def gy:List Str→List AV→List AV→Option Lo
 |[],_,args=>(f7 args).map fun _=>[]
 |x::xs,ds,args=>match args with
  |v::vs=>(gy xs ds vs).map ((x,v)::·)
  |[]=>if xs.length<ds.length then((ds.drop (ds.length-(xs.length+1))).head?).bind fun d=>(gy xs ds []).map ((x,d)::·)else .none
noncomputable def iw:Nat:=40
noncomputable def wB(t:AF×Lo×AH):Option (AV×AH):=match t.1 with
 |.ret v=>some (v,t.2.2)
 |.next=>some (.none,t.2.2)
 |.brk=>.none
noncomputable def isNone:AV→Option Unit
 |.none=>some ()
 |_=>.none
def Ju(cal:je)(k:Nat)(ci:jf)(args:List AV)(H:AH):Option (AV×AH):=
 (BL ("__init__":Str) ci.meths).bind fun i=>(cP H 0 (.dZ k [])).bind fun d=>d.1.l?.bind fun w=>(cP d.2 0 (.inst k w.1 w.2)).bind fun o=>
  (cal i (o.1::args) o.2).bind fun t=>(isNone t.1).map fun _=>(o.1,t.2)
def Lp(r:EV)(f:zK)(args:List AV)(H:AH):Option (AV×AH):=(gy f.params f.defs args).bind fun lo=>(ru (r.x f.scope) f.body lo H).bind wB
noncomputable def ib(P:PT):Nat→je
 |0,_,_,_=>.none
 |n+1,k,args,H=>(P.at_ k).bind fun g=>match g with
  |.fn f=>Lp (Ek P (ib P n) iw) f args H
  |.cls c=>Ju (ib P n) k c args H
end Hx
namespace Hx
open PySem PySem.W PyProof.Rows PySem.Calls
abbrev NL:=List (Addr×Obj)
structure Wd where
 rg:List NL
 tp:NL
 ex:NL
 cl:NL
noncomputable def Wd.pt(W:Wd)(r i:Nat):Option (Addr×Obj):=(W.rg[r]?).bind (·[i]?)
def Wd.ad(W:Wd)(r i:Nat):Option Addr:=(W.pt r i).map (·.1)
noncomputable def Wd.all(W:Wd):NL:=W.rg.flatten++(W.tp++(W.ex++W.cl))
noncomputable abbrev sb (vs:List Value) (n:Nat):Obj:={cls:=.type "tuple",data:=.seq vs.toArray n}
noncomputable abbrev Ln (a b c:Int) (t u v:Tok):Obj:={cls:=.type "range",dict:=none,data:=.fields #[.int a t,.int b u,.int c v],slots:=#[]}
structure Gm where
 prog:Program
 w:World
 ga:Nat→Addr
 em:List Addr
 attrs:Nat→List Str
mutual
inductive VR (g:Gm) (W:Wd):AV→Value→Prop
 |none:VR g W .none .none
 |bool (b):VR g W (.bool b) (.bool b)
 |int (i t):VR g W (.int i) (.int i t)
 |str (s t):VR g W (.str s) (.str s t)
 |gl (k):VR g W (.gl k) (.ref (g.ga k))
 |bi (id):handedIn (.builtin id)=true→VR g W (.bi id) (.builtin id)
 |ty (n):VR g W (.ty n) (.type n)
 |loc {r i a}:W.ad r i=some a→VR g W (.loc r i) (.ref a)
 |tup {vs ws a n}:(a,sb ws n)∈W.tp→bh g W vs ws→VR g W (.tup vs) (.ref a)
 |l9 {a}:a∈g.em→VR g W (.tup []) (.ref a)
 |kf {a b st x t u v}:(x,Ln a b st t u v)∈W.tp→VR g W (.kf a b st) (.ref x)
inductive bh (g:Gm) (W:Wd):List AV→List Value→Prop
 |nil:bh g W [] []
 |cons {v w vs ws}:VR g W v w→bh g W vs ws→bh g W (v::vs) (w::ws)
end
structure Le (W W':Wd):Prop where
 ad:∀r i a,W.ad r i=some a→W'.ad r i=some a
 tp:∀p∈W.tp,p∈W'.tp
 z:∀p,W.pt 0 0=some p→W'.pt 0 0=some p
 ex:W'.ex=W.ex
 cl:W'.cl=W.cl
theorem Le.refl(W:Wd):Le W W:=⟨fun _ _ _ h=>h,fun _ h=>h,fun _ h=>h,rfl,rfl⟩
theorem Le.trans{A B C:Wd}(x:Le A B)(y:Le B C):Le A C:=⟨fun r i a h=>y.ad r i a (x.ad r i a h),fun p h=>y.tp p (x.tp p h),fun p h=>y.z p (x.z p h),y.ex.trans x.ex,y.cl.trans x.cl⟩
structure jc (W W':Wd):Prop where
 ad:∀r i a,W.ad r i=some a→W'.ad r i=some a
 tp:∀p∈W.tp,p∈W'.tp
theorem Le.eR{W W':Wd}(x:Le W W'):jc W W':=⟨x.ad,x.tp⟩
theorem jc.refl(W:Wd):jc W W:=⟨fun _ _ _ h=>h,fun _ h=>h⟩
theorem jc.trans{A B C:Wd}(x:jc A B)(y:jc B C):jc A C:=⟨fun r i a h=>y.ad r i a (x.ad r i a h),fun p h=>y.tp p (x.tp p h)⟩
theorem VR.mono{g:Gm}{W W':Wd}(l:jc W W'):∀{v:AV}{w:Value},VR g W v w→VR g W' v w:=fun h=>
 VR.rec (motive_1:=fun v w _=>VR g W' v w) (motive_2:=fun v w _=>bh g W' v w) .none (fun b=>.bool b) (fun i t=>.int i t) (fun s t=>.str s t) (fun k=>.gl k) (fun k h=>.bi k h) (fun k=>.ty k)
  (fun h=>.loc (l.ad _ _ _ h)) (fun h _ ih=>.tup (l.tp _ h) ih) (fun h=>.l9 h) (fun h=>.kf (l.tp _ h)) .nil (fun _ _ a b=>.cons a b) h
theorem bh.ind{g:Gm}{W:Wd}{P:List AV→List Value→Prop}(n:P [] [])(k:∀{v w vs ws},VR g W v w→bh g W vs ws→P vs ws→P (v::vs) (w::ws)) {v:List AV} {w:List Value} (h:bh g W v w):P v w:=
 bh.rec (motive_1:=fun _ _ _=>True) (motive_2:=fun v w _=>P v w) trivial (fun _=>trivial) (fun _ _=>trivial) (fun _ _=>trivial) (fun _=>trivial) (fun _ _=>trivial) (fun _=>trivial) (fun _=>trivial)
  (fun _ _ _=>trivial) (fun _=>trivial) (fun _=>trivial) n (fun a b _ c=>k a b c) h
theorem bh.mono{g:Gm}{W W':Wd}(l:jc W W'):∀{v:List AV}{w:List Value},bh g W v w→bh g W' v w:=fun h=>bh.ind (P:=fun v w=>bh g W' v w) .nil (fun a _ b=>.cons (a.mono l) b) h
theorem bh.length{g:Gm}{W:Wd}:∀{v:List AV}{w:List Value},bh g W v w→w.length=v.length:=fun h=>bh.ind (P:=fun v w=>w.length=v.length) rfl (fun _ _ r=>congrArg (· +1) r) h
theorem bh.get{g:Gm}{W:Wd}:∀{v:List AV}{w:List Value},bh g W v w→∀{i:Nat}{x:AV},v[i]?=some x→∃y,w[i]?=some y∧VR g W x y:=@fun _ _ h i x e=>
 bh.ind (P:=fun v w=>∀(i:Nat)(x:AV),v[i]?=some x→∃y,w[i]?=some y∧VR g W x y) (fun _ _ h=>by simp at h) (fun h _ ih i x e=>by
  cases i with
  |zero=>simp at e;subst e;exact⟨_,rfl,h⟩
  |succ i=>simpa using ih i x (by exact e)) h i x e
theorem bh.append{g:Gm}{W:Wd}:∀{v v':List AV}{w w':List Value},bh g W v w→bh g W v' w'→bh g W (v++v') (w++w'):=@fun _ v' _ w' h k=>
 bh.ind (P:=fun v w=>bh g W (v++v') (w++w')) k (fun h _ r=>.cons h r) h
theorem bh.take{g:Gm}{W:Wd}:∀{v:List AV}{w:List Value},bh g W v w→∀n,bh g W (v.take n) (w.take n):=fun h=>
 bh.ind (P:=fun v w=>∀n,bh g W (v.take n) (w.take n)) (fun n=>by simpa using bh.nil) (fun h _ r n=>by
  cases n with
  |zero=>simpa using bh.nil
  |succ n=>exact bh.cons h (r n)) h
theorem bh.drop{g:Gm}{W:Wd}:∀{v:List AV}{w:List Value},bh g W v w→∀n,bh g W (v.drop n) (w.drop n):=fun h=>
 bh.ind (P:=fun v w=>∀n,bh g W (v.drop n) (w.drop n)) (fun n=>by simpa using bh.nil) (fun h r ih n=>by
  cases n with
  |zero=>exact .cons h r
  |succ n=>exact ih n) h
theorem bh.set{g:Gm}{W:Wd}{x:AV}{y:Value}(hx:VR g W x y):∀{v:List AV}{w:List Value},bh g W v w→∀n,bh g W (v.set n x) (w.set n y):=fun h=>
 bh.ind (P:=fun v w=>∀n,bh g W (v.set n x) (w.set n y)) (fun n=>by simpa using bh.nil) (fun h r ih n=>by
  cases n with
  |zero=>exact .cons hx r
  |succ n=>exact .cons h (ih n)) h
theorem bh.erase{g:Gm}{W:Wd}:∀{v:List AV}{w:List Value},bh g W v w→∀n,bh g W (v.eraseIdx n) (w.eraseIdx n):=fun h=>
 bh.ind (P:=fun v w=>∀n,bh g W (v.eraseIdx n) (w.eraseIdx n)) (fun n=>by simpa using bh.nil) (fun h r ih n=>by
  cases n with
  |zero=>exact r
  |succ n=>exact .cons h (ih n)) h
theorem bh.one{g:Gm}{W:Wd}{x:AV}{y:Value}(h:VR g W x y):bh g W [x] [y]:=.cons h .nil
inductive mi (g:Gm) (W:Wd):List (Str×AV)→List DictEntry→Prop
 |nil:mi g W [] []
 |cons {k t v w l es}:VR g W v w→mi g W l es→mi g W ((k,v)::l) (⟨PyData.keyHash g.w.params k,.str k t,w⟩::es)
theorem mi.mono{g:Gm}{W W':Wd}(l:jc W W'):∀{a:List (Str×AV)}{b:List DictEntry},mi g W a b→mi g W' a b:=fun h=>by
 induction h with
 |nil=>exact .nil
 |cons h _ ih=>exact .cons (h.mono l) ih
theorem mi.length{g:Gm}{W:Wd}:∀{v:List (Str×AV)}{w:List DictEntry},mi g W v w→w.length=v.length:=fun h=>by
 induction h with
 |nil=>rfl
 |cons _ _ ih=>exact congrArg (· +1) ih
inductive kj (g:Gm) (W:Wd):List (Str×AV)→List (Str×Value)→Prop
 |nil:kj g W [] []
 |cons {k v w l es}:VR g W v w→kj g W l es→kj g W ((k,v)::l) ((k,w)::es)
theorem kj.mono{g:Gm}{W W':Wd}(l:jc W W'):∀{a:List (Str×AV)}{b:List (Str×Value)},kj g W a b→kj g W' a b:=fun h=>by
 induction h with
 |nil=>exact .nil
 |cons h _ ih=>exact .cons (h.mono l) ih
theorem kj.length{g:Gm}{W:Wd}:∀{v:List (Str×AV)}{w:List (Str×Value)},kj g W v w→w.length=v.length:=fun h=>by
 induction h with
 |nil=>rfl
 |cons _ _ ih=>exact congrArg (· +1) ih
def OR(g:Gm)(W:Wd):AO→Obj→Prop
 |.list xs,o=>∃vs n,o=listOf vs.toArray n∧bh g W xs vs
 |.dict kvs,o=>∃ws,o.IsDictOf (strKind g.prog g.w) ws∧kj g W kvs ws
 |.dZ k kvs,o=>∃es n,o=dictOf es n∧mi g W kvs es∧∀x v,lk x kvs=some v→mem x (g.attrs k)=true
 |.inst c r i,o=>∃d,o=instObj (g.ga c) d∧W.ad r i=some d
theorem OR.mono{g:Gm}{W W':Wd}(l:jc W W'):∀{a:AO}{o:Obj},OR g W a o→OR g W' a o:=@fun a _ h=>by
 cases a with
 |list=>exact eB h fun vs n e h=>⟨vs,n,e,h.mono l⟩
 |dict=>exact ar h fun ws e h=>⟨ws,e,h.mono l⟩
 |dZ=>exact bx h fun es n e h q=>⟨es,n,e,h.mono l,q⟩
 |inst=>exact ar h fun d e h=>⟨d,e,l.ad _ _ _ h⟩
structure HR (g:Gm) (W:Wd) (H:AH):Prop where
 len:∀r:Nat,(H[r]?).map List.length=(W.rg[r]?).map List.length
 ob:∀r i ao,get H r i=some ao→∃a o,W.pt r i=some (a,o)∧OR g W ao o
noncomputable def Wd.i6(W:Wd)(r i:Nat)(o:Obj):Wd:={W with rg:=W.rg.modify r (fun l=>l.modify i (fun p=>(p.1,o)))}
noncomputable def Wd.add(W:Wd)(r:Nat)(a:Addr)(o:Obj):Wd:={W with rg:=W.rg.modify r (· ++[(a,o)])}
noncomputable def Wd.bq(W:Wd)(a:Addr)(o:Obj):Wd:={W with tp:=(a,o)::W.tp}
theorem Wd.kI(W:Wd)(r i:Nat)(o:Obj)(r' i':Nat):(W.i6 r i o).pt r' i'=if r=r'∧i=i' then(W.pt r' i').map (fun p=>(p.1,o))else W.pt r' i':=by
 unfold Wd.pt Wd.i6;simp only[Og];by_cases h:r=r'
 ·subst h;cases e:W.rg[r]? with
  |none=>simp
  |some l=>
   by_cases q:i=i'<;>simp[q]
 ·simp[h]
theorem Wd.dO(W:Wd)(r i:Nat)(o:Obj)(r' i':Nat):(W.i6 r i o).ad r' i'=W.ad r' i':=by
 unfold Wd.ad;rw[Wd.kI];split
 ·rename_i h;obtain⟨rfl,rfl⟩:=h;cases W.pt r i<;>rfl
 ·rfl
theorem Wd.u_(W:Wd)(r:Nat)(a:Addr)(o:Obj)(r' i':Nat)(p:Addr×Obj)(h:W.pt r' i'=some p):(W.add r a o).pt r' i'=some p:=by
 unfold Wd.pt Wd.add at*;simp only[Og];by_cases q:r=r'
 ·subst q;cases e:W.rg[r]? with
  |none=>rw[e]at h;simp at h
  |some l=>
   rw[e]at h;simp only[Option.bind_some]at h;have:=(N4.mp h).1;simp[NM this,h]
 ·simp only[q,if_false];simpa using h
theorem Wd.Cf(W:Wd)(r:Nat)(a:Addr)(o:Obj)(l:NL)(h:W.rg[r]?=some l):(W.add r a o).pt r l.length=some (a,o):=by
 unfold Wd.pt Wd.add;simp only[Og,h];simp
theorem iX(W:Wd)(r i:Nat)(o:Obj):jc W (W.i6 r i o):=⟨fun _ _ _ h=>(Wd.dO ..).trans h,fun _ h=>h⟩
theorem Ia(W:Wd){r i:Nat}(o:Obj)(hz:nz r i=true)(p:Addr×Obj)(h:W.pt 0 0=some p):(W.i6 r i o).pt 0 0=some p:=by
 rw[Wd.kI,if_neg]
 ·exact h
 ·rintro⟨rfl,rfl⟩;exact nomatch hz
theorem kE(W:Wd){r i:Nat}(o:Obj)(hz:nz r i=true):Le W (W.i6 r i o):=⟨fun _ _ _ h=>(Wd.dO ..).trans h,fun _ h=>h,Ia W o hz,rfl,rfl⟩
theorem jC(W:Wd)(r:Nat)(a:Addr)(o:Obj):Le W (W.add r a o):=⟨fun r' i' b h=>by
 unfold Wd.ad at*;cases e:W.pt r' i' with
 |none=>rw[e]at h;simp at h
 |some p=>refine aa (Wd.u_ W r a o r' i' p e) ?_;rw[e]at h;exact h,fun _ h=>h,fun p h=>Wd.u_ W r a o 0 0 p h,rfl,rfl⟩
theorem hM(W:Wd)(a:Addr)(o:Obj):Le W (W.bq a o):=⟨fun _ _ _ h=>h,fun _ h=>.tail _ h,fun _ h=>h,rfl,rfl⟩
theorem Wd.bP{W:Wd}{r i:Nat}{p:Addr×Obj}(h:W.pt r i=some p):p∈W.all:=by
 unfold Wd.pt at h;cases e:W.rg[r]? with
 |none=>rw[e]at h;simp at h
 |some l=>
  rw[e]at h;exact Nr _ (List.mem_flatten.mpr ⟨l,Oo e,Oo h⟩)
theorem Ez(H:AH)(r i:Nat)(o:AO)(r' i':Nat):get (put H r i o) r' i'=if r=r'∧i=i' then(get H r' i').map (fun _=>o)else get H r' i':=by
 unfold get put;simp only[Og];by_cases h:r=r'
 ·subst h;cases e:H[r]? with
  |none=>simp
  |some l=>
   simp only[if_true,Option.map_some,Option.bind_some,List.getElem?_set,true_and];by_cases q:i=i'
   ·subst q;by_cases z:i<l.length
    ·simp[z]
    ·have:=NO (Nat.le_of_not_lt z);simp[z]
   ·simp[q]
 ·simp[h]
theorem HR.put{g:Gm}{W:Wd}{H:AH}{r i:Nat}{ao:AO}{o:Obj}(h:HR g W H)(ho:OR g W ao o):HR g (W.i6 r i o) (Hx.put H r i ao):=by
 refine⟨fun r'=>?_,fun r' i' x e=>?_⟩
 ·have:=h.len r';unfold Hx.put Wd.i6;dsimp only[Og];by_cases q:r=r'
  ·subst q;cases e1:H[r]?<;>cases e2:W.rg[r]?<;>simp_all
  ·simp[q];exact this
 ·rw[Ez]at e;rw[Wd.kI];split at e
  ·rename_i q;revert q;refine rA fun e'0 e'1=>?_;subst e'0;subst e'1;cases e1:get H r i with
   |none=>rw[e1]at e;simp at e
   |some y=>
    rw[e1]at e;simp at e;subst e;refine eB (h.ob r i y e1) fun a o' h1 _=>?_;refine aa (if_pos ⟨rfl,rfl⟩) (aa h1 ?_);exact⟨a,o,rfl,ho.mono (iX ..)⟩
  ·rename_i q;refine aa (if_neg q) ?_;refine eB (h.ob r' i' x e) fun a o' h1 h2=>?_;exact⟨a,o',h1,h2.mono (iX ..)⟩
theorem HR.add{g:Gm}{W:Wd}{H H':AH}{r:Nat}{ao:AO}{o:Obj}{v:AV}(h:HR g W H)(e:cP H r ao=some (v,H'))(a:Addr)(ho:OR g W ao o):
 HR g (W.add r a o) H'∧VR g (W.add r a o) v (.ref a):=by
 unfold cP at e;cases e1:H[r]? with
 |none=>rw[e1]at e;exact cZ e
 |some l=>
  rw[e1]at e;have hl:=h.len r;rw[e1]at hl;cases e2:W.rg[r]? with
  |none=>rw[e2]at hl;cases hl
  |some l'=>
   rw[e2]at hl;simp at hl;simp only[Option.some.injEq,Prod.mk.injEq]at e;revert e;refine rA fun e'0 e'1=>?_;subst e'0;subst e'1;refine⟨⟨fun r'=>?_,fun r' i' x e'=>?_⟩,.loc (by unfold Wd.ad;refine aa hl (aa (Wd.Cf W r a o l' e2) ?_);rfl)⟩
   ·have:=h.len r';unfold Wd.add;dsimp only[Og];by_cases q:r=r'
    ·refine bR q ?_;simp[e1,e2,hl]
    ·simp[q];exact this
   ·by_cases q:r=r'∧i'=l.length
    ·revert q;refine rA fun e'0 e'1=>?_;subst e'0;subst e'1;unfold get at e';simp[e1]at e';subst e';refine aa hl (aa (Wd.Cf W r a o l' e2) ?_);exact⟨a,o,rfl,ho.mono (jC ..).eR⟩
    ·have:get H r' i'=some x:=by
      unfold get at e'⊢;simp only[Og]at e';by_cases z:r=r'
      ·subst z;simp only[e1,if_true,Option.map_some,Option.bind_some]at e'⊢
       have hi:i'<l.length:=by
        have:=(N4.mp e').1;simp at this;simp at q;exact eV this q
       have e2':(l++[ao])[i']?=some x:=e'
       rwa [NM hi]at e2'
      ·simpa[z]using e'
     refine eB (h.ob r' i' x this) fun b o' h1 h2=>?_;exact⟨b,o',Wd.u_ _ _ _ _ _ _ _ h1,h2.mono (jC ..).eR⟩
theorem HR.mono{g:Gm}{W W':Wd}{H:AH}(h:HR g W H)(e:W'.rg=W.rg)(l:jc W W'):HR g W' H:=
 ⟨fun r=>by refine aa e ?_;exact h.len r,fun r i x q=>by
  refine eB (h.ob r i x q) fun a o h1 h2=>?_;exact⟨a,o,by unfold Wd.pt at h1⊢;refine aa e ?_;exact h1,h2.mono l⟩⟩
end Hx
namespace Hx
open PySem PySem.W PyProof.Rows PySem.Calls
def aY:Value→Shared→Prop:=fun _ _=>False
theorem Nl{P:Value→Shared→Prop}:∀e s,aY e s→P e s:=fun _ _ h=>h.elim
structure Cx where
 K:Frag
 P:PT
 g:Gm
 p:Program
 loose:List Str
 mg:Str→Option Value
 mb:Str→Option Value
 os:OsState
noncomputable abbrev Cx.prog (c:Cx):Program:=c.g.prog
noncomputable abbrev Cx.w (c:Cx):World:=c.g.w
structure Fm where
 h₀:Heap
 env:Env
noncomputable def K9:NameKind→NameKind
 |.free=>.cell
 |k=>k
structure bW (c:Cx) (f:Fm) (sc:Scope):Prop where
 KX:c.K.In f.h₀
 top:TopRead c.p c.loose c.mg c.mb f.h₀
 glob:f.env.globals=mainGlobals
 blt:f.env.builtins=builtinsNs
 kd:f.env.scope.kind=.function
 names:∀x,f.env.kindOf x=(sc.names.lookup x).map K9
 E4:∀x k,sc.names.lookup x=some k→(x==("__debug__":Str))=false
 IQ:∀x y a,f.env.cells.lookup x=some a→f.env.cells.lookup y=some a→x=y
structure Ap (W:Wd):Prop where
 inj:∀r i r' i' a,W.ad r i=some a→W.ad r' i'=some a→r=r'∧i=i'
 sep:∀r i a,W.ad r i=some a→∀q∈W.tp++(W.ex++W.cl),q.1≠a
 nd:((W.tp++(W.ex++W.cl)).map (·.1)).Nodup
def LV(c:Cx)(f:Fm)(m:Str→Option Value)(lo:Lo)(W:Wd):Prop:=
 (∀x v,lk x lo=some v→
  (f.env.kindOf x=some .local→∃y,m x=some y∧VR c.g W v y)∧
  (f.env.kindOf x=some .cell→∃a o y,f.env.cells.lookup x=some a∧(a,o)∈W.cl∧o.data=.cell (some y)∧VR c.g W v y))∧
 ∀x,f.env.kindOf x=some .cell→∃a o y,f.env.cells.lookup x=some a∧(a,o)∈W.cl∧o.data=.cell y
structure CR (c:Cx) (f:Fm) (s:Shared) (m:Str→Option Value) (lo:Lo) (H:AH) (W:Wd):Prop where
 F:Fr f.h₀ f.env.locals s.heap m
 N:News f.h₀ f.env.locals s.heap W.all
 ap:Ap W
 big:∀r i a,W.ad r i=some a→0<r+i→1<a
 hr:HR c.g W H
 lv:LV c f m lo W
 gens:s.gens=#[]
 os:s.os=c.os
theorem LV.eR{c:Cx}{f:Fm}{m:Str→Option Value}{lo:Lo}{W W':Wd}(h:LV c f m lo W)(l:jc W W')(e:W'.cl=W.cl):LV c f m lo W':=by
 refine⟨fun x v q=>?_,fun x k=>by refine aa e ?_;exact h.2 x k⟩;refine xA (h.1 x v q) fun a b=>?_;refine⟨fun k=>?_,fun k=>?_⟩
 ·obtain⟨y,h1,h2⟩:=a k;exact⟨y,h1,h2.mono l⟩
 ·obtain⟨a,o,y,h1,h2,h3,h4⟩:=b k;exact⟨a,o,y,h1,by refine aa e ?_;exact h2,h3,h4.mono l⟩
theorem LV.mono{c:Cx}{f:Fm}{m:Str→Option Value}{lo:Lo}{W W':Wd}(h:LV c f m lo W)(l:Le W W'):LV c f m lo W':=h.eR l.eR l.cl
section
variable{c:Cx}{f:Fm}{s:Shared}{m:Str→Option Value}{lo:Lo}{H:AH}{W:Wd}
theorem CR.keep(C:CR c f s m lo H W){h':Heap}{k:Tok}(hk:∀b o,s.heap.get? b=some o→h'.get? b=some o):CR c f {s with heap:=h',toks:=k} m lo H W:=
 ⟨C.F.keeps hk,C.N.grown hk,C.ap,C.big,C.hr,C.lv,C.gens,C.os⟩
theorem CR.tok(C:CR c f s m lo H W){k:Tok}:CR c f {s with toks:=k} m lo H W:=⟨C.F,C.N,C.ap,C.big,C.hr,C.lv,C.gens,C.os⟩
theorem CR.at(C:CR c f s m lo H W){r i:Nat}{ao:AO}(e:get H r i=some ao):∃a o,W.pt r i=some (a,o)∧W.ad r i=some a∧OR c.g W ao o∧s.heap.get? a=some o∧a≠f.env.locals∧f.h₀.get? a=none:=by
 refine eB (C.hr.ob r i ao e) fun a o h1 h2=>?_;have n:=C.N _ (Wd.bP h1);exact⟨a,o,h1,by unfold Wd.ad;exact aa h1 rfl,h2,n.1,n.2.1,n.2.2⟩
theorem CR.addr(C:CR c f s m lo H W){r i:Nat}{a:Addr}(e:W.ad r i=some a):∃o,W.pt r i=some (a,o)∧s.heap.get? a=some o:=by
 unfold Wd.ad at e;cases q:W.pt r i with
 |none=>rw[q]at e;exact cZ e
 |some p=>
  rw[q]at e;obtain⟨b,o⟩:=p;have:b=a:=NF e;clear e;subst this;exact⟨o,rfl,(C.N _ (Wd.bP q)).1⟩
theorem Wd.dR{W:Wd}{p:Addr×Obj}(h:p∈W.all):(∃r i,W.pt r i=some p)∨p∈W.tp++(W.ex++W.cl):=by
 rcases Nw.mp h with h|h
 ·left
  refine ar (List.mem_flatten.mp h) fun l h1 h2=>?_;obtain⟨r,hr,rfl⟩:=Ou h1;obtain⟨i,hi,rfl⟩:=Ou h2;exact⟨r,i,by unfold Wd.pt;simp[hr,hi]⟩
 ·exact .inr h
theorem CR.aN(C:CR c f s m lo H W){r i:Nat}{a:Addr}{o':Obj}{ao':AO}{h':Heap}{k:Tok}(ha:W.ad r i=some a)(hs:Heap.SameBut a s.heap h')(ho:h'.get? a=some o')
 (hO:OR c.g W ao' o'):CR c f {s with heap:=h',toks:=k} m lo (put H r i ao') (W.i6 r i o'):=by
 refine ar (C.addr ha) fun o hp hg=>?_;have n:=C.N _ (Wd.bP hp);have l:=iX W r i o';refine⟨C.F.change hs n.2.1 n.2.2,fun p hp'=>?_,?_,fun r i a e=>C.big r i a (by rwa [Wd.dO]at e),C.hr.put hO,C.lv.eR l rfl,C.gens,C.os⟩
 ·rcases Wd.dR hp' with⟨r',i',q⟩|q
  ·rw[Wd.kI]at q;split at q
   ·rename_i z;revert z;refine rA fun e'0 e'1=>?_;subst e'0;subst e'1;rw[hp]at q;clear hp';revert q;refine aJ fun q=>?_;subst q;exact⟨ho,n.2⟩
   ·rename_i z;have hne:p.1≠a:=fun e=>z (C.ap.inj r i r' i' a ha (by unfold Wd.ad;refine aa q (bR e ?_);rfl));exact⟨(hs.2 _ hne).trans (C.N _ (Wd.bP q)).1,(C.N _ (Wd.bP q)).2⟩
  ·have hne:=C.ap.sep r i a ha p q;exact⟨(hs.2 _ hne).trans (C.N p (Nm _ q)).1,(C.N p (Nm _ q)).2⟩
 ·exact⟨fun r₁ i₁ r₂ i₂ b h1 h2=>C.ap.inj _ _ _ _ b (by rwa [Wd.dO]at h1) (by rwa [Wd.dO]at h2),fun r₁ i₁ b h1 q hq=>C.ap.sep _ _ b (by rwa [Wd.dO]at h1) q hq,C.ap.nd⟩
theorem CR.fresh(C:CR c f s m lo H W){a:Addr}(ha:s.heap.get? a=none):a≠f.env.locals∧f.h₀.get? a=none∧∀p∈W.all,p.1≠a:=by
 refine⟨fun e=>?_,?_,fun p hp e=>?_⟩
 ·obtain⟨o,_,_,h,_⟩:=C.F.ns;rw[←e,ha]at h;exact cZ h
 ·cases q:f.h₀.get? a with
  |none=>rfl
  |some o=>have:=C.F.keep _ _ q;rw[ha]at this;exact cZ this
 ·have:=(C.N p hp).1;rw[e,ha]at this;exact cZ this
theorem CR.Jw(C:CR c f s m lo H W){r:Nat}{ao:AO}{v:AV}{H':AH}(e:cP H r ao=some (v,H')){a:Addr}{o:Obj}{h':Heap}{k:Tok}(f3:∀p∈W.all,p.1≠a) (hb:1<a)
 (F':Fr f.h₀ f.env.locals h' m) (N':News f.h₀ f.env.locals h' ((a,o)::W.all)) (hO:OR c.g W ao o):
 CR c f {s with heap:=h',toks:=k} m lo H' (W.add r a o)∧Le W (W.add r a o)∧VR c.g (W.add r a o) v (.ref a):=by
 have l:=jC W r a o;refine xA (C.hr.add e a hO) fun q1 q2=>?_
 have key:∀r' i' p,(W.add r a o).pt r' i'=some p→W.pt r' i'=some p∨(p=(a,o)∧r'=r∧∀x,W.pt r' i'≠some x):=by
  intro r' i' p hp;unfold Wd.pt Wd.add at hp;simp only[Og]at hp;by_cases z:r=r'
  ·subst z;cases e1:W.rg[r]? with
   |none=>rw[e1]at hp;simp at hp
   |some l=>
    rw[e1]at hp;have hp2:(l++[(a,o)])[i']?=some p:=by simpa using hp
    rw[List.getElem?_append]at hp2;split at hp2
    ·left;unfold Wd.pt;refine aa e1 ?_;exact hp2
    ·right
     rename_i z2
     have:i'-l.length=0:=by
      cases y:i'-l.length with
      |zero=>rfl
      |succ n=>rw[y]at hp2;simp at hp2
     rw[this]at hp2;simp at hp2;refine⟨hp2.symm,rfl,fun x hx=>?_⟩;unfold Wd.pt at hx;rw[e1]at hx;simp only[Option.bind_some]at hx;exact z2 (N4.mp hx).1
  ·left;unfold Wd.pt;simpa[z]using hp
 refine⟨⟨F',fun p hp=>?_,⟨?_,?_,C.ap.nd⟩,?_,q1,C.lv.mono l,C.gens,C.os⟩,l,q2⟩
 ·rcases Wd.dR hp with⟨r',i',q⟩|q
  ·rcases key _ _ _ q with q|⟨rfl,_⟩
   ·exact N' p (.tail _ (Wd.bP q))
   ·exact N' _ (.head _)
  ·exact N' p (.tail _ (Nm _ q))
 ·intro r₁ i₁ r₂ i₂ b h1 h2;unfold Wd.ad at h1 h2;clear e l q1 q2;cases e1:(W.add r a o).pt r₁ i₁ with
  |none=>rw[e1]at h1;exact cZ h1
  |some p1=>
   cases e2:(W.add r a o).pt r₂ i₂ with
   |none=>rw[e2]at h2;cases h2
   |some p2=>
    rw[e1]at h1;rw[e2]at h2;have h1:=NF h1;have h2:=NF h2;rcases key _ _ _ e1 with z1|⟨z1,y1,x1⟩<;>rcases key _ _ _ e2 with z2|⟨z2,y2,x2⟩
    ·exact C.ap.inj _ _ _ _ b (by unfold Wd.ad;refine aa z1 ?_;exact congrArg _ h1) (by unfold Wd.ad;refine aa z2 ?_;exact congrArg _ h2)
    ·exact absurd (h1.trans (by exact bR h2 (aa z2 rfl))) (f3 _ (Wd.bP z1))
    ·exact absurd (h2.trans (by exact bR h1 (aa z1 rfl))) (f3 _ (Wd.bP z2))
    ·subst y1 y2;refine⟨rfl,?_⟩;unfold Wd.pt Wd.add at e1 e2;simp only[Og,if_true]at e1 e2;cases e3:W.rg[r₂]? with
     |none=>rw[e3]at e1;simp at e1
     |some l'=>
      rw[e3]at e1 e2;have e1':(l'++[(a,o)])[i₁]?=some p1:=by simpa using e1
      have e2':(l'++[(a,o)])[i₂]?=some p2:=by simpa using e2
      have g1:l'.length≤i₁:=Nat.le_of_not_lt fun q=>x1 (l'[i₁]) (by unfold Wd.pt;simp[e3,q]);have g2:l'.length≤i₂:=Nat.le_of_not_lt fun q=>x2 (l'[i₂]) (by unfold Wd.pt;simp[e3,q]);have k1:=(N4.mp e1').1;have k2:=(N4.mp e2').1;simp at k1 k2;exact(Pb (LA [_,_,_] V0 V1 (.a (Sx V0) V2) (.a (Sx V2) V1) rfl (Nq k1 g2)) (LA [_,_,_] V1 V0 (.a (Sx V1) V2) (.a (Sx V2) V0) rfl (Nq k2 g1)))
 ·intro r₁ i₁ b h1 q hq;unfold Wd.ad at h1;cases e1:(W.add r a o).pt r₁ i₁ with
  |none=>rw[e1]at h1;cases h1
  |some p1=>
   rw[e1]at h1;have h1:=NF h1;rcases key _ _ _ e1 with z1|⟨z1,_⟩
   ·exact C.ap.sep _ _ b (by unfold Wd.ad;refine aa z1 ?_;exact congrArg _ h1) q hq
   ·refine bR h1 (aa z1 ?_);exact f3 q (Nm _ hq)
 ·intro r₁ i₁ b h1;unfold Wd.ad at h1;cases e1:(W.add r a o).pt r₁ i₁ with
  |none=>rw[e1]at h1;cases h1
  |some p1=>
   rw[e1]at h1;have h1:=NF h1;rcases key _ _ _ e1 with z1|⟨z1,_⟩
   ·exact C.big r₁ i₁ b (by unfold Wd.ad;refine aa z1 ?_;exact congrArg _ h1)
   ·refine bR h1 (aa z1 ?_);exact fun _=>hb
theorem CR.Jx(C:CR c f s m lo H W){r:Nat}{ao:AO}{v:AV}{H':AH}(e:cP H r ao=some (v,H')){a:Addr}{o:Obj}{h':Heap}{k:Tok}(ha:s.heap.get? a=none)(hb:1<a)
 (F':Fr f.h₀ f.env.locals h' m)(N':News f.h₀ f.env.locals h' ((a,o)::W.all))(hO:OR c.g W ao o):
 CR c f {s with heap:=h',toks:=k} m lo H' (W.add r a o)∧Le W (W.add r a o)∧VR c.g (W.add r a o) v (.ref a):=C.Jw e (C.fresh ha).2.2 hb F' N' hO
theorem CR.new(C:CR c f s m lo H W){r:Nat}{ao:AO}{v:AV}{H':AH}(e:cP H r ao=some (v,H')){a:Addr}{o:Obj}{h':Heap}{k:Tok}(ha:s.heap.get? a=none)(hb:1<a)
 (hk:∀b o,s.heap.get? b=some o→h'.get? b=some o) (ho:h'.get? a=some o) (hO:OR c.g W ao o):
 CR c f {s with heap:=h',toks:=k} m lo H' (W.add r a o)∧Le W (W.add r a o)∧VR c.g (W.add r a o) v (.ref a):=by
 refine gS (C.fresh ha) fun f1 f2 f3=>?_;refine C.Jx e ha hb (C.F.keeps hk) (fun p hp=>?_) hO;rcases Nv.mp hp with rfl|hp
 ·exact⟨ho,f1,f2⟩
 ·have n:=C.N p hp;exact⟨hk _ _ n.1,n.2⟩
theorem CR.rM(C:CR c f s m lo H W){a:Addr}{o:Obj}{h':Heap}{k:Tok}(ha:s.heap.get? a=none)
 (hk:∀b o,s.heap.get? b=some o→h'.get? b=some o) (ho:h'.get? a=some o):CR c f {s with heap:=h',toks:=k} m lo H (W.bq a o):=by
 refine gS (C.fresh ha) fun f1 f2 f3=>?_;refine⟨C.F.keeps hk,fun p hp=>?_,⟨C.ap.inj,fun r i b h q hq=>?_,?_⟩,C.big,C.hr.mono rfl (hM W a o).eR,C.lv.mono (hM W a o),C.gens,C.os⟩
 ·rcases Wd.dR hp with⟨r',i',q⟩|q
  ·have n:=C.N p (Wd.bP (W:=W) q);exact⟨hk _ _ n.1,n.2⟩
  ·rcases Nv.mp q with rfl|q
   ·exact⟨ho,f1,f2⟩
   ·have n:=C.N p (Nm _ q);exact⟨hk _ _ n.1,n.2⟩
 ·rcases Nv.mp hq with rfl|hq
  ·refine ar (C.addr h) fun o' q _=>?_;exact fun e=>f3 _ (Wd.bP q) e.symm
  ·exact C.ap.sep r i b h q hq
 ·refine(?_:(((a,o)::W.tp++(W.ex++W.cl)).map (·.1)).Nodup);refine NZ.mpr ⟨fun e=>?_,C.ap.nd⟩;refine ar (NU.mp e) fun p hp e=>?_;exact f3 p (Nm _ hp) e
theorem BO(x y:Str)(v:AV)(l:Lo):lk y (pt x v l)=if y=x then some v else lk y l:=by
 induction l with
 |nil=>
  by_cases h:y=x
  ·subst h;exact mr.trans (if_pos rfl).symm
  ·exact(lH (beq_eq_false_iff_ne.mpr h)).trans (if_neg h).symm
 |cons p l ih=>
  by_cases h:x=p.1
  ·subst h;refine aa Kr ?_;by_cases q:y=p.1
   ·refine aa (if_pos q) ?_;exact aa q mr
   ·have:=beq_eq_false_iff_ne.mpr q;exact(lH this).trans ((lH this).symm.trans (if_neg q).symm)
  ·refine aa (JE (beq_eq_false_iff_ne.mpr h)) ?_;by_cases q:y=p.1
   ·refine aa q (mr.trans (mr.symm.trans (if_neg fun e=>h e.symm).symm))
   ·have:=beq_eq_false_iff_ne.mpr q;exact(lH this).trans (ih.trans (bR (lH (v:=p.2) this) rfl))
theorem CR.store(C:CR c f s m lo H W){x:Str}{v:AV}{w:Value}{h':Heap}{k:Tok}(hv:VR c.g W v w)(hl:f.env.kindOf x=some .local)
 (hn:h'.Ns f.env.locals (fun y=>if y=x then some w else m y)) (hs:Heap.SameBut f.env.locals s.heap h'):
 CR c f {s with heap:=h',toks:=k} (fun y=>if y=x then some w else m y) (pt x v lo) H W:=by
 refine⟨C.F.set hn hs,C.N.set hs,C.ap,C.big,C.hr,⟨fun y u e=>?_,C.lv.2⟩,C.gens,C.os⟩;rw[BO]at e;by_cases q:y=x
 ·clear hn;subst q;rw[if_pos rfl]at e;revert e;refine aJ fun e=>?_;subst e;refine⟨fun _=>⟨w,by simp,hv⟩,fun z=>?_⟩;rw[hl]at z;revert z;refine aJ fun z=>?_;cases z
 ·rw[if_neg q]at e;refine xA (C.lv.1 y u e) fun a b=>?_;refine⟨fun z=>?_,b⟩;refine ar (a z) fun t h1 h2=>?_;exact⟨t,by simp[q,h1],h2⟩
end
theorem CR.low{c:Cx}{f:Fm}{sc:Scope}{s:Shared}{m:Str→Option Value}{lo:Lo}{H:AH}{W:Wd}(O:bW c f sc)(C:CR c f s m lo H W):1<s.heap.objs.size:=by
 exact N_ (modules_low O.top.nolimit) (NA C.F.above C.F.ns.lt)
def EP(c:Cx)(f:Fm)(m:Str→Option Value)(lo:Lo)(W:Wd)(v:AV)(H':AH)(x:Value)(s':Shared):Prop:=
 ∃W',CR c f s' m lo H' W'∧Le W W'∧VR c.g W' v x
def BP(c:Cx)(f:Fm)(m:Str→Option Value)(lo:Lo)(W:Wd)(b:Bool)(H':AH)(x:Bool)(s':Shared):Prop:=
 x=b∧∃W',CR c f s' m lo H' W'∧Le W W'
theorem EP.mk{c:Cx}{f:Fm}{s:Shared}{m:Str→Option Value}{lo:Lo}{H:AH}{W:Wd}{v:AV}{x:Value}(C:CR c f s m lo H W)(h:VR c.g W v x):EP c f m lo W v H x s:=⟨W,C,Le.refl W,h⟩
theorem EP.le{c:Cx}{f:Fm}{s:Shared}{m:Str→Option Value}{lo:Lo}{H:AH}{W W':Wd}{v:AV}{x:Value}(h:EP c f m lo W' v H x s)(l:Le W W'):EP c f m lo W v H x s:=
 let⟨W'',C,l',r⟩:=h;⟨W'',C,l.trans l',r⟩
theorem BP.le{c:Cx}{f:Fm}{s:Shared}{m:Str→Option Value}{lo:Lo}{H:AH}{W W':Wd}{v x:Bool}(h:BP c f m lo W' v H x s)(l:Le W W'):BP c f m lo W v H x s:=
 let⟨e,W'',C,l'⟩:=h;⟨e,W'',C,l.trans l'⟩
structure cU (n d:Nat) (A:Around):Prop where
 hh:A.handled=none
 depth:A.depth+3*n+5<690
 units:A.units+150*n+3*d+120<cLine
theorem cU.room{n d:Nat}{A:Around}(h:cU n d A):A.depth<recursionLimit:=by have:=h.depth;have:recursionLimit=1000:=rfl;lia
theorem cU.less{n d n' d':Nat}{A:Around}(h:cU n d A)(e:n'≤n)(e':d'≤d):cU n' d' A:=⟨h.hh,by have:=h.depth;exact NA (Nat.add_le_add_right (O3 (Nat.mul_le_mul_left 3 e) _) _) this,by have:=h.units;exact NA (Nat.add_le_add_right (Nq (O3 (Nat.mul_le_mul_left 150 e) _) (Nat.mul_le_mul_left 3 e')) _) this⟩
section
variable{c:Cx}{f:Fm}{m:Str→Option Value}{lo lo2 lo':Lo}{W:Wd}{H2 H':AH}{M:Model}{A:Around}{s:Shared}
theorem Dj{p:Sem Value}{v v':AV}(k:wpAny M A p (EP c f m lo W v H2) aY s):some (v,H2)=some (v',H')→wpAny M A p (EP c f m lo W v' H') aY s:=fun h=>by revert h;refine nv fun h q1=>?_;subst h q1;exact k
theorem su{p:Sem Value}{v v':AV}(k:wpAny M A p (EP c f m lo W v H2) aY s):(v,H2)=(v',H')→wpAny M A p (EP c f m lo W v' H') aY s:=fun h=>by revert h;refine du fun h q1=>?_;subst h q1;exact k
theorem MT{p:Sem Bool}{v v':Bool}(k:wpAny M A p (BP c f m lo W v H2) aY s):some (v,H2)=some (v',H')→wpAny M A p (BP c f m lo W v' H') aY s:=fun h=>by revert h;refine nv fun h q1=>?_;subst h q1;exact k
theorem Mt{p:Sem Bool}{v v':Bool}(k:wpAny M A p (BP c f m lo W v H2) aY s):(v,H2)=(v',H')→wpAny M A p (BP c f m lo W v' H') aY s:=fun h=>by revert h;refine du fun h q1=>?_;subst h q1;exact k
end
end Hx
namespace Hx
open PySem PySem.W PyProof.Rows PySem.Calls
structure FD (c:Cx) (k:Nat) (ci:jf):Prop where
 bc:ci.attrs=c.g.attrs k
 pg:∀x,plainGet c.K (c.g.ga k) x=true
 hd:hasDictIn c.K (c.g.ga k)=true
 sa:findIn c.K (.ref (c.g.ga k)) "__setattr__"=some (some (.builtin "object.__setattr__"))
 po:plainOver c.K (c.g.ga k)=true
 at_:∀x,mem x ci.attrs=true→findIn c.K (.ref (c.g.ga k)) x=some none
 me:∀x k',BL x ci.meths=some k'→findIn c.K (.ref (c.g.ga k)) x=some (some (.ref (c.g.ga k')))∧isFn c.K (.ref (c.g.ga k'))=true∧mem x ci.attrs=false
 EU:makesIn c.K (c.g.ga k)=true
structure eO (c:Cx):Prop where
 gl:∀x v,lk x c.P.gl=some v→
  (∃k,v=.gl k∧nsIn c.K mainGlobals x=some (some (.ref (c.g.ga k))))∨
  (∃w,nsIn c.K mainGlobals x=some none∧bootBuiltins x=some w∧x≠"__name__"∧∀W,VR c.g W v w)
 kp:∀k gi,c.P.at_ k=some gi→keepIn c.K (.ref (c.g.ga k))=true
 cls:∀k ci,c.P.cls k=some ci→FD c k ci
 em:∀a∈c.g.em,∃d n sl,c.K.lookup a=some ⟨.type "tuple",d,.seq #[] n,sl⟩
section
variable{c:Cx}{f:Fm}{sc:Scope}{s:Shared}{m:Str→Option Value}{lo:Lo}{H:AH}{W:Wd}{A:Around}
theorem A2{co:Const}{k:Nat}{p:Pos}{v:AV}(h:cst co=some v)(C:CR c f s m lo H W):wpAny (model c.prog c.w) A (eval (.Constant co k p) f.env) (EP c f m lo W v H) aY s:=by
 cases co<;>(first|exact ns h|(revert h;refine aJ fun h=>?_;subst h)|skip)
 ·exact fun _ _ _=>EP.mk C .none
 ·exact fun _ _ _=>EP.mk C (.bool _)
 ·exact fun _ _ _=>EP.mk (s:={s with toks:=s.toks+1}) C.tok (.int _ _)
 ·exact Calls.Constant_str (EP.mk (s:={s with toks:=s.toks+1}) C.tok (.str _ _))
theorem EX(KO:eO c)(O:bW c f sc){x:Str}{p:Pos}{v:AV}(h:lK c.P sc lo x=some v)(C:CR c f s m lo H W):
 wpAny (model c.prog c.w) A (eval (.Name x p) f.env) (EP c f m lo W v H) aY s:=by
 unfold lK at h;have hn:=O.names x;cases e:sc.names.lookup x with
 |none=>rw[e]at h;exact cZ h
 |some k=>
  have hd:=O.E4 x k e;rw[e]at h hn;cases k with
  |«local»=>
   refine ar ((C.lv.1 x v h).1 hn) fun y h1 h2=>?_;exact wpAny_Name (wpAny_loadName_local O.kd hn C.F.ns h1 (EP.mk C h2)) hd
  |cell=>
   refine dh ((C.lv.1 x v h).2 hn) fun a o y h1 h2 hr'=>?_;revert hr';refine rA fun h3 h4=>?_;have hm:(a,o)∈W.all:=Nm _ (Nm _ (Nm _ h2));exact wpAny_Name (wpAny_loadName_cell O.kd hn h1 ⟨o,C.N.get hm,h3⟩ (EP.mk C h4)) hd
  |free=>
   refine dh ((C.lv.1 x v h).2 hn) fun a o y h1 h2 hr'=>?_;revert hr';refine rA fun h3 h4=>?_;have hm:(a,o)∈W.all:=Nm _ (Nm _ (Nm _ h2));exact wpAny_Name (wpAny_loadName_cell O.kd hn h1 ⟨o,C.N.get hm,h3⟩ (EP.mk C h4)) hd
  |globalExplicit=>first|exact ns h|cases h
  |globalImplicit=>
   have T:=O.top;rcases KO.gl x v h with⟨k,rfl,hk⟩|⟨w,h1,h2,h3,h4⟩
   ·exact Name_function_global O.kd hn (loadGlobal_global (env:=f.env) (by refine aa O.glob ?_;exact T.g.keeps C.F.keep) (mg_of O.KX T.g hk) (EP.mk C (.gl k))) hd
   ·exact Name_function_global O.kd hn (loadGlobal_builtin (env:=f.env) (by refine aa O.glob ?_;exact T.g.keeps C.F.keep) (mg_none_of O.KX T.g h1) (by refine aa O.blt ?_;exact T.b.keeps C.F.keep) ((T.builtins x h3).trans h2) (EP.mk C (h4 W))) hd
theorem VR.handed{g:Gm}{v:AV}{w:Value}(h:VR g W v w):handedIn w=true:=by
 cases h<;>first|rfl|assumption
theorem fC{x k:Str}{t:Tok}{w:Value}{h:Int}{es:List DictEntry}(q:(k==x)=false):(⟨h,.str k t,w⟩::es).find? (fun e=>e.key.isStr x)=es.find? (fun e=>e.key.isStr x):=List.find?_cons_of_neg (neT q)
theorem mi.find{g:Gm}{x:Str}:∀{kvs:List (Str×AV)}{es:List DictEntry},mi g W kvs es→
 (∀v,lk x kvs=some v→∃w:Tok×Value,es.find? (fun e=>e.key.isStr x)=some ⟨PyData.keyHash g.w.params x,.str x w.1,w.2⟩∧VR g W v w.2)∧(lk x kvs=none→es.find? (fun e=>e.key.isStr x)=none):=fun H=>by
 induction H with
 |nil=>exact⟨fun v h=>cZ h,fun _=>rfl⟩
 |@cons k t v w l es h r ih=>
  by_cases q:k=x
  ·refine aa q ?_;refine⟨fun u e=>?_,fun e=>nomatch mr.symm.trans e⟩;cases NF (mr.symm.trans e);exact⟨(t,w),List.find?_cons_of_pos (beq_self_eq_true x),h⟩
  ·have q1:(x==k)=false:=beq_eq_false_iff_ne.mpr fun e=>q e.symm;have q2:(k==x)=false:=beq_eq_false_iff_ne.mpr q;refine⟨fun u e=>?_,fun e=>?_⟩
   ·rw[lH q1]at e;refine ar (ih.1 u e) fun y h1 h2=>?_;exact⟨y,by refine aa (fC q2) ?_;exact h1,h2⟩
   ·rw[lH q1]at e;refine aa (fC q2) ?_;exact ih.2 e
theorem mi.Jy{g:Gm}:∀{kvs:List (Str×AV)}{es:List DictEntry},mi g W kvs es→es.any (·.refKey)=false:=fun H=>by
 induction H with
 |nil=>rfl
 |cons _ _ ih=>refine aa List.any_cons (aa ih ?_);rfl
theorem mi.getL{g:Gm}{x:Str}{kvs:List (Str×AV)}{es:List DictEntry}(h:mi g W kvs es):
 (∀v,lk x kvs=some v→∃w,PySem.W.getL x es=some (some w)∧VR g W v w)∧(lk x kvs=none→PySem.W.getL x es=some none):=by
 refine⟨fun v e=>?_,fun e=>?_⟩
 ·refine ar ((h.find (x:=x)).1 v e) fun w h1 h2=>?_;exact⟨w.2,by unfold PySem.W.getL;exact aa h1 rfl,h2⟩
 ·have:=(h.find (x:=x)).2 e;unfold PySem.W.getL;refine aa this ?_;dsimp only;exact aa h.Jy rfl
theorem AO.sx{o:AO}{xs:List AV}(h:o.l?=some xs):o=.list xs:=by cases o<;>cases h<;>rfl
theorem AO.MY{o:AO}{xs:List (Str×AV)}(h:o.d?=some xs):o=.dict xs:=by cases o<;>cases h<;>rfl
set_option tactic.hygienic true in
theorem AO.M4{o:AO}{c:Nat}{xs:List (Str×AV)}(h:o.o? c=some xs):o=.dZ c xs:=by
 cases o<;>first|exact ns h|cases h|skip
 rename_i c' l;unfold AO.o? at h;dsimp only at h;split at h
 ·rename_i q;revert h;refine aJ fun h=>?_;subst h;exact aa (NR q) rfl
 ·exact cZ h
theorem AO.MI{o:AO}{t:Nat×Nat×Nat}(h:o.n?=some t):o=.inst t.1 t.2.1 t.2.2:=by cases o<;>cases h<;>rfl
theorem AV.F5{v:AV}{i:Int}(h:v.i?=some i):v=.int i:=by cases v<;>cases h<;>rfl
theorem AV.zw{v:AV}{i:Str}(h:v.s?=some i):v=.str i:=by cases v<;>cases h<;>rfl
theorem AV.zM{v:AV}{i:List AV}(h:v.t?=some i):v=.tup i:=by cases v<;>cases h<;>rfl
theorem AV.sx{v:AV}{i:Nat×Nat}(h:v.l?=some i):v=.loc i.1 i.2:=by cases v<;>cases h<;>rfl
theorem ob{α β:Type}{x:Option α}{g:α→Option β}{b:β}(h:x.bind g=some b):∃a,x=some a∧g a=some b:=Option.bind_eq_some_iff.mp h
theorem om{α β:Type}{x:Option α}{g:α→β}{b:β}(h:x.map g=some b):∃a,x=some a∧g a=b:=Option.map_eq_some_iff.mp h
theorem oi{α:Type}{c:Prop} [Decidable c]{x:Option α}{b:α}(h:(if c then x else none)=some b):c∧x=some b:=by
 by_cases q:c
 ·rw[if_pos q]at h;exact⟨q,h⟩
 ·rw[if_neg q]at h;exact cZ h
theorem oe{α:Type}{c:Prop} [Decidable c]{x:Option α}{b:α}(h:(if c then none else x)=some b):¬c∧x=some b:=by
 by_cases q:c
 ·rw[if_pos q]at h;exact cZ h
 ·rw[if_neg q]at h;exact⟨q,h⟩
theorem Bw{c' r i:Nat}{kvs:List (Str×AV)}(h:G6 H c' r i=some kvs):get H r i=some (.dZ c' kvs):=by
 revert h;refine aO fun o h1 h2=>?_;exact aa h1 (aa (AO.M4 h2) rfl)
theorem a_{r i:Nat}{xs:List AV}(h:ae H r i=some xs):get H r i=some (.list xs):=by
 revert h;refine aO fun o h1 h2=>?_;exact aa h1 (aa (AO.sx h2) rfl)
theorem CR.inst(C:CR c f s m lo H W){r i k dr di:Nat}{kvs:List (Str×AV)}(h1:get H r i=some (.inst k dr di))(h2:G6 H k dr di=some kvs):
 ∃a d es n,W.ad r i=some a∧W.ad dr di=some d∧W.pt dr di=some (d,dictOf es n)∧mi c.g W kvs es∧InstAt s.heap a (instObj (c.g.ga k) d) (c.g.ga k) (some (dictOf es n))∧
  (∀x v,lk x kvs=some v→mem x (c.g.attrs k)=true):=by
 obtain⟨a,o,p1,p2,⟨d,rfl,hd⟩,p4,_⟩:=C.at h1;obtain⟨d',o',q1,q2,⟨es,n,rfl,he,hat⟩,q4,_⟩:=C.at (Bw h2);have:d'=d:=by rw[q2]at hd;exact NF hd
 clear hd;subst this;exact⟨a,d',es,n,p2,q2,q1,he,⟨p4,rfl,rfl,q4⟩,hat⟩
theorem VR.addr{g:Gm}{r i:Nat}{w:Value}(h:VR g W (.loc r i) w):∃a,w=.ref a∧W.ad r i=some a:=by
 cases h with
 |loc h=>exact⟨_,rfl,h⟩
structure Gs (c:Cx) (f:Fm) (s:Shared) (H:AH) (W:Wd) (o:AV) (t:(Nat×Nat×Nat)×jf×List (Str×AV)):Prop where
 is:∃r i a d es n,o=.loc r i∧W.ad r i=some a∧W.ad t.1.2.1 t.1.2.2=some d∧W.pt t.1.2.1 t.1.2.2=some (d,dictOf es n)∧mi c.g W t.2.2 es∧InstAt s.heap a (instObj (c.g.ga t.1.1) d) (c.g.ga t.1.1) (some (dictOf es n))∧
  ∀x v,lk x t.2.2=some v→mem x (c.g.attrs t.1.1)=true
 cls:FD c t.1.1 t.2.1
theorem lF(KO:eO c){o:AV}{t:(Nat×Nat×Nat)×jf×List (Str×AV)}(h:lE c.P H o=some t)(C:CR c f s m lo H W):Gs c f s H W o t:=by
 revert h;refine aO fun l h1 h=>?_;revert h;refine aO fun ao h2 h=>?_;revert h;refine aO fun n3 h3 h=>?_;revert h;refine aO fun ci h4 h=>?_;revert h;refine fQ fun kvs h5 h=>?_;subst h;rw[AO.MI h3]at h2;refine vi (C.inst h2 h5) fun a d es n e1 hr'=>?_;revert hr';refine nj fun e2 e3 e4 I e6=>?_;exact⟨⟨l.1,l.2,a,d,es,n,AV.sx h1,e1,e2,e3,e4,I,e6⟩,KO.cls _ _ h4⟩
theorem Ey(KO:eO c)(O:bW c f sc){o v:AV}{x:Str}{w:Value}{ex:Bool}(h:Ex c.P H o x=some v)(C:CR c f s m lo H W)(hw:VR c.g W o w):
 wpAny (model c.prog c.w) A (getAttr w x ex) (EP c f m lo W v H) aY s:=by
 revert h;refine aO fun t h1 h2=>?_;obtain⟨⟨r,i,a,d,es,n,e0,e1,e2,_,e4,I,e6⟩,Y⟩:=lF KO h1 C;clear h1;subst e0;refine ar (hw.addr) fun a' e'1 e7=>?_;clear hw;subst e'1;have:a'=a:=by rw[e1]at e7;exact(NF e7).symm
 clear e1;rw[this];refine ar ((e4.getL (x:=x)).1 v h2) fun y g1 g2=>?_;exact get_own (attr:=none) C.F O.KX I (Y.pg x) Y.hd (Y.at_ x (by refine aa Y.bc ?_;exact e6 x v h2)) rfl g1 g2.handed (EP.mk (s:={s with toks:=s.toks+1}) C.tok g2)
theorem iW{k:Int}{n j:Nat}(h:idx k n=some j):seqIndex? k n=some j∧j<n∧(0≤k→j=k.toNat)∧(k<0→j=(k+n).toNat∧-(n:Int)≤k):=by
 unfold idx at h;split at h
 ·rename_i h0;split at h
  ·rename_i h1;revert h;refine aJ fun h=>?_;subst h;refine⟨?_,(Int.toNat_lt h0).mpr h1,fun _=>rfl,fun q=>absurd q (LR h0)⟩;unfold seqIndex?;simp only[show¬k<0 by exact LR h0,if_false];exact aa (if_pos (by simp only[ND,decide_eq_true_eq];exact LQ h0 h1)) rfl
  ·exact cZ h
 ·rename_i h0;split at h
  ·rename_i h1;revert h;refine aJ fun h=>?_;subst h;exact⟨seqIndex_neg (Ke h0) (by exact Int.add_nonneg_iff_neg_le.mp h1),by exact Mi h1 h0,fun q=>absurd q h0,fun _=>⟨rfl,by exact Int.add_nonneg_iff_neg_le.mp h1⟩⟩
  ·exact cZ h
theorem cS{k:Int}(h:small k=true):-1000000000<k∧k<1000000000:=by
 cases k with
 |ofNat n=>have h:n+1≤1000000000:=OV h;exact⟨by have:=OI n;show _<(n:Int);exact OP (by decide) (OI _),by show(n:Int)<_;exact Int.lt_toNat.mp h⟩
 |negSucc n=>have h:n+1≤999999999:=OV h;exact⟨by lia,by lia⟩
theorem CR.isList(C:CR c f s m lo H W){r i:Nat}{xs:List AV}{a:Addr}(h:get H r i=some (.list xs))(ha:W.ad r i=some a):
 ∃vs n,s.heap.get? a=some (listOf vs.toArray n)∧W.pt r i=some (a,listOf vs.toArray n)∧bh c.g W xs vs:=by
 obtain⟨a',o,p1,p2,⟨vs,n,rfl,hv⟩,p4,_⟩:=C.at h;have:a'=a:=by rw[p2]at ha;exact NF ha
 clear ha;subst this;exact⟨vs,n,p4,p1,hv⟩
theorem ba{h:Heap}{a:Addr}{vs:List Value}{n:Nat}(e:h.get? a=some (listOf vs.toArray n)):h.IsList a vs.toArray:=⟨_,e,rfl,n,rfl⟩
theorem CR.uO(C:CR c f s m lo H W){r i:Nat}{kvs:List (Str×AV)}{a:Addr}(h:get H r i=some (.dict kvs))(ha:W.ad r i=some a):
 ∃o ws,s.heap.get? a=some o∧W.pt r i=some (a,o)∧o.IsDictOf (strKind c.prog c.w) ws∧kj c.g W kvs ws∧s.heap.DictOf (strKind c.prog c.w) a ws:=by
 obtain⟨a',o,p1,p2,⟨ws,hd,hv⟩,p4,_⟩:=C.at h;have:a'=a:=by rw[p2]at ha;exact NF ha
 clear ha;subst this;exact⟨o,ws,p4,p1,hd,hv,Heap.dictOf_iff.mpr ⟨o,p4,hd⟩⟩
theorem kj.at_{g:Gm}:∀{kvs:List (Str×AV)}{ws:List (Str×Value)},kj g W kvs ws→∀x,(∀v,lk x kvs=some v→∃w,valueAt ws x=some w∧VR g W v w)∧(lk x kvs=none→valueAt ws x=none):=fun H x=>by
 induction H with
 |nil=>exact⟨fun v h=>cZ h,fun _=>rfl⟩
 |@cons k v w l es h r ih=>
  by_cases q:k=x
  ·refine aa q ?_;refine⟨fun u e=>?_,fun e=>nomatch mr.symm.trans e⟩;cases NF (mr.symm.trans e);exact⟨w,by simp[valueAt],h⟩
  ·have q1:(x==k)=false:=beq_eq_false_iff_ne.mpr fun e=>q e.symm;refine⟨fun u e=>?_,fun e=>?_⟩
   ·rw[lH q1]at e;refine ar (ih.1 u e) fun y h1 h2=>?_;refine⟨y,?_,h2⟩;unfold valueAt at h1⊢;refine aa (List.find?_cons) ?_;simp only[q,decide_false];exact h1
   ·rw[lH q1]at e;have h1:=ih.2 e;unfold valueAt at h1⊢;refine aa (List.find?_cons) ?_;simp only[q,decide_false];exact h1
set_option tactic.hygienic true in
theorem CR.isTup(KO:eO c)(O:bW c f sc)(C:CR c f s m lo H W){xs:List AV}{w:Value}(h:VR c.g W (.tup xs) w):∃a ws,w=.ref a∧IsTup s.heap a ws.toArray∧bh c.g W xs ws:=by
 cases h with
 |tup h r=>
  rename_i a n;have hm:(a,sb _ n)∈W.all:=Nm _ (Nr _ h);exact⟨a,_,rfl,⟨_,C.N.get hm,rfl,n,rfl⟩,r⟩
 |l9 h=>
  refine HX (KO.em _ h) fun d n sl e=>?_;exact⟨_,[],rfl,⟨_,(O.KX.keeps C.F.keep) _ _ e,rfl,n,rfl⟩,.nil⟩
theorem CM{o i:Value}{value slice:Expr}{T id:String}{Q:Value→Shared→Prop}(hT:s.TypeIs o T)(hl:typeLookup (.type T) "__getitem__"=pure (some (.builtin id)))
 (hs:∀a b c p,slice≠.Slice a b c p) (hg:wpAny (model c.prog c.w) A (getItem o i) Q aY s):wpAny (model c.prog c.w) A (subscriptTail value slice o i) Q aY s:=by
 refine tail_any (ops:=[o,i]) hT hl hg ?_;cases slice<;>first|rfl|exact absurd rfl (hs _ _ _ _)
def Iw(c:Cx)(A:Around)(s:Shared)(wo wi:Value)(Q:Value→Shared→Prop):Prop:=
 ∃T id,s.TypeIs wo T∧typeLookup (.type T) "__getitem__"=pure (some (.builtin id))∧wpAny (model c.prog c.w) A (getItem wo wi) Q aY s
theorem zc(C:CR c f s m lo H W){vs:List AV}{i v:AV}{a:Addr}{ws:List Value}{wi:Value}(h:ai vs i=some v)(ht:IsTup s.heap a ws.toArray)(hv:bh c.g W vs ws)(hi:VR c.g W i wi):
 wpAny (model c.prog c.w) A (getItem (.ref a) wi) (EP c f m lo W v H) aY s:=by
 revert h;refine aO fun k h1 h=>?_;revert h;refine dD fun hk h=>?_;revert h;refine aO fun j e1 e2=>?_;rw[AV.F5 h1]at hi;cases hi;refine ja (iW e1) fun q1 q2 _ _=>?_;refine ar (hv.get e2) fun y y1 y2=>?_;have sp:=cS hk;exact getItem_tuple ht (by lia) (by lia) (by refine aa NI (aa hv.length ?_);exact q1) (by simpa using y1) (EP.mk C y2)
theorem uQ(C:CR c f s m lo H W){vs:List AV}{i v:AV}{a:Addr}{ws:List Value}{wi:Value}(h:ai vs i=some v)(hl:s.heap.IsList a ws.toArray)(hv:bh c.g W vs ws)(hi:VR c.g W i wi):
 wpAny (model c.prog c.w) A (getItem (.ref a) wi) (EP c f m lo W v H) aY s:=by
 revert h;refine aO fun k h1 h=>?_;revert h;refine dD fun hk h=>?_;revert h;refine aO fun j e1 e2=>?_;rw[AV.F5 h1]at hi;cases hi;refine ja (iW e1) fun q1 q2 q3 q4=>?_;refine ar (hv.get e2) fun y y1 y2=>?_;have sp:=cS hk;by_cases k0:0≤k
 ·exact wpAny_getItem_list hl k0 (by lia) (by refine bR (q3 k0) ?_;simpa using y1) (EP.mk C y2)
 ·have:=q4 (by exact Ke k0);exact wpAny_getItem_list_neg hl (by exact Ke k0) (by refine aa NI (aa hv.length ?_);exact this.2) (by lia) (by refine aa NI (aa hv.length (bR this.1 ?_));simpa using y1) (EP.mk C y2)
theorem vZ(KO:eO c)(O:bW c f sc){o i v:AV}{wo wi:Value}(h:ve H o i=some v)(C:CR c f s m lo H W)(ho:VR c.g W o wo)(hi:VR c.g W i wi):
 Iw c A s wo wi (EP c f m lo W v H):=by
 cases o<;>(first|exact ns h|cases h|skip)
 ·refine bx (C.isTup KO O ho) fun a ws e'2 ht hv=>?_;refine aa e'2 ?_;exact⟨_,_,ht.typeIs,slot_tuple_getitem.lookup,zc C h ht hv hi⟩
 ·refine ar (ho.addr) fun a e'1 ha=>?_;refine aa e'1 ?_;revert h;refine aO fun ao e0 h=>?_;cases ao<;>(first|exact ns h|cases h|skip)
  ·refine bx (C.isList e0 ha) fun ws n e1 e2 hv=>?_;have hl:=ba e1;exact⟨_,_,hl.typeIs,slot_list_getitem.lookup,uQ C h hl hv hi⟩
  ·revert h;refine aO fun x h1 h=>?_;rw[AV.zw h1]at hi;cases hi;refine vh (C.uO e0 ha) fun o ws _ _ _ hr'=>?_;revert hr';refine rA fun hv hm=>?_;refine ar ((hv.at_ x).1 v h) fun y y1 y2=>?_;exact⟨_,_,hm.typeIs,slot_dict_getitem.lookup,wpAny_getItem_of (strKind_is c.prog c.w x _) hm.mapOf y1 (EP.mk (s:={s with toks:=s.toks+1}) C.tok y2)⟩
theorem HF(KO:eO c)(O:bW c f sc){o i v:AV}{wo wi:Value}{value slice:Expr}(h:ve H o i=some v)(hs:∀a b c p,slice≠.Slice a b c p) (C:CR c f s m lo H W) (ho:VR c.g W o wo) (hi:VR c.g W i wi):
 wpAny (model c.prog c.w) A (subscriptTail value slice wo wi) (EP c f m lo W v H) aY s:=by
 refine bx (vZ (A:=A) KO O h C ho hi) fun T id hT hl hg=>?_;exact CM hT hl hs hg
end
end Hx
namespace Hx
open PySem PySem.W PyProof.Rows PySem.Calls
section
variable{a:Addr}{o o':Obj}
theorem se:∀{pre l l':NL},(∀p∈pre,p.1≠a)→Upd a o o' l l'→Upd a o o' (pre++l) (pre++l')
 |[]=>fun _ u=>u
 |p::r=>fun h u=>.tail (h p (.head _)) (se (fun q hq=>h q (.tail _ hq)) u)
theorem nD{r:NL}(h:∀p∈r,p.1≠a):∀{l l':NL},Upd a o o' l l'→Upd a o o' (l++r) (l'++r):=by
 intro l l' u
 induction u with
 |head q=>exact .head fun p hp=>(Nw.mp hp).elim (q p) (h p)
 |tail q _ ih=>exact .tail q ih
theorem CV:∀{l:NL}{i:Nat},l[i]?=some (a,o)→(∀j p,l[j]?=some p→p.1=a→j=i)→Upd a o o' l (l.modify i (fun p=>(p.1,o')))
 |[],_=>fun h _=>by simp at h
 |p::l,0=>fun h q=>by
  simp at h;subst h;refine .head fun p hp e=>?_;obtain⟨j,hj,rfl⟩:=Ou hp;have:=q (j+1) _ (by simp[hj]) e;exact MR this
 |p::l,i+1=>fun h q=>by
  refine .tail (fun e=>?_) (CV (by exact h) fun j p hp e=>?_)
  ·have:=q 0 p rfl e;exact MQ this
  ·have:=q (j+1) p (by exact hp) e;exact Nat.add_right_cancel this
theorem CW:∀{rg:List NL}{r i:Nat}{l:NL},rg[r]?=some l→l[i]?=some (a,o)→(∀r' i' l' p,rg[r']?=some l'→l'[i']?=some p→p.1=a→r'=r∧i'=i)→
 Upd a o o' rg.flatten (rg.modify r (fun l=>l.modify i (fun p=>(p.1,o')))).flatten
 |[],_,_,_=>fun h _ _=>by simp at h
 |x::rg,0,i,l=>fun h hi q=>by
  simp at h;subst h;refine nD (fun p hp e=>?_) (CV hi fun j p hp e=>(q 0 j x p rfl hp e).2);refine ar (List.mem_flatten.mp hp) fun l' h1 h2=>?_;obtain⟨r',hr,rfl⟩:=Ou h1;obtain⟨i',hi',rfl⟩:=Ou h2;have:=(q (r'+1) i' rg[r'] rg[r'][i'] (by simp[hr]) (by simp[hi']) e).1;exact MR this
 |x::rg,r+1,i,l=>fun h hi q=>by
  refine se (fun p hp e=>?_) (CW (by exact h) hi fun r' i' l' p h1 h2 e=>?_)
  ·obtain⟨i',hi',rfl⟩:=Ou hp;have:=(q 0 i' x _ rfl (by simp[hi']) e).1;exact MQ this
  ·have:=q (r'+1) i' l' p (by exact h1) h2 e;exact LY this
end
theorem Fj{W:Wd}(ap:Ap W){r i:Nat}{a:Addr}{o:Obj}(h:W.pt r i=some (a,o))(o':Obj):Upd a o o' W.all (W.i6 r i o').all:=by
 have had:W.ad r i=some a:=by unfold Wd.ad;exact aa h rfl
 have h0:=h;unfold Wd.pt at h0;cases e:W.rg[r]? with
 |none=>rw[e]at h0;simp at h0
 |some l=>
  rw[e]at h0;refine nD (fun p hp=>ap.sep r i a had p hp) (CW e (by exact h0) fun r' i' l' p h1 h2 e'=>?_);exact ap.inj r' i' r i a (by unfold Wd.ad Wd.pt;refine aa h1 ?_;simp only[Option.bind_some];refine aa h2 ?_;exact congrArg some e') had
section
variable{c:Cx}{f:Fm}{sc:Scope}{s:Shared}{m:Str→Option Value}{lo:Lo}{H:AH}{W:Wd}{A:Around}
theorem CR.Lw(C:CR c f s m lo H W){r i:Nat}{a:Addr}{o o':Obj}{ao':AO}{h':Heap}{k:Tok}(hp:W.pt r i=some (a,o))
 (F':Fr f.h₀ f.env.locals h' m)(N':News f.h₀ f.env.locals h' (W.i6 r i o').all)
 (hO:OR c.g W ao' o'):CR c f {s with heap:=h',toks:=k} m lo (put H r i ao') (W.i6 r i o'):=
 ⟨F',N',⟨fun r₁ i₁ r₂ i₂ b h1 h2=>C.ap.inj _ _ _ _ b (by rwa [Wd.dO]at h1) (by rwa [Wd.dO]at h2),fun r₁ i₁ b h1 q hq=>C.ap.sep _ _ b (by rwa [Wd.dO]at h1) q hq,C.ap.nd⟩,
  fun r i a e=>C.big r i a (by rwa [Wd.dO]at e),C.hr.put hO,C.lv.eR (iX ..) rfl,C.gens,C.os⟩
theorem mi.put{g:Gm}{x:Str}{v:AV}{w:Value}{tk:Tok}(hv:VR g W v w):∀{kvs:List (Str×AV)}{es:List DictEntry},mi g W kvs es→mi g W (pt x v kvs) (putL x (PyData.keyHash g.w.params x) (.str x tk) w es):=by
 intro kvs es H
 induction H with
 |nil=>exact .cons hv .nil
 |@cons k t v' w' l es h r ih=>
  by_cases q:k=x
  ·subst q;refine aa Kr ?_;show mi g W _ (if(k==k)=true then _ else _);refine aa (if_pos (beq_self_eq_true k)) ?_;exact .cons hv r
  ·refine aa (JE (beq_eq_false_iff_ne.mpr fun e=>q e.symm)) ?_;show mi g W _ (if(k==x)=true then _ else _);refine aa (if_neg (neT (beq_eq_false_iff_ne.mpr q))) ?_;exact .cons h ih
theorem zt(x:Str)(v:AV)(l:Lo):(pt x v l).length≤l.length+1:=by
 induction l with
 |nil=>exact NQ _
 |cons p l ih=>
  by_cases q:x=p.1
  ·subst q;refine aa Kr ?_;exact Oe _
  ·refine aa (JE (beq_eq_false_iff_ne.mpr q)) ?_;exact Nat.succ_le_succ ih
theorem E8(KO:eO c)(O:bW c f sc){o v:AV}{x:Str}{wo wv:Value}{H':AH}(h:Hz c.P H o x v=some H')(C:CR c f s m lo H W)(ho:VR c.g W o wo)(hv:VR c.g W v wv):
 wpAny (model c.prog c.w) A (setAttr wo x wv) (fun _ s'=>∃W',CR c f s' m lo H' W'∧Le W W') aY s:=by
 revert h;refine aO fun t h1 h=>?_;revert h;refine dD fun hl h=>?_;cases h;rw[ND,ND,decide_eq_true_eq]at hl;obtain⟨⟨hlen,hmem⟩,hz⟩:=hl;obtain⟨⟨r,i,a,d,es,n,e0,e1,e2,ep,e4,I,e6⟩,Y⟩:=lF KO h1 C;subst e0;refine ar (ho.addr) fun a' e'1 e7=>?_;refine aa e'1 ?_;have:a'=a:=by rw[e1]at e7;exact(NF e7).symm
 refine aa this ?_
 have hg:(PySem.W.getL x es).isSome=true:=by
  cases q:lk x t.2.2 with
  |none=>refine aa ((e4.getL (x:=x)).2 q) ?_;rfl
  |some u=>obtain⟨y,y1,_⟩:=(e4.getL (x:=x)).1 u q;refine aa y1 ?_;rfl
 have ht:takerIn c.K (c.g.ga t.1.1) x=some none:=by unfold takerIn;refine aa (Y.at_ x hmem) ?_;rfl
 refine set_dict (dx:=d) (n':=putN x es n) (es':=putL x (PyData.keyHash c.w.params x) (.str x (s.toks+1)) wv es) C.F O.KX C.N I rfl Y.sa Y.po ht Y.hd hg rfl (Fj C.ap ep _) ?_ ?_
 ·refine aa ((e4.put (x:=x) (tk:=s.toks+1) hv).length) ?_;have:=zt x v t.2.2;exact(LA [_,_] V0 (.k 1000) (.a V0 (Sx V1)) (.a (Sx V1) (.k 500)) rfl (Nq this hlen))
 ·intro h' F' N';refine⟨_,C.Lw ep F' N' ⟨_,_,rfl,(e4.put (x:=x) (tk:=s.toks+1) hv),fun y u e=>?_⟩,kE _ _ hz⟩;rw[BO]at e;by_cases q:y=x
  ·refine aa q ?_;refine bR Y.bc ?_;exact hmem
  ·rw[if_neg q]at e;exact e6 y u e
end
end Hx
namespace Hx
open PySem PySem.W PyProof.Rows PySem.Calls
section
variable{c:Cx}{f:Fm}{sc:Scope}{s:Shared}{m:Str→Option Value}{lo:Lo}{H:AH}{W:Wd}{A:Around}
def SP(c:Cx)(f:Fm)(m:Str→Option Value)(lo:Lo)(W:Wd)(H':AH)(s':Shared):Prop:=∃W',CR c f s' m lo H' W'∧Le W W'
theorem CR.mapSeq(C:CR c f s m lo H W){r i:Nat}{a:Addr}{vs:List Value}{n:Nat}{xs':List AV}(hz:nz r i=true)(ha:W.ad r i=some a)(e:s.heap.get? a=some (listOf vs.toArray n))
 (g:Array Value→Array Value){ws:List Value}(hg:g vs.toArray=ws.toArray)(hv:bh c.g W xs' ws){k:Tok}:
 SP c f m lo W (put H r i (.list xs')) {s with heap:=s.heap.update a (Obj.mapSeq g),toks:=k}:=by
 have u:=PySem.IsL.update (n:=n) (l:=a) e g;rw[hg]at u;exact⟨_,C.aN ha (Heap.SameBut.update ..) u ⟨ws,_,rfl,hv⟩,kE _ _ hz⟩
theorem u3(O:bW c f sc){r:Nat}{xs:List AV}{v:AV}{H':AH}{ws:List Value}(h:newList H r xs=some (v,H'))(C:CR c f s m lo H W)(hv:bh c.g W xs ws):
 wpAny (model c.prog c.w) A (PySem.newList ws) (EP c f m lo W v H') aY s:=by
 unfold newList at h;split at h
 ·rename_i hl;refine wpAny_newObj_type ?_ ?_
  ·obtain⟨C',l,hr⟩:=C.new h (a:=s.heap.objs.size) (o:=listOf ws.toArray 0) (h':=s.heap.push (listOf ws.toArray 0)) (k:=s.toks) (by
    cases q:s.heap.get? s.heap.objs.size with
    |none=>rfl
    |some o=>exact absurd (Heap.lt_size q) (Oc _)) (C.low O) (fun b o e=>Heap.get?_push_of_some _ e) (Heap.get?_push_size _ rfl) ⟨ws,0,rfl,hv⟩
   exact⟨_,C',l,hr⟩
  ·refine(?_:ws.toArray.size≤sizeLine);refine aa NI (aa hv.length (aa sizeLine_eq ?_));unfold ab at hl;exact kh hl
 ·exact cZ h
theorem gG(h:Heap):h.get? h.objs.size=none:=by
 cases q:h.get? h.objs.size with
 |none=>rfl
 |some o=>exact absurd (Heap.lt_size q) (Oc _)
theorem rO{xs:List AV}{ws:List Value}(hl:xs.length<ab)(C:CR c f s m lo H W)(hv:bh c.g W xs ws):
 wpAny (model c.prog c.w) A (newTuple ws) (EP c f m lo W (.tup xs) H) aY s:=by
 refine wpAny_newObj_type ?_ ?_
 ·have C':=C.rM (a:=s.heap.objs.size) (o:=sb ws 0) (h':=s.heap.push (sb ws 0)) (k:=s.toks) (gG _) (fun b o e=>Heap.get?_push_of_some _ e) (Heap.get?_push_size _ rfl);exact⟨_,C',(hM W s.heap.objs.size (sb ws 0)),.tup (.head _) (hv.mono (hM W s.heap.objs.size (sb ws 0)).eR)⟩
 ·show ws.toArray.size≤sizeLine;refine aa NI (aa hv.length (aa sizeLine_eq ?_));unfold ab at hl;exact kh hl
theorem kj.keys{g:Gm}:∀{kvs:List (Str×AV)}{ws:List (Str×Value)},kj g W kvs ws→ws.map (·.1)=kvs.map (·.1):=by
 intro kvs ws h
 induction h with
 |nil=>rfl
 |cons _ _ ih=>exact congrArg (_::·) ih
theorem kj.app{g:Gm}{k:Str}{v:AV}{w:Value}(h:VR g W v w):∀{kvs:List (Str×AV)}{ws:List (Str×Value)},kj g W kvs ws→kj g W (kvs++[(k,v)]) (ws++[(k,w)]):=by
 intro kvs ws H
 induction H with
 |nil=>exact .cons h .nil
 |cons h' _ ih=>exact .cons h' ih
theorem Ci{k:Str}{v:AV}:∀{l:Lo},(∀p∈l,p.1≠k)→pt k v l=l++[(k,v)]
 |[]=>fun _=>rfl
 |(y,w)::l=>fun h=>by
  have q:(k==y)=false:=beq_eq_false_iff_ne.mpr fun e=>h _ (.head _) e.symm;exact aa (JE q) (aa (Ci fun p hp=>h p (.tail _ hp)) rfl)
theorem kj.put{g:Gm}{k:Str}{v:AV}{w:Value}(h:VR g W v w):∀{kvs:List (Str×AV)}{ws:List (Str×Value)},kj g W kvs ws→(ws.map (·.1)).Nodup→(∃p∈ws,p.1=k)→
 kj g W (pt k v kvs) (ws.map fun kv=>if kv.1=k then(kv.1,w)else kv):=fun H nd e=>by
 induction H with
 |nil=>exact ar e fun _ h _=>nomatch h
 |@cons k' v' w' l es h' r ih=>
  rw[Of,NZ]at nd;by_cases q:k'=k
  ·subst q;refine aa Kr (aa Of (aa (if_pos rfl) ?_));refine .cons h ?_
   have:∀{l:List (Str×Value)},k'∉l.map (·.1)→(l.map fun kv=>if kv.1=k' then(kv.1,w)else kv)=l:=by
    intro l hl
    induction l with
    |nil=>rfl
    |cons p l ih=>
     rw[Of,Nv]at hl;exact aa Of (aa (if_neg (fun e=>hl (.inl e.symm))) (aa (ih fun e=>hl (.inr e)) rfl))
   refine aa (this nd.1) ?_;exact r
  ·have q1:(k==k')=false:=beq_eq_false_iff_ne.mpr fun e=>q e.symm;refine aa (JE q1) (aa Of (aa (if_neg q) ?_));refine .cons h' (ih nd.2 ?_);revert e;refine JI fun p hp e=>?_;rcases Nv.mp hp with rfl|hp
   ·exact absurd e q
   ·exact⟨p,hp,e⟩
theorem zC{g:Gm}{k:Str}{v:AV}{w:Value}(h:VR g W v w){kvs:List (Str×AV)}{ws:List (Str×Value)}(r:kj g W kvs ws)(nd:(ws.map (·.1)).Nodup):kj g W (pt k v kvs) (stored ws k w):=by
 unfold stored;split
 ·rename_i q;refine r.put h nd ?_;refine ar (O5.mp q) fun p hp e=>?_;exact⟨p,hp,by simpa using e⟩
 ·rename_i q;rw[Ci]
  ·exact r.app h
  ·intro p hp e;refine q (O5.mpr ?_);have:k∈ws.map (·.1):=by refine aa r.keys ?_;exact NU.mpr ⟨p,hp,e⟩
   refine ar (NU.mp this) fun p' hp' e'=>?_;exact⟨p',hp',by simpa using e'⟩
theorem bh.one?{g:Gm}{vs:List AV}{ws:List Value}{v:AV}(h:one? vs=some v)(r:bh g W vs ws):∃w,ws=[w]∧VR g W v w:=by
 rw[jW h]at r;cases r with|cons h r=>cases r;exact⟨_,rfl,h⟩
theorem Ge{α:Type}{l:List α}{p:α×α}(h:h8 l=some p):l=[p.1,p.2]:=by
 cases l with
 |nil=>first|exact ns h|cases h
 |cons a l=>obtain⟨b,h1,rfl⟩:=om h;exact aa (jW h1) rfl
theorem ik{α:Type}{l:List α}{u:Unit}(h:f7 l=some u):l=[]:=by cases l<;>first|rfl|exact ns h|cases h
theorem bh.h8{g:Gm}{vs:List AV}{ws:List Value}{p:AV×AV}(h:h8 vs=some p)(r:bh g W vs ws):∃w z,ws=[w,z]∧VR g W p.1 w∧VR g W p.2 z:=by
 rw[Ge h]at r;cases r with|cons h r=>obtain⟨z,e,h2⟩:=bh.one? rfl r;exact⟨_,z,by exact aa e rfl,h,h2⟩
theorem VR.dq{g:Gm}{v:AV}{k:Int}{w:Value}(h:v.i?=some k)(r:VR g W v w):∃t,w=.int k t:=by
 rw[AV.F5 h]at r;cases r;exact⟨_,rfl⟩
theorem VR.lY{g:Gm}{v:AV}{k:Str}{w:Value}(h:v.s?=some k)(r:VR g W v w):∃t,w=.str k t:=by
 rw[AV.zw h]at r;cases r;exact⟨_,rfl⟩
theorem VR.we{g:Gm}{v:AV}{l:Nat×Nat}{w:Value}(h:v.l?=some l)(r:VR g W v w):∃a,w=.ref a∧W.ad l.1 l.2=some a:=by
 rw[AV.sx h]at r;exact r.addr
theorem wF{o i v:AV}{wo wi wv:Value}{H':AH}(h:E9 H o i v=some H')(C:CR c f s m lo H W)(ho:VR c.g W o wo)(hi:VR c.g W i wi)(hv:VR c.g W v wv):
 wpAny (model c.prog c.w) A (setItem wo wi wv) (fun _ s'=>SP c f m lo W H' s') aY s:=by
 refine ar (ob h) fun l h1 h=>?_;refine xA (oi h) fun hz h=>?_;refine ar (ob h) fun ao e0 h=>?_;refine ar (om h) fun ao' h2 h=>?_;refine bR h ?_;refine ar (ho.we h1) fun a e'1 ha=>?_;refine aa e'1 ?_;cases ao<;>(first|exact ns h2|cases h2|skip)
 ·refine ar (ob h2) fun k h3 h2=>?_;refine xA (oi h2) fun hk h2=>?_;refine ar (om h2) fun j' e3 e'2=>?_;refine bR e'2 ?_;refine xE (hi.dq h3) fun t e'1=>?_;refine aa e'1 ?_;refine bx (C.isList e0 ha) fun ws n e1 e2 hvs=>?_;refine ja (iW e3) fun q1 q2 q3 q4=>?_;have sp:=cS hk;have hs:=hvs.set hv j';by_cases k0:0≤k
  ·refine ki_setAt e1 k0 (by lia) (by refine aa NI (aa hvs.length ?_);exact Mb q3 q2) ?_;exact C.mapSeq hz ha e1 _ (ws:=ws.set j' wv) (by refine aa (q3 k0) ?_;simp) hs (k:=s.toks)
  ·have:=(q4 (Ke k0));refine ki_setBack e1 (Ke k0) (by refine aa NI (aa hvs.length ?_);exact this.2) (by lia) ?_;exact C.mapSeq hz ha e1 _ (ws:=ws.set j' wv) (by refine aa this.1 (aa NI (aa hvs.length ?_));simp) hs (k:=s.toks)
 ·refine ar (ob h2) fun x h3 h2=>?_;refine xA (oi h2) fun hl h2=>?_;cases h2;refine xE (hi.lY h3) fun t e'1=>?_;rw[e'1];refine vh (C.uO e0 ha) fun o ws e1 e2 hd hr'=>?_;revert hr';refine rA fun hvs hm=>?_;have nd:(ws.map (·.1)).Nodup:=by obtain⟨_,_,_,_,_,_,nd⟩:=hd;exact nd
  refine wpAny_setItem_pairs (hsz:=by rw[hvs.length,sizeLine_eq];exact(LA [_] V0 (.k 16777216) (Sx V0) (.k 500) rfl hl)) (strKind_is c.prog c.w x t) hm fun h' hm' hs=>?_;refine ar (Heap.dictOf_iff.mp hm') fun o' ho' hd'=>?_;exact⟨_,C.aN ha hs ho' ⟨_,hd',zC hv hvs nd⟩,kE _ _ hz⟩
end
end Hx
namespace Hx
open PySem PySem.W PyProof.Rows PySem.Calls
section
variable{c:Cx}{f:Fm}{sc:Scope}{s:Shared}{m:Str→Option Value}{lo:Lo}{H:AH}{W:Wd}{A:Around}
theorem oF{g:Gm}{xs:List AV}{ws:List Value}{l:List Int}(h:cQ xs=some l)(r:bh g W xs ws):IntsAre ws l:=by
 induction xs generalizing ws l with
 |nil=>revert h;refine aJ fun h=>?_;subst h;cases r;exact .nil
 |cons v xs ih=>
  refine ar (ob h) fun i h1 h=>?_;refine ar (om h) fun l h2 e'2=>?_;clear h;clear h;subst e'2;cases r with
  |cons hv r=>obtain⟨t,rfl⟩:=hv.dq h1;exact .cons i t (ih h2 r)
theorem uL{xs:List AV}{l:List Int}(h:cQ xs=some l):l.length=xs.length:=by
 induction xs generalizing l with
 |nil=>revert h;refine aJ fun h=>?_;subst h;rfl
 |cons v xs ih=>
  refine ar (ob h) fun i h1 h=>?_;refine ar (om h) fun l h2 e'2=>?_;clear h;clear h;subst e'2;exact aa Od (aa Od (aa (ih h2) rfl))
noncomputable def y7(k:Int):Value→Bool
 |.int i _=>i==k
 |_=>false
theorem mS{ws:List Value}{l:List Int}(h:IntsAre ws l)(k:Int)(t:Tok):∀y∈ws.toArray,MeetsSeq.EqGives y (.int k t) (y7 k y):=by
 intro y hy;have hy:y∈ws:=by simpa using hy
 obtain⟨i,hi,rfl⟩:=Ou hy;refine eB (IntsAre.at h i ws[i] (by simp[hi])) fun a u e _=>?_;refine aa e ?_;exact MeetsSeq.EqGives.int a k u t
theorem Be{ws:List Value}{l:List Int}(h:IntsAre ws l)(k:Int)(j:Nat)(hj:j<ws.length):y7 k ws[j]=(l[j]'(by have:=h.length;exact H6 hj this)==k):=by
 refine eB (IntsAre.at h j _ (NP hj)) fun a u e ha=>?_;refine aa e ?_
 have:l[j]'(by have:=h.length;exact H6 hj this)=a:=by
  have:=NP (l:=l) (i:=j) (by have:=h.length;exact H6 hj this);rw[ha]at this;exact(NF this).symm
 exact aa this rfl
noncomputable def dC(x:Str):String:=
 if x==("append":Str)then"list.append"else if x==("pop":Str)then"list.pop"else if x==("insert":Str)then"list.insert"else if x==("index":Str)then"list.index"else"list.remove"
theorem rL{x:Str}(h:mem x kF=true):∃(sl:Slot "list" x (dC x)),typeOf (.builtin (dC x))=pure (.type "method_descriptor"):=by
 unfold kF at h;simp only[Jv,eS]at h;split at h
 ·rename_i q;have q:=beq_iff_eq.mp q;refine aa q ?_;refine aa (show dC _="list.append" by decide+kernel) ?_;exact⟨PySem.F.slot_list_append,PySem.F.type_list_append⟩
 split at h
 ·rename_i q;have q:=beq_iff_eq.mp q;refine aa q ?_;refine aa (show dC _="list.pop" by decide+kernel) ?_;exact⟨PySem.F.slot_list_pop,PySem.F.type_list_pop⟩
 split at h
 ·rename_i q;have q:=beq_iff_eq.mp q;refine aa q ?_;refine aa (show dC _="list.insert" by decide+kernel) ?_;exact⟨PySem.F.slot_list_insert,PySem.F.type_list_insert⟩
 split at h
 ·rename_i q;have q:=beq_iff_eq.mp q;refine aa q ?_;refine aa (show dC _="list.index" by decide+kernel) ?_;exact⟨PySem.F.slot_list_index,PySem.F.type_list_index⟩
 split at h
 ·rename_i q;have q:=beq_iff_eq.mp q;refine aa q ?_;refine aa (show dC _="list.remove" by decide+kernel) ?_;exact⟨PySem.F.slot_list_remove,PySem.F.type_list_remove⟩
 ·exact gz h
def Ax(c:Cx)(f:Fm)(m:Str→Option Value)(lo:Lo)(H:AH)(W:Wd)(r i:Nat)(p:AV×List AV)(w:Value)(s':Shared):Prop:=EP c f m lo W p.1 (put H r i (.list p.2)) w s'
theorem wI{r i:Nat}{p:AV×List AV}{s':Shared}{w:Value}(h:SP c f m lo W (put H r i (.list p.2)) s')(hr:VR c.g W p.1 w):Ax c f m lo H W r i p w s':=
 let⟨W',C',l⟩:=h;⟨W',C',l,hr.mono l.eR⟩
section
variable{r i:Nat}{xs args:List AV}{ws vs:List Value}{n:Nat}{a:Addr}
theorem uU{p:AV×List AV}(h:wh xs args=some p)(hl:xs.length<ab)(nzr:nz r i=true)(ha:W.ad r i=some a)(e1:s.heap.get? a=some (listOf vs.toArray n))(hvs:bh c.g W xs vs)(C:CR c f s m lo H W)(hv:bh c.g W args ws):
 wpAny (model c.prog c.w) A (call (.builtin "list.append") (.ref a::ws)) (Ax c f m lo H W r i p) aY s:=by
 refine ar (om h) fun v h1 e'2=>?_;clear h;subst e'2;refine ar (hv.one? h1) fun w e'1 hw=>?_;refine aa e'1 ?_;refine append_at (hsz:=by refine aa NI (aa hvs.length (aa sizeLine_eq ?_));unfold ab at hl;exact kh hl) e1 fun h' hs ho=>?_;exact⟨_,C.aN ha hs ho ⟨vs++[_],n+1,by simp,hvs.append (.one hw)⟩,kE _ _ nzr,.none⟩
theorem EO{p:AV×List AV}(h:Hc xs args=some p)(hl:xs.length<ab)(nzr:nz r i=true)(ha:W.ad r i=some a)(e1:s.heap.get? a=some (listOf vs.toArray n))(hvs:bh c.g W xs vs)(C:CR c f s m lo H W)(hv:bh c.g W args ws):
 wpAny (model c.prog c.w) A (call (.builtin "list.pop") (.ref a::ws)) (Ax c f m lo H W r i p) aY s:=by
 have hvl:=hvs.length;have hcap:vs.toArray.size≤sizeLine:=by refine aa NI (aa hvl (aa sizeLine_eq ?_));unfold ab at hl;exact kh hl
 cases args with
 |nil=>
  cases hv;refine ar (om h) fun y hy e'2=>?_;subst e'2;have hy':xs[xs.length-1]?=some y:=by rw[List.getLast?_eq_getElem?]at hy;exact hy
  have hlt:=(N4.mp hy').1;refine ar (hvs.get hy') fun w w1 w2=>?_;refine call_meets PySem.F.slot_list_pop ⟨_,e1,rfl⟩ PySem.F.entry_list_pop (PySem.F.args_list_pop_1 _) (PySem.MeetsSeq.list_pop_last a _ n w (by refine aa NI (aa hvl ?_);simpa using w1) hcap) ⟨e1,?_⟩;refine wI (C.mapSeq nzr ha e1 _ (ws:=vs.take (xs.length-1)) (k:=s.toks) ?_ ?_) w2
  ·refine aa NI (aa hvl ?_);apply Array.toList_inj.mp;simp;rw[List.eraseIdx_eq_take_drop_succ];refine aa (List.drop_of_length_le (Ng hvl)) ?_;rw[N7]
  ·refine aa List.dropLast_eq_take ?_;exact hvs.take _
 |cons k0 l=>
  refine ar (ob h) fun u hu h=>?_;refine ar (ob h) fun k h1 h=>?_;refine xA (oi h) fun hk h=>?_;refine ar (ob h) fun j hj h=>?_;refine ar (om h) fun y hy e'2=>?_;clear h;subst e'2;rw[ik hu]at hv;refine ar (hv.one? rfl) fun w0 e'1 hw0=>?_;clear hv;subst e'1;refine xE (hw0.dq h1) fun t e'1=>?_;clear hl hu hw0 u;subst e'1;refine ar (hvs.get hy) fun w w1 w2=>?_;refine ja (iW hj) fun q1 q2 q3 q4=>?_;have sp:=cS hk;refine call_meets PySem.F.slot_list_pop ⟨_,e1,rfl⟩ PySem.F.entry_list_pop (PySem.F.args_list_pop_2 _ _) (PySem.MeetsSeq.list_pop_at a _ n k t j w (by unfold Builtin.List.listFitsIndex;simp only[ND,decide_eq_true_eq];lia) (by refine aa NI (aa hvl ?_);exact q1) (by simpa using w1) hcap) ⟨e1,?_⟩;refine wI (C.mapSeq nzr ha e1 _ (ws:=vs.eraseIdx j) (k:=s.toks) ?_ (hvs.erase j)) w2;apply Array.toList_inj.mp;simp
theorem uV{p:AV×List AV}(h:wj xs args=some p)(hl:xs.length<ab)(nzr:nz r i=true)(ha:W.ad r i=some a)(e1:s.heap.get? a=some (listOf vs.toArray n))(hvs:bh c.g W xs vs)(C:CR c f s m lo H W)(hv:bh c.g W args ws):
 wpAny (model c.prog c.w) A (call (.builtin "list.insert") (.ref a::ws)) (Ax c f m lo H W r i p) aY s:=by
 have hvl:=hvs.length;revert h;refine aO fun q h2 h=>?_;revert h;refine aO fun k h3 h=>?_;obtain⟨⟨k0,hk⟩,h⟩:=oi h;revert h;refine aJ fun h=>?_;refine bR h ?_;refine bx (hv.h8 h2) fun w z e'2 hw hz=>?_;refine aa e'2 ?_;refine xE (hw.dq h3) fun t e'1=>?_;refine aa e'1 ?_;have sp:=cS hk;refine call_meets PySem.F.slot_list_insert ⟨_,e1,rfl⟩ PySem.F.entry_list_insert (PySem.F.args_list_insert_3 _ _ _) (PySem.AutoSeq1.list_insert_list_int_val_1 a _ n k t _ (by unfold Builtin.List.listFitsIndex;simp only[Pc,Bool.and_eq_false_iff,decide_eq_false_iff_not];omega) (by refine aa NI (aa hvl (aa sizeLine_eq ?_));unfold ab at hl;exact kh hl)) ⟨e1,?_⟩;refine wI (C.mapSeq nzr ha e1 _ (ws:=vs.take k.toNat++_::vs.drop k.toNat) (k:=s.toks) ?_ ((hvs.take _).append (.cons hz (hvs.drop _)))) .none;simp only[show¬k<0 by exact LR k0,if_false];rw[kl_ins_eq];refine aa NI (aa hvl ?_);by_cases q:k.toNat≤xs.length
 ·exact aa (Nat.min_eq_left q) rfl
 ·exact aa (Nat.min_eq_right (Nat.le_of_not_ge q)) (aa (List.take_of_length_le (Ny hvl)) (aa (List.take_of_length_le (by exact(LA [_,_,_] V0 V1 (.a V0 (Sx V2)) (.a V2 V1) rfl (Nq (Ny hvl) (Nat.lt_of_not_le q))))) (aa (List.drop_of_length_le (Ny hvl)) (aa (List.drop_of_length_le (by exact(LA [_,_,_] V0 V1 (.a V0 (Sx V2)) (.a V2 V1) rfl (Nq (Ny hvl) (Nat.lt_of_not_le q))))) rfl))))
theorem lP{j:Nat}(h:bf xs args=some j)(hvs:bh c.g W xs vs)(hv:bh c.g W args ws):
 ∃k t l,ws=[.int k t]∧IntsAre vs l∧∃hj:j<vs.length,y7 k vs[j]=true∧∀q(hq:q<vs.length),q<j→y7 k vs[q]=false:=by
 revert h;refine aO fun v h1 h=>?_;revert h;refine aO fun k h2 h=>?_;revert h;refine aO fun l hl hj=>?_;refine ar (hv.one? h1) fun w e'1 hw=>?_;refine aa e'1 ?_;refine xE (hw.dq h2) fun t e'1=>?_;refine aa e'1 ?_;have hI:=oF hl hvs;have hvl:=hvs.length;have hll:=uL hl;obtain⟨j1,j2,j3⟩:=List.findIdx?_eq_some_iff_getElem.mp hj;refine⟨k,t,l,rfl,hI,(LA [_,_,_,_] (Sx V0) V1 (.a (.a (Sx V0) V3) V2) (.a (.a V2 V1) V3) rfl (Nq (Nq j1 (Ny hvl.symm)) (Ny hll))),?_,fun q hq hlt=>?_⟩
 ·refine aa (Be hI k j ((LA [_,_,_,_] (Sx V0) V1 (.a (.a (Sx V0) V3) V2) (.a (.a V2 V1) V3) rfl (Nq (Nq j1 (Ny hvl.symm)) (Ny hll))))) ?_;exact j2
 ·refine aa (Be hI k q hq) ?_;simpa using j3 q hlt
theorem zl{j:Nat}(h:bf xs args=some j)(hl:xs.length<ab)(e1:s.heap.get? a=some (listOf vs.toArray n))(hvs:bh c.g W xs vs)(C:CR c f s m lo H W)(hv:bh c.g W args ws):
 wpAny (model c.prog c.w) A (call (.builtin "list.index") (.ref a::ws)) (EP c f m lo W (.int j) H) aY s:=by
 have hvl:=hvs.length;refine dh (lP h hvs hv) fun k t l e'3 hI hr'=>?_;refine aa e'3 ?_;obtain⟨hj,j2,j3⟩:=hr';refine call_meets PySem.F.slot_list_index ⟨_,e1,rfl⟩ PySem.F.entry_list_index (PySem.F.args_list_index_2 _ _) (PySem.MeetsSeq.list_index a vs.toArray n (.int k t) (y7 k) (mS hI k t) j (by refine aa NI ?_;exact hj) (by unfold ab at hl;lia) ?_ ?_) ⟨e1,EP.mk (s:={s with toks:=s.toks+1}) C.tok (.int _ _)⟩
 ·rw[List.getElem_toArray];exact j2
 ·intro q hq hlt;rw[List.getElem_toArray];exact j3 q (by rw[NI]at hq;exact hq) hlt
theorem uW{j:Nat}(h:bf xs args=some j)(hl:xs.length<ab)(nzr:nz r i=true)(ha:W.ad r i=some a)(e1:s.heap.get? a=some (listOf vs.toArray n))(hvs:bh c.g W xs vs)(C:CR c f s m lo H W)(hv:bh c.g W args ws):
 wpAny (model c.prog c.w) A (call (.builtin "list.remove") (.ref a::ws)) (Ax c f m lo H W r i (.none,xs.eraseIdx j)) aY s:=by
 refine dh (lP h hvs hv) fun k t l e'3 hI hr'=>?_;refine aa e'3 ?_;obtain⟨hj,j2,j3⟩:=hr';refine call_meets PySem.F.slot_list_remove ⟨_,e1,rfl⟩ PySem.F.entry_list_remove (PySem.F.args_list_remove_2 _ _) (PySem.MeetsSeq.list_remove a vs.toArray n (.int k t) (y7 k) (mS hI k t) j (by refine aa NI ?_;exact hj) ?_ ?_ (by refine aa NI (aa ((hvs.length)) (aa sizeLine_eq ?_));unfold ab at hl;exact kh hl)) ⟨e1,?_⟩
 ·rw[List.getElem_toArray];exact j2
 ·intro q hq hlt;rw[List.getElem_toArray];exact j3 q (by rw[NI]at hq;exact hq) hlt
 ·refine wI (C.mapSeq nzr ha e1 _ (ws:=vs.eraseIdx j) (k:=s.toks) ?_ (hvs.erase j)) .none;apply Array.toList_inj.mp;simp
end
theorem B6{r i:Nat}{xs:List AV}{x:Str}{args:List AV}{ws:List Value}{v:AV}{H':AH}{a:Addr}(h:wk H r i xs x args=some (v,H'))(e0:get H r i=some (.list xs))(nzr:nz r i=true)(ha:W.ad r i=some a)
 (C:CR c f s m lo H W)(hv:bh c.g W args ws)(hu:A.units+10<cLine):
 wpAny (model c.prog c.w) A (call (.builtin (dC x)) (.ref a::ws)) (EP c f m lo W v H') aY s:=by
 refine bx (C.isList e0 ha) fun vs n e1 e2 hvs=>?_;revert h;refine dD fun hl h=>?_;by_cases q:(x==("append":Str))=true
 ·rw[if_pos q]at h;revert h;refine fQ fun p h1 h2=>?_;revert h2;refine su ?_;refine aa (beq_iff_eq.mp q) (aa (show dC _="list.append" by decide+kernel) ?_);exact uU h1 hl nzr ha e1 hvs C hv
 rw[if_neg q]at h;by_cases q:(x==("pop":Str))=true
 ·rw[if_pos q]at h;revert h;refine fQ fun p h1 h2=>?_;revert h2;refine su ?_;refine aa (beq_iff_eq.mp q) (aa (show dC _="list.pop" by decide+kernel) ?_);exact EO h1 hl nzr ha e1 hvs C hv
 rw[if_neg q]at h;by_cases q:(x==("insert":Str))=true
 ·rw[if_pos q]at h;revert h;refine fQ fun p h1 h2=>?_;revert h2;refine su ?_;refine aa (beq_iff_eq.mp q) (aa (show dC _="list.insert" by decide+kernel) ?_);exact uV h1 hl nzr ha e1 hvs C hv
 rw[if_neg q]at h;by_cases q:(x==("index":Str))=true
 ·rw[if_pos q]at h;revert h;refine fQ fun p h1 h2=>?_;revert h2;refine su ?_;refine aa (beq_iff_eq.mp q) (aa (show dC _="list.index" by decide+kernel) ?_);exact zl h1 hl e1 hvs C hv
 rw[if_neg q]at h;revert h;refine dD fun q h=>?_;revert h;refine fQ fun p h1 h2=>?_;revert h2;refine su ?_;refine aa (beq_iff_eq.mp q) (aa (show dC _="list.remove" by decide+kernel) ?_);exact uW h1 hl nzr ha e1 hvs C hv
end
end Hx
namespace Hx
open PySem PySem.W PyProof.Rows PySem.Calls
section
variable{c:Cx}{f:Fm}{sc:Scope}{s:Shared}{m:Str→Option Value}{lo:Lo}{H:AH}{W:Wd}{A:Around}
theorem GD(x y:Int):(x==y)=decide (x=y):=by by_cases h:x=y<;>simp[h]
theorem BC{op:Operator}{x y z:Int}{t u:Tok}(h:intOp op x y=some z)(C:CR c f s m lo H W):wpAny (model c.prog c.w) A (binaryOp op (.int x t) (.int y u)) (EP c f m lo W (.int z) H) aY s:=by
 cases op<;>(first|exact ns h|(revert h;refine aJ fun h=>?_;subst h)|skip)
 ·exact add_int (EP.mk (s:={s with toks:=s.toks+1}) C.tok (.int _ _))
 ·exact sub_int (EP.mk (s:={s with toks:=s.toks+1}) C.tok (.int _ _))
 ·revert h;refine dD fun hy h=>?_;revert h;refine aJ fun h=>?_;subst h;refine mod_int (Ne.symm (Int.ne_of_lt hy)) ?_;refine aa (Int.fmod_eq_emod_of_nonneg _ (Int.le_of_lt hy)) ?_;exact EP.mk (s:={s with toks:=s.toks+1}) C.tok (.int _ _)
 ·revert h;refine dD fun hy h=>?_;revert h;refine aJ fun h=>?_;subst h;refine floordiv_int (Ne.symm (Int.ne_of_lt hy.1)) ?_ (.inl (PyProof.noPylong_small (by omega)));refine aa (Int.fdiv_eq_ediv_of_nonneg _ (Int.le_of_lt hy.1)) ?_;exact EP.mk (s:={s with toks:=s.toks+1}) C.tok (.int _ _)
theorem oG{op:Operator}(h:isAdd op=true):op=.Add:=by cases op<;>first|rfl|exact ns h|exact gz h
theorem GF(O:bW c f sc){r:Nat}{op:Operator}{a b v:AV}{wa wb:Value}{H':AH}(h:AN H r op a b=some (v,H'))(C:CR c f s m lo H W)(ha:VR c.g W a wa)(hb:VR c.g W b wb):
 wpAny (model c.prog c.w) A (binaryOp op wa wb) (EP c f m lo W v H') aY s:=by
 unfold AN at h;cases a<;>(first|exact ns h|cases h|skip)
 ·revert h;refine aO fun y h1 h=>?_;revert h;refine fQ fun z h2 h=>?_;revert h;refine su ?_;refine xE (hb.dq h1) fun t e'1=>?_;refine aa e'1 ?_;cases ha;exact BC h2 C
 ·revert h;refine dD fun h0 h=>?_;revert h;refine aO fun y h1 h=>?_;revert h;refine dD fun hl h=>?_;revert h;refine Dj ?_;refine xE (hb.lY h1) fun t e'1=>?_;subst e'1;cases ha;refine aa (oG h0) ?_;exact add_str (hsz:=by refine aa sizeLine_eq ?_;unfold ab at hl;exact kh hl) fun t' tk=>EP.mk (s:={s with toks:=tk}) C.tok (.str _ _)
 ·revert h;refine dD fun h0 h=>?_;revert h;refine aO fun l h1 h=>?_;revert h;refine aO fun xs e1 h=>?_;revert h;refine aO fun ys e2 h=>?_;refine ar (ha.addr) fun x e'1 hx=>?_;clear ha;refine aa e'1 ?_;refine ar (hb.we h1) fun y e'1 hy=>?_;clear hb;subst e'1;refine bx (C.isList (a_ e1) hx) fun vs n q1 q2 q3=>?_;refine bx (C.isList (a_ e2) hy) fun ws n' p1 p2 p3=>?_;revert h;refine dD fun hl h=>?_;rw[NH]at hl;refine aa (oG h0) ?_;refine add_lists (vs:=vs) (ws:=ws) (hsz:=by rw[q3.length,p3.length,sizeLine_eq];unfold ab at hl;exact kh hl) C.F C.N (ba q1) (ba p1) fun h' F' N'=>?_;refine gS (C.Jx h (gG _) (C.low O) (k:=s.toks) F' N' ⟨vs++ws,0,rfl,q3.append p3⟩) fun C' l hr=>?_;exact⟨_,C',l,hr⟩
theorem l8{v:AV}{w:Value}{b:Bool}(h:dG H v=some b)(C:CR c f s m lo H W)(hv:VR c.g W v w):
 wpAny (model c.prog c.w) A (truthy w) (BP c f m lo W b H) aY s:=by
 unfold dG at h;cases v<;>(first|exact ns h|(revert h;refine aJ fun h=>?_;subst h)|skip)
 ·cases hv;exact wpAny_truthy_bool ⟨rfl,W,C,Le.refl W⟩
 ·revert h;refine aO fun xs e h=>?_;revert h;refine dD fun hl h=>?_;revert h;refine aJ fun h=>?_;subst h;refine ar (hv.addr) fun a e'1 ha=>?_;refine aa e'1 ?_;refine bx (C.isList (a_ e) ha) fun vs n q1 q2 q3=>?_;refine wpAny_truthy_list (ba q1) (by refine aa NI (aa q3.length ?_);unfold ab at hl;lia) ?_;have hvl:=q3.length;refine⟨?_,W,C.tok,Le.refl W⟩;cases vs<;>cases xs<;>first|rfl|(simp at hvl)
theorem jZ{n:Nat}{g:AV→Option PyData}(ih:∀{v:AV}{w:Value}{d:PyData},g v=some d→VR c.g W v w→(∃as,Reads s.heap w d as)∧d.depth≤n) {v:List AV} {w:List Value} {d:List PyData}
 (h:gj g v=some d) (hv:bh c.g W v w):(∃as,ReadsAll s.heap w d as)∧PyData.depthAll d≤n:=by
 induction v generalizing w d with
 |nil=>revert h;refine aJ fun h=>?_;subst h;cases hv;exact⟨⟨_,.nil⟩,Ov _⟩
 |cons x xs ih2=>
  revert h;refine aO fun d1 e1 h=>?_;revert h;refine fQ fun ds e2 h=>?_;subst h;cases hv with
  |cons h1 h2=>
   obtain⟨⟨as,q⟩,q2⟩:=ih e1 h1;obtain⟨⟨bs,p⟩,p2⟩:=ih2 e2 h2;exact⟨⟨_,.cons q p⟩,Nat.max_le.mpr ⟨q2,p2⟩⟩
theorem l7(KO:eO c)(O:bW c f sc)(C:CR c f s m lo H W):∀(n:Nat){v:AV}{w:Value}{d:PyData},toPy H n v=some d→VR c.g W v w→(∃as,Reads s.heap w d as)∧d.depth≤n:=by
 intro n
 induction n with
 |zero=>intro v w d h hv;exact cZ h
 |succ n ih=>
  intro v w d h hv;cases v<;>(first|exact ns h|cases h|skip)
  ·cases hv;exact⟨⟨_,.none⟩,Ov _⟩
  ·cases hv;exact⟨⟨_,.bool _⟩,Ov _⟩
  ·cases hv;exact⟨⟨_,.int _ _⟩,Ov _⟩
  ·cases hv;exact⟨⟨_,.str _ _⟩,Ov _⟩
  ·revert h;refine fQ fun ds h1 h2=>?_;subst h2;obtain⟨a,ws,rfl,⟨o,ho,hc,k,hd⟩,hr⟩:=C.isTup KO O hv;obtain⟨⟨as,q⟩,q2⟩:=jZ ih h1 hr;exact⟨⟨as,.tuple ho hc hd q⟩,Nat.succ_le_succ q2⟩
  ·revert h;refine aO fun xs e h=>?_;revert h;refine fQ fun ds h1 h2=>?_;subst h2;refine ar (hv.addr) fun a e'1 ha=>?_;refine aa e'1 ?_;refine bx (C.isList (a_ e) ha) fun vs k p1 p2 p3=>?_;obtain⟨⟨as,q⟩,q2⟩:=jZ ih h1 p3;exact⟨⟨_,.list p1 rfl rfl q⟩,Nat.succ_le_succ q2⟩
def DQ(c:Cx)(f:Fm)(A:Around)(s:Shared)(m:Str→Option Value)(lo:Lo)(H:AH)(W:Wd)(o1 o2:CmpOp)(wx wy:Value)(b:Bool):Prop:=
 wpAny (model c.prog c.w) A (compareOp o1 wx wy) (EP c f m lo W (.bool b) H) aY s∧wpAny (model c.prog c.w) A (compareOp o2 wx wy) (EP c f m lo W (.bool (!b)) H) aY s
theorem GS(KO:eO c)(O:bW c f sc){x y:AV}{wx wy:Value}{b:Bool}(h:MD H x y=some b)(C:CR c f s m lo H W)(hx:VR c.g W x wx)(hy:VR c.g W y wy)(hu:A.units+20<cLine):DQ c f A s m lo H W .Eq .NotEq wx wy b:=by
 revert h;refine aO fun d h1 h=>?_;revert h;refine aO fun e h2 h=>?_;revert h;refine dD fun hl h=>?_;revert h;refine aJ fun h=>?_;subst h;rw[ND]at hl;obtain⟨⟨as,q⟩,q2⟩:=l7 KO O C 7 h1 hx;obtain⟨⟨bs,p⟩,p2⟩:=l7 KO O C 7 h2 hy;exact⟨SeqAt.compareEq_reads q p hl.1 hl.2 (NA (O3 (N1 (Nat.min_le_left _ _) (N1 q2 (by decide))) _) hu) (EP.mk C (.bool _)),SeqAt.compareNe_reads q p hl.1 hl.2 (NA (O3 (N1 (Nat.min_le_left _ _) (N1 q2 (by decide))) _) hu) (EP.mk C (.bool _))⟩
theorem FX(KO:eO c)(O:bW c f sc){x y:AV}{wx wy:Value}{b:Bool}(h:fg H x y=some b)(C:CR c f s m lo H W)(hx:VR c.g W x wx)(hy:VR c.g W y wy)(hu:A.units+20<cLine):DQ c f A s m lo H W .Eq .NotEq wx wy b:=by
 unfold fg at h;cases q:oU x y with
 |none=>rw[q]at h;exact GS KO O h C hx hy hu
 |some r=>
  rw[q]at h;revert h;refine aJ fun h=>?_;subst h;cases x<;>(first|exact ns q|cases q|skip)
  ·refine ar (om q) fun j h1 e'2=>?_;subst e'2;refine xE (hy.dq h1) fun t e'1=>?_;subst e'1;cases hx;exact⟨eq_int (EP.mk C (by rw[GD];exact .bool _)),ne_int (EP.mk C (by unfold bne;rw[GD];exact .bool _))⟩
  ·refine ar (om q) fun j h1 e'2=>?_;subst e'2;refine xE (hy.lY h1) fun t e'1=>?_;subst e'1;cases hx;exact⟨eq_str (EP.mk C (.bool _)),ne_str (EP.mk C (.bool _))⟩
noncomputable def vS(v:Value):Option Str:=v.casesOn none none none (fun _=>none) (fun _ _=>none) (fun _ _=>none) (fun s _=>some s) (fun _ _=>none) (fun _=>none) (fun _=>none) fun _=>none
def Eh(x y:Value):Bool:=((vS x).bind fun a=>(vS y).map fun b=>decide (a=b)).getD (x.casesOn false false false (fun _=>false) (fun i _=>y.casesOn false false false (fun _=>false) (fun j _=>i==j) (fun _ _=>false) (fun _ _=>false) (fun _ _=>false) (fun _=>false) (fun _=>false) fun _=>false) (fun _ _=>false) (fun _ _=>false) (fun _ _=>false) (fun _=>false) (fun _=>false) fun _=>false)
set_option tactic.hygienic true in
theorem nq{x v:AV}{wx w:Value}{b:Bool}(h:oU v x=some b)(hx:VR c.g W x wx)(hv:VR c.g W v w):SeqAt.EqAt A.in1 s w wx (Eh w wx)∧Eh w wx=b:=by
 cases v<;>(first|exact ns h|cases h|skip)
 ·refine ar (om h) fun j h1 e'2=>?_;subst e'2;refine xE (hx.dq h1) fun t e'1=>?_;subst e'1;cases hv;exact⟨fun _ _ _ _ hq=>wpAny_eqBool_int hq,(rfl:Eh _ _=(_==_)).trans (by simp[GD])⟩
 ·refine ar (om h) fun j h1 e'2=>?_;subst e'2;refine xE (hx.lY h1) fun t e'1=>?_;subst e'1;cases hv;refine⟨fun _ _ _ _ hq=>wpAny_eqBool_str hq,?_⟩;rename_i a _;show decide (a=j)=(a==j);by_cases z:a=j<;>simp[z]
theorem q_{x:AV}{wx:Value}(hx:VR c.g W x wx){vs:List AV}{ws:List Value}{b:Bool}(h:bg x vs=some b)(hv:bh c.g W vs ws):
 (∀y∈ws,SeqAt.EqAt A.in1 s y wx (Eh y wx))∧ws.any (fun y=>Eh y wx)=b:=by
 induction vs generalizing ws b with
 |nil=>cases hv;revert h;refine aJ fun h=>?_;subst h;exact⟨fun _ h=>(nomatch h),rfl⟩
 |cons v vs ih=>
  revert h;refine aO fun b1 e1 h=>?_;revert h;refine fQ fun r e2 h=>?_;subst h;cases hv with
  |cons h1 h2=>
   refine xA (ih e2 h2) fun q1 q2=>?_;refine⟨fun y hy=>?_,by exact aa List.any_cons (aa ((nq (A:=A) (s:=s) e1 hx h1).2) (aa q2 rfl))⟩;rcases Nv.mp hy with rfl|hy
   ·exact(nq (A:=A) (s:=s) e1 hx h1).1
   ·exact q1 y hy
set_option tactic.hygienic true in
theorem G9{x:AV}{kvs:List (Str×AV)}{wx:Value}{b:Bool}{a:Addr}{r i:Nat}(h:inD x kvs=some b)(hz:0<r+i)(ha:W.ad r i=some a)(e0:get H r i=some (.dict kvs))(C:CR c f s m lo H W)(hx:VR c.g W x wx):DQ c f A s m lo H W .In .NotIn wx (.ref a) b:=by
 refine vh (C.uO e0 ha) fun o ws p1 p2 hd hr'=>?_;revert hr';refine rA fun hv hm=>?_;have hb:(a==sysModules)=false:=beq_eq_false_iff_ne.mpr (OY (C.big _ _ _ ha hz));cases x<;>(first|exact ns h|(revert h;refine aJ fun h=>?_;subst h)|skip)
 ·revert h;refine dD fun hk h=>?_;clear e0;revert h;refine aJ fun h=>?_;subst h;cases hx with
  |int _ t=>
   rename_i i';cases kvs with
   |cons p l=>first|exact ns hk|exact gz hk
   |nil=>
    cases hv;revert hd;refine iB fun es ep k1 k2 k3 hr'=>?_;revert hr';refine rA fun k4 k5=>?_
    have he:es=#[]:=by
     have:=k4.length;apply Array.eq_empty_of_size_eq_zero;simpa using this
    clear k3 k4;subst he;have hm':s.heap.MapOf (intKind c.prog c.w) a (fun _=>none):=⟨o,#[],ep,p1,k1,k2,fun e he=>by simp at he,fun _=>rfl⟩;exact⟨wpAny_in_of (intKind_is c.prog c.w i' t) hb hm' (EP.mk (s:={s with toks:=s.toks+1}) C.tok (.bool _)),wpAny_notIn_of (intKind_is c.prog c.w i' t) hb hm' (EP.mk (s:={s with toks:=s.toks+1}) C.tok (.bool _))⟩
 ·cases hx with
  |str _ t=>
   rename_i x'
   have e:(valueAt ws x').isSome=(lk x' kvs).isSome:=by
    cases q:lk x' kvs with
    |none=>refine aa ((hv.at_ x').2 q) ?_;rfl
    |some u=>obtain⟨w,h1,_⟩:=(hv.at_ x').1 u q;refine aa h1 ?_;rfl
   refine⟨wpAny_in_of (strKind_is c.prog c.w x' t) hb hm.mapOf (EP.mk (s:={s with toks:=s.toks+1}) C.tok ?_),wpAny_notIn_of (strKind_is c.prog c.w x' t) hb hm.mapOf (EP.mk (s:={s with toks:=s.toks+1}) C.tok ?_)⟩
   ·refine aa e ?_;exact .bool _
   ·refine aa e ?_;exact .bool _
theorem F6(KO:eO c)(O:bW c f sc){x y:AV}{wx wy:Value}{b:Bool}(h:m9 H x y=some b)(C:CR c f s m lo H W)(hx:VR c.g W x wx)(hy:VR c.g W y wy)(hu:A.units+20<cLine):DQ c f A s m lo H W .In .NotIn wx wy b:=by
 cases y<;>(first|exact ns h|cases h|skip)
 ·revert h;refine dD fun _ h=>?_;refine bx (C.isTup KO O hy) fun a ws e'2 ht hr=>?_;refine aa e'2 ?_;refine xA (q_ (A:=A) (s:=s) hx h hr) fun q1 q2=>?_;refine⟨SeqAt.in_tupleAt (fun y=>Eh y wx) ht (fun y hy=>q1 y (by simpa using hy)) (EP.mk C ?_),SeqAt.notIn_tupleAt (fun y=>Eh y wx) ht (fun y hy=>q1 y (by simpa using hy)) (EP.mk C ?_)⟩
  ·refine aa List.any_toArray (aa q2 ?_);exact .bool _
  ·refine aa List.any_toArray (aa q2 ?_);exact .bool _
 ·revert h;refine aO fun ao e0 h=>?_;refine ar (hy.addr) fun a e'1 ha=>?_;refine aa e'1 ?_;cases ao<;>(first|exact ns h|cases h|skip)
  ·revert h;refine dD fun _ h=>?_;refine bx (C.isList e0 ha) fun ws n p1 p2 hr=>?_;refine xA (q_ (A:=A) (s:=s) hx h hr) fun q1 q2=>?_;refine⟨SeqAt.in_listAt (fun y=>Eh y wx) (ba p1) (fun y hy=>q1 y (by simpa using hy)) (EP.mk C ?_),SeqAt.notIn_listAt (fun y=>Eh y wx) (ba p1) (fun y hy=>q1 y (by simpa using hy)) (EP.mk C ?_)⟩
   ·refine aa List.any_toArray (aa q2 ?_);exact .bool _
   ·refine aa List.any_toArray (aa q2 ?_);exact .bool _
  ·revert h;refine dD fun hz h=>?_;exact G9 h (of_decide_eq_true hz) ha e0 C hx
theorem E6{op:CmpOp}{x y:Int}{t u:Tok}{b:Bool}(h:Hs op x y=some b)(C:CR c f s m lo H W):wpAny (model c.prog c.w) A (compareOp op (.int x t) (.int y u)) (EP c f m lo W (.bool b) H) aY s:=by
 cases op<;>cases h
 ·exact lt_int (EP.mk C (.bool _))
 ·exact le_int (EP.mk C (.bool _))
 ·exact gt_int (EP.mk C (.bool _))
 ·exact ge_int (EP.mk C (.bool _))
theorem A0(KO:eO c)(O:bW c f sc){op:CmpOp}{x y:AV}{wx wy:Value}{b:Bool}(h:yX H op x y=some b)(C:CR c f s m lo H W)(hx:VR c.g W x wx)(hy:VR c.g W y wy)(hu:A.units+20<cLine):
 wpAny (model c.prog c.w) A (compareOp op wx wy) (EP c f m lo W (.bool b) H) aY s:=by
 have ord:∀{op:CmpOp},(x.i?.bind fun x=>y.i?.bind fun y=>Hs op x y)=some b→wpAny (model c.prog c.w) A (compareOp op wx wy) (EP c f m lo W (.bool b) H) aY s:=fun{op}h=>by
  refine ar (ob h) fun i h1 h=>?_;refine ar (ob h) fun j h2 h=>?_;refine xE (hx.dq h1) fun t e'1=>?_;refine aa e'1 ?_;refine xE (hy.dq h2) fun u e'1=>?_;refine aa e'1 ?_;exact E6 h C
 cases op with
 |Eq=>exact(FX KO O h C hx hy hu).1
 |NotEq=>
  refine ar (om h) fun b' h2 e'2=>?_;subst e'2;exact(FX KO O h2 C hx hy hu).2
 |In=>exact(F6 KO O h C hx hy hu).1
 |NotIn=>
  refine ar (om h) fun b' h2 e'2=>?_;subst e'2;exact(F6 KO O h2 C hx hy hu).2
 |_=>exact ord h
end
end Hx
namespace Hx
open PySem PySem.W PyProof.Rows PySem.Calls
section
variable{prog:Program}{w:World}{A:Around}{E:Value→Shared→Prop}{s:Shared}
theorem zI{vs:List Value}(h:vs.length<2):(vs.toArray.zip vs.toArray).map (·.2)=vs.toArray:=by
 cases vs with
 |nil=>simp
 |cons a t=>
  cases t with
  |nil=>simp
  |cons b t=>exact absurd h (by simp)
theorem rK{a:Addr}{vs:List Value}{n:Nat}{P:PySem.Fin→Shared→Prop}(ho:s.heap.get? a=some (seqObj "list" vs.toArray n))(h2:vs.length<2)
 (h:P (.done (.ret .none)) {s with heap:=sortedHeap s.heap a vs vs.toArray}):wpAny (model prog w) A (Builtin.«list.sort» ⟨[.ref a],[]⟩) P E s:=by
 rw[list_sort_plain];have hs:vs.toArray.size<2:=by exact h2
 refine wpAny_bind (listItems_at ho rfl (wpAny_bind (listUpdate_at ho rfl ?_)));obtain⟨e1,ho1⟩:∃e1,(s.heap.update a (Obj.mapSeq fun _=>#[])).get? a=some (seqObj "list" #[] e1):=⟨_,get?_update_seq ho fun _=>#[]⟩;refine wpAny_bind (seqEpoch_at ho1 rfl (wpAny_bind (wpAny_newTuple (wpAny_bind (wpAny_newList (wpAny_holding ?_))) (by refine aa Array.length_toList (aa sizeLine_eq ?_);exact HZ hs))))
 have ho6:(((s.heap.update a (Obj.mapSeq fun _=>#[])).push (seqObj "tuple" vs.toArray 0)).push (seqObj "list" #[] 0)).get? a=some (seqObj "list" #[] e1):=
  Heap.get?_push_of_some _ (Heap.get?_push_of_some _ ho1)
 refine(?_:wpAny (model prog w) A _ P E {s with heap:=((s.heap.update a (Obj.mapSeq fun _=>#[])).push (seqObj "tuple" vs.toArray 0)).push (seqObj "list" #[] 0)});refine aa (if_pos hs) (aa (if_pos hs) ?_);refine wpAny_bind (wpAny_pure ?_);refine wpAny_bind (wpAny_pure ?_);dsimp only
 have e:(arrOf (SortSt.mk' general' (vs.toArray.zip vs.toArray) #[] 7 none)).map (·.2)=vs.toArray:=by
  exact zI h2
 refine wpAny_bind (seqEpoch_at ho6 rfl (wpAny_bind (listUpdate_at ho6 rfl ?_ (hsz2:=?_))))
 ·simp only[bne_self_eq_false];refine wpAny_pure ?_;unfold sortedHeap at h;simpa only[e]using h
 ·refine(?_:Array.size (Array.map (·.2) (arrOf (SortSt.mk' general' (vs.toArray.zip vs.toArray) #[] 7 none)))≤_);refine aa e (aa sizeLine_eq ?_);exact(LA [_,_] V0 (Sx V1) (Sx V0) (.k 2) rfl hs)
theorem oW{l:Addr}{vs:List Value}{Q:Value→Shared→Prop}(hl:s.heap.IsList l vs.toArray)(h2:vs.length<2)
 (h:Q (.ref (s.heap.objs.size+1)) {s with heap:=sortedAll s.heap vs vs.toArray}):wpAny (model prog w) A (call (.builtin "sorted") [.ref l]) Q E s:=by
 refine Calls.call_function_entry kind_sorted plain_sorted entry_sorted (args_sorted1 _) ?_;refine wpAny_bind (m:=checkCount "sorted" 1 1 _) (wpAny_pure (wpAny_bind (collect_list hl (wpAny_bind (wpAny_newList ?_ (by refine aa sizeLine_eq ?_;exact HZ h2))) (by refine aa sizeLine_eq ?_;exact HZ h2))));have hsz:((s.heap.push (seqObj "list" #[] 0)).update s.heap.objs.size (Obj.mapSeq (· ++vs.toArray))).objs.size=s.heap.objs.size+1:=by rw[Heap.size_update,size_push']
 have hoL:(((s.heap.push (seqObj "list" #[] 0)).update s.heap.objs.size (Obj.mapSeq (· ++vs.toArray))).push (seqObj "list" vs.toArray 0)).get? (s.heap.objs.size+1)=some (seqObj "list" vs.toArray 0):=by
  refine bR hsz ?_;exact Heap.get?_push_size _ rfl
 refine aa hsz ?_;exact wpAny_bind (wpAny_holding (wpAny_call_entry slot_list_sort ⟨_,hoL,rfl⟩ entry_list_sort (rK hoL h2 ⟨_,rfl,wpAny_pure ⟨_,rfl,h⟩⟩) (args_list_sort _)))
end
theorem vc:kas_sort 2=.ask 1 0 fun b=>if b=true then .ret #[1,0]else .ret #[0,1]:=by
 refine congrArg (KasT.ask 1 0) (funext fun b=>?_);cases b<;>rfl
section
variable{c:Cx}{f:Fm}{sc:Scope}{s:Shared}{m:Str→Option Value}{lo:Lo}{H:AH}{W:Wd}{A:Around}
theorem Cd(KO:eO c)(O:bW c f sc){x:AV}{p:Str×Str}{w:Value}(h:jX x=some p)(C:CR c f s m lo H W)(hw:VR c.g W x w):∃a t y,w=.ref a∧IsTup s.heap a #[.str p.1 t,y]:=by
 revert h;refine aO fun l h1 h=>?_;revert h;refine aO fun q h2 h=>?_;revert h;refine aO fun a1 h3 h=>?_;revert h;refine fQ fun b1 h4 h=>?_;subst h;have:=AV.zM h1;clear h1;subst this;refine bx (C.isTup KO O hw) fun a ws e'2 ht hr=>?_;clear hw;subst e'2;refine bx (hr.h8 h2) fun u v e'2 hu hv=>?_;clear hr;subst e'2;refine xE (hu.lY h3) fun t e'1=>?_;clear h2 h3 h4 hu hv l q;subst e'1;exact⟨a,t,v,rfl,ht⟩
theorem lW(KO:eO c)(O:bW c f sc){r:Nat}{x1 x2:AV}{p q:Str×Str}{w1 w2:Value}{b:Bool}{v:AV}{H':AH}{a:Addr}(h1:jX x1=some p)(h2:jX x2=some q)
 (hne:q.1≠p.1)(hlt:decide (q.1.cps.toList<p.1.cps.toList)=b)(hl:s.heap.IsList a #[w1,w2])(hb:1<a)(ha:∃o,(a,o)∈W.all)
 (h:newList H r (if b=true then[x2,x1]else[x1,x2])=some (v,H')) (C:CR c f s m lo H W) (hv1:VR c.g W x1 w1) (hv2:VR c.g W x2 w2):
 wpAny (model c.prog c.w) A (call (.builtin "sorted") [.ref a]) (EP c f m lo W v H') aY s:=by
 refine kat_sorted (vs:=[w1,w2]) C.F C.N hl (NQ 2) (by show 2<64;decide) fun D e1 h' F' N' lt=>?_;have C':CR c f {s with heap:=h'} m lo H W:=⟨F',fun p hp=>N' p (.tail _ hp),C.ap,C.big,C.hr,C.lv,C.gens,C.os⟩;refine C8 (Cd KO O h1 C' hv1) fun a1 t1 y1 e'3 o1 hr'=>?_;clear hl;subst e'3;revert hr';refine JG fun g1 k1 n1 d1=>?_;refine C8 (Cd KO O h2 C' hv2) fun a2 t2 y2 e'3 o2 hr'=>?_;subst e'3;revert hr';refine JG fun g2 k2 n2 d2=>?_;refine kat_kind (fs:=[.str p.1 t1,.str q.1 t2]) (T:=.type "str") (.cons g1 k1 d1 rfl (.cons g2 k2 d2 rfl .nil)) (by show 0<2;decide) (fun u hu=>?_) rfl ?_
 ·rcases Nv.mp hu with rfl|hu
  ·exact .now
  ·rcases Nv.mp hu with rfl|hu
   ·exact .now
   ·clear k1 k2;cases hu
 show(kas_sort 2).kasWp _ _ _;refine aa vc ?_;show wpAny (model c.prog c.w) A.in1.in1 (keyLt' (tuples' true) (.ref a2) (.ref a1)) _ _ _;refine kat_lt g2 d2 g1 d1 (kat_cons (wpAny_eqBool_str ?_));refine aa (decide_eq_false hne) ?_;refine kat_no (oneLt_str ?_);refine aa hlt ?_;revert ha;refine rE fun o ho=>?_;have hD:1<D:=N_ hb (lt _ ho)
 have fin:∀(zs:List AV)(us:List Value),newList H r zs=some (v,H')→bh c.g W zs us→KasFin f.h₀ f.env.locals m D e1 us (fun s3=>EP c f m lo W v H' (.ref D) s3) {s with heap:=h'}:=fun zs us h hr=>by
  revert h;refine dD fun _ h=>?_;refine .intro F' N' (.head fun p hp=>Oa (lt p hp)) fun h'' c' F'' N''=>?_;refine gS (C.Jw (k:=s.toks) h (fun p hp=>Oa (lt p hp)) hD F'' N'' ⟨us,c',rfl,hr⟩) fun C2 l hr'=>?_;exact⟨_,C2,l,hr'⟩
 clear C C' F' KO N' O d1 d2 g1 g2 h1 h2 hD hb hlt hne ho k1 k2 lt n1 n2 o o1 o2 p t1 t2 y1 y2;cases b with
 |true=>exact fin _ _ h (.cons hv2 (.cons hv1 .nil))
 |false=>exact fin _ _ h (.cons hv1 (.cons hv2 .nil))
end
end Hx
namespace Hx
open PySem PySem.W PyProof.Rows PySem.Calls
section
variable{c:Cx}{f:Fm}{sc:Scope}{s:Shared}{m:Str→Option Value}{lo:Lo}{H:AH}{W:Wd}{A:Around}
theorem CR.same(C:CR c f s m lo H W){h':Heap}{k:Tok}(F':Fr f.h₀ f.env.locals h' m)(N':News f.h₀ f.env.locals h' W.all):CR c f {s with heap:=h',toks:=k} m lo H W:=
 ⟨F',N',C.ap,C.big,C.hr,C.lv,C.gens,C.os⟩
theorem oM:∀{l:List Int}{M:Int},dQ l=some M→M∈l∧∀a∈l,a≤M
 |[],_=>fun h=>by simp[dQ]at h
 |x::l,M=>fun h=>by
  simp only[dQ,Option.some.injEq]at h;subst h
  have:∀(l:List Int)(x:Int),(l.foldl (fun a b=>if a<b then b else a) x=x∨l.foldl (fun a b=>if a<b then b else a) x∈l)∧x≤l.foldl (fun a b=>if a<b then b else a) x∧∀a∈l,a≤l.foldl (fun a b=>if a<b then b else a) x:=by
   intro l
   induction l with
   |nil=>intro x;exact⟨.inl rfl,Int.le_refl _,fun _ h=>(nomatch h)⟩
   |cons y l ih=>
    intro x;refine aa List.foldl_cons ?_;by_cases q:x<y
    ·simp only[q,if_true];refine gS (ih y) fun h1 h2 h3=>?_;refine⟨.inr ?_,Int.le_of_lt (OP q h2),fun a ha=>?_⟩
     ·rcases h1 with h1|h1
      ·refine aa h1 ?_;exact .head _
      ·exact .tail _ h1
     ·rcases Nv.mp ha with rfl|ha
      ·exact h2
      ·exact h3 a ha
    ·simp only[q,if_false];refine gS (ih x) fun h1 h2 h3=>?_;refine⟨h1.imp id fun h=>.tail _ h,h2,fun a ha=>?_⟩;rcases Nv.mp ha with rfl|ha
     ·exact Int.le_trans (Int.not_lt.mp q) h2
     ·exact h3 a ha
  refine gS (this l x) fun h1 h2 h3=>?_;refine⟨?_,fun a ha=>?_⟩
  ·rcases h1 with h1|h1
   ·refine aa h1 ?_;exact .head _
   ·exact .tail _ h1
  ·rcases Nv.mp ha with rfl|ha
   ·exact h2
   ·exact h3 a ha
theorem zB(KO:eO c)(O:bW c f sc){r r1 i1:Nat}{xs ys:List AV}{v:AV}{H':AH}{a:Addr}(hg:get H r1 i1=some (.list xs))(ha:W.ad r1 i1=some a)(hz:0<r1+i1)(h1:nu xs=some ys)(h:newList H r ys=some (v,H'))(C:CR c f s m lo H W)
 (hu:A.units+100<cLine)(hh:A.handled=none):wpAny (model c.prog c.w) A (call (.builtin "sorted") [.ref a]) (EP c f m lo W v H') aY s:=by
 refine bx (C.isList hg ha) fun ws n q1 q2 q3=>?_;have hl:=ba q1
 have short:∀(zs:List AV),newList H r zs=some (v,H')→bh c.g W zs ws→ws.length<2→wpAny (model c.prog c.w) A (call (.builtin "sorted") [.ref a]) (EP c f m lo W v H') aY s:=fun zs h hr h2=>by
  revert h;refine dD fun _ h=>?_;refine oW hl h2 ?_;refine xE (sortedAll_at s.heap ws ws.toArray) fun e he=>?_;refine gS (C.new (k:=s.toks) h (Heap.get?_none_of_le (Oe _)) (Om (C.low O)) (fun _ _=>sortedAll_old) he ⟨ws,e,rfl,hr⟩) fun C' l hr'=>?_;exact⟨_,C',l,hr'⟩
 clear hg;cases xs with
 |nil=>cases h1;clear q1 q2;cases q3;exact short [] h .nil (by decide)
 |cons x l=>
  revert h1;refine aO fun p e1 h1=>?_;clear hu q1 q2;cases l with
  |nil=>clear hh n;revert h1;refine aJ fun h1=>?_;subst h1;exact short _ h q3 (by refine aa q3.length ?_;exact NT 1)
  |cons y l=>
   revert h1;refine aO fun _ e2 h1=>?_;revert h1;refine aO fun q e3 h1=>?_;rw[ik e2]at q3;clear e2 hh l n short;cases q3 with
   |cons g1 q3=>
   cases q3 with
   |cons g2 q3=>
   cases q3;refine ar (C.addr ha) fun o hp _=>?_;have hm:∃o,(a,o)∈W.all:=⟨o,Wd.bP hp⟩;obtain⟨pa,pb⟩:=p;obtain⟨qa,qb⟩:=q;have h1:(if(pa==("class":Str)&&qa==("id":Str))=true then some [x,y]else if(pa==("id":Str)&&qa==("class":Str))=true then some [y,x]else none)=some ys:=h1;by_cases z:(pa==("class":Str)&&qa==("id":Str))=true
   ·rw[if_pos z]at h1;refine xA ((ND _ _).mp z) fun z1 z2=>?_;have z1:=eq_of_beq z1;have z2:=eq_of_beq z2;clear hp;subst z1;subst z2;cases h1;exact lW KO O (b:=false) e1 e3 (show(Str.ofString "id")≠Str.ofString "class" by decide) (show decide ((Str.ofString "id").cps.toList<(Str.ofString "class").cps.toList)=false by decide) hl (C.big _ _ _ ha hz) hm h C g1 g2
   ·rw[if_neg z]at h1;revert h1;refine dD fun z h1=>?_;refine xA ((ND _ _).mp z) fun z1 z2=>?_;have z1:=eq_of_beq z1;have z2:=eq_of_beq z2;clear hp z;subst z1;clear z z1;subst z2;clear z2;cases h1;exact lW KO O (b:=true) e1 e3 (show(Str.ofString "class")≠Str.ofString "id" by decide) (show decide ((Str.ofString "class").cps.toList<(Str.ofString "id").cps.toList)=true by decide) hl (C.big _ _ _ ha hz) hm h C g1 g2
theorem kG(C:CR c f s m lo H W){h':Heap}{o:Obj}{k:Tok}{v:AV}(hk:∀b o,s.heap.get? b=some o→h'.get? b=some o) (hf:o.isFreed=false)
 (hv:VR c.g (W.bq h'.objs.size o) v (.ref h'.objs.size)):EP c f m lo W v H (.ref h'.objs.size) {s with heap:=h'.push o,toks:=k}:=by
 have hn:s.heap.get? h'.objs.size=none:=by
  cases q:s.heap.get? h'.objs.size with
  |none=>rfl
  |some o=>exact absurd (Heap.lt_size (hk _ _ q)) (Oc _)
 exact⟨_,C.rM hn (fun b o' e=>Heap.get?_push_of_some _ (hk b o' e)) (Heap.get?_push_size _ hf),hM ..,hv⟩
theorem kC{args:List AV}{xs:List AV}{ws:List Value}(h:nZ H args=some xs)(C:CR c f s m lo H W)(hv:bh c.g W args ws):
 ∃r i a vs n,get H r i=some (.list xs)∧W.ad r i=some a∧ws=[.ref a]∧s.heap.get? a=some (listOf vs.toArray n)∧bh c.g W xs vs:=by
 revert h;refine aO fun v h1 h=>?_;revert h;refine aO fun l h2 h=>?_;refine ar (hv.one? h1) fun w e'1 hw=>?_;refine aa e'1 ?_;refine ar (hw.we h2) fun a e'1 ha=>?_;refine aa e'1 ?_;refine bx (C.isList (a_ h) ha) fun vs n q1 q2 q3=>?_;exact⟨_,_,a,vs,n,a_ h,ha,rfl,q1,q3⟩
theorem bh.hY{g:Gm}{xs:List AV}{vs:List Value}(r:bh g W xs vs)(h:xs.length<ab):vs.toArray.size≤sizeLine:=by
 refine aa NI (aa r.length (aa sizeLine_eq ?_));unfold ab at h;exact kh h
section
variable{r:Nat}{v:AV}{args:List AV}{ws:List Value}{H':AH}
theorem D2(h:IL H args=some (v,H'))(C:CR c f s m lo H W)(hv:bh c.g W args ws):wpAny (model c.prog c.w) A (call (.builtin "len") ws) (EP c f m lo W v H') aY s:=by
 revert h;refine aO fun xs h1 h=>?_;revert h;refine dD fun hl h=>?_;revert h;refine Dj ?_;refine iF (kC h1 C hv) fun _ _ a vs n hr'=>?_;revert hr';refine nj fun _ _ e'2 q1 q3=>?_;refine aa e'2 ?_;refine Calls.call_len_list (ba q1) (by refine aa NI (aa q3.length ?_);unfold ab at hl;lia) ?_;refine aa NI (aa q3.length ?_);exact EP.mk C.tok (.int _ _)
theorem D3(hh:A.handled=none)(h:IM H args=some (v,H'))(C:CR c f s m lo H W)(hv:bh c.g W args ws):wpAny (model c.prog c.w) A (call (.builtin "max") ws) (EP c f m lo W v H') aY s:=by
 revert h;refine aO fun xs h1 h=>?_;revert h;refine fQ fun M h2 h=>?_;revert h;refine su ?_;revert h2;refine aO fun l e3 e4=>?_;refine iF (kC h1 C hv) fun _ _ a vs n hr'=>?_;revert hr';refine nj fun _ _ e'2 q1 q3=>?_;clear hv;subst e'2;refine xA (oM e4) fun m1 m2=>?_;refine max_list_N hh C.F C.N (ba q1) (oF e3 q3) (List.length_pos_of_mem m1) fun h' M' t tk F' N' m3 m4=>?_;have:M'=M:=Int.le_antisymm (m2 _ m3) (m4 _ m1);clear e4 m1 m2;subst this;exact EP.mk (C.same F' N') (.int _ _)
theorem D4(hh:A.handled=none)(h:IP H args=some (v,H'))(C:CR c f s m lo H W)(hv:bh c.g W args ws):wpAny (model c.prog c.w) A (call (.builtin "sum") ws) (EP c f m lo W v H') aY s:=by
 revert h;refine aO fun xs h1 h=>?_;revert h;refine fQ fun l e1 h=>?_;revert h;refine su ?_;refine iF (kC h1 C hv) fun _ _ a vs n hr'=>?_;revert hr';refine nj fun _ _ e'2 q1 q3=>?_;refine aa e'2 ?_;exact sumK hh C.F C.N (ba q1) (oF e1 q3) fun h' tk t' F' N'=>EP.mk (C.same F' N') (.int _ _)
theorem uk(KO:eO c)(O:bW c f sc)(hu:A.units+100<cLine)(hh:A.handled=none)(h:n7 H r args=some (v,H'))(C:CR c f s m lo H W)(hv:bh c.g W args ws):wpAny (model c.prog c.w) A (call (.builtin "sorted") ws) (EP c f m lo W v H') aY s:=by
 revert h;refine aO fun u h1 h=>?_;revert h;refine aO fun l h2 h=>?_;revert h;refine dD fun hz h=>?_;revert h;refine aO fun xs h3 h=>?_;revert h;refine aO fun ys h4 h=>?_;refine ar (hv.one? h1) fun w e'1 hw=>?_;refine aa e'1 ?_;refine ar (hw.we h2) fun a e'1 ha=>?_;refine aa e'1 ?_;exact zB KO O (a_ h3) ha hz h4 h C hu hh
theorem D0(h:II H args=some (v,H'))(C:CR c f s m lo H W)(hv:bh c.g W args ws):wpAny (model c.prog c.w) A (call (.builtin "chr") ws) (EP c f m lo W v H') aY s:=by
 revert h;refine aO fun u h1 h=>?_;revert h;refine aO fun k h2 h=>?_;revert h;refine dD fun hk h=>?_;revert h;refine Dj ?_;refine ar (hv.one? h1) fun w e'1 hw=>?_;refine aa e'1 ?_;refine xE (hw.dq h2) fun t e'1=>?_;refine aa e'1 ?_;exact chr_of_range (by exact hk.1) (Int.le_of_lt (OH hk.2 (by decide))) (EP.mk (s:={s with toks:=s.toks+1}) C.tok (.str _ _))
theorem D1(h:IK H args=some (v,H'))(C:CR c f s m lo H W)(hv:bh c.g W args ws):wpAny (model c.prog c.w) A (call (.builtin "isinstance") ws) (EP c f m lo W v H') aY s:=by
 revert h;refine aO fun p h1 h=>?_;revert h;refine dD fun ht h=>?_;revert h;refine fQ fun b h2 h=>?_;revert h;refine su ?_;obtain⟨x,y⟩:=p;refine bx (hv.h8 h1) fun w z e'2 hw hz=>?_;clear h1 hv;subst e'2;cases y<;>(first|exact ns ht|exact gz ht|skip);have ht':=beq_iff_eq.mp ht;clear ht;subst ht';cases hz;cases x<;>(first|exact ns h2|cases h2|skip)
 ·cases hw;exact IsiPair.int_str (EP.mk (s:={s with toks:=s.toks+1}) C.tok (.bool _))
 ·cases hw;exact call_isinstance_yes (typeIs_str _ _ _) meta_str sub_str_str (EP.mk C (.bool _))
theorem yN(h:uh H args=some (v,H'))(C:CR c f s m lo H W)(hv:bh c.g W args ws):wpAny (model c.prog c.w) A (call (.type "range") ws) (EP c f m lo W v H') aY s:=by
 cases args with
 |nil=>first|exact ns h|cases h
 |cons u l=>
  revert h;refine aO fun a h1 h=>?_;cases hv with
  |cons hu hv=>
  refine xE (hu.dq h1) fun t e'1=>?_;subst e'1;cases l with
  |nil=>
   revert h;refine dD fun hs h=>?_;revert h;refine Dj ?_;cases hv;exact call_range_1 (kG (k:=s.toks+1+1) C (fun b o e=>e) rfl (.kf (.head _)))
  |cons x l=>
   revert h;refine aO fun b h2 h=>?_;revert h;refine dD fun hs h=>?_;cases hv with
   |cons hx hv=>
   refine xE (hx.dq h2) fun t2 e'1=>?_;subst e'1;cases l with
   |nil=>
    revert h;refine Dj ?_;cases hv;exact call_range_2 (kG (k:=s.toks+1) C (fun b o e=>e) rfl (.kf (.head _)))
   |cons z l=>
    revert h;refine aO fun _ h3 h=>?_;revert h;refine aO fun k h4 h=>?_;revert h;refine dD fun hk h=>?_;revert h;refine Dj ?_;rw[ik h3]at hv;refine ar (hv.one? rfl) fun w e'1 hw=>?_;clear hv;subst e'1;refine xE (hw.dq h4) fun t3 e'1=>?_;clear hw;subst e'1;clear h4;subst hk;exact call_range_3 (by decide) (kG (k:=s.toks) C (fun b o e=>e) rfl (.kf (.head _))) (.inl (PyProof.noPylong_small (by decide)))
theorem rJ{a:Addr}{o:Obj}{vs:List AV}{us:List Value}{nn:Nat}(O:bW c f sc)(h:newList H r vs=some (v,H'))(C:CR c f s m lo H W)(ho:s.heap.get? a=some o)(hc:o.cls=.type "list"∨o.cls=.type "tuple")(hd:o.data=.seq us.toArray nn)(hr:bh c.g W vs us):
 wpAny (model c.prog c.w) A (call (.type "list") [.ref a]) (EP c f m lo W v H') aY s:=by
 revert h;refine dD fun hl h=>?_
 have fin:∀(h':Heap)(c':Nat),(∀b o,s.heap.get? b=some o→h'.get? b=some o)→h'.get? s.heap.objs.size=some (listOf us.toArray c')→EP c f m lo W v H' (.ref s.heap.objs.size) {s with heap:=h'}:=fun h' c' hk hD=>by
  refine gS (C.new h (k:=s.toks) (gG _) (C.low O) hk hD ⟨us,c',rfl,hr⟩) fun C' l hr'=>?_;exact⟨_,C',l,hr'⟩
 rcases hc with hc|hc
 ·exact call_list_seq (hsz:=hr.hY hl) a (.inl rfl) ho hc hd fin
 ·exact call_list_seq (hsz:=hr.hY hl) a (.inr rfl) ho hc hd fin
theorem AL(KO:eO c)(O:bW c f sc)(h:AJ H r args=some (v,H'))(C:CR c f s m lo H W)(hv:bh c.g W args ws):wpAny (model c.prog c.w) A (call (.type "list") ws) (EP c f m lo W v H') aY s:=by
 revert h;refine aO fun u h1 h=>?_;refine ar (hv.one? h1) fun w e'1 hw=>?_;clear h1 hv;subst e'1;cases u<;>(first|exact ns h|cases h|skip)
 ·obtain⟨a,us,rfl,⟨o,ho,hc,k,hd⟩,hr⟩:=C.isTup KO O hw;exact rJ O h C ho (.inr hc) hd hr
 ·revert h;refine aO fun xs e h=>?_;refine ar (hw.addr) fun a e'1 ha=>?_;refine aa e'1 ?_;refine bx (C.isList (a_ e) ha) fun vs n q1 q2 q3=>?_;exact rJ O h C q1 (.inl rfl) rfl q3
theorem yO(h:AM H args=some (v,H'))(C:CR c f s m lo H W)(hv:bh c.g W args ws):wpAny (model c.prog c.w) A (call (.type "tuple") ws) (EP c f m lo W v H') aY s:=by
 revert h;refine aO fun xs h1 h=>?_;revert h;refine dD fun hl h=>?_;revert h;refine Dj ?_;refine iF (kC h1 C hv) fun _ _ a vs n hr'=>?_;revert hr';refine nj fun _ _ e'2 q1 q3=>?_;refine aa e'2 ?_;exact call_tuple_list (hsz:=q3.hY hl) (ba q1) fun h' hk=>kG (k:=s.toks) C hk rfl (.tup (n:=0) (ws:=vs) (.head _) (q3.mono (hM ..).eR))
set_option tactic.hygienic true in
theorem AS(KO:eO c)(O:bW c f sc){g:AV}{wg:Value}(h:vE H r g args=some (v,H'))(C:CR c f s m lo H W)(hg:VR c.g W g wg)(hv:bh c.g W args ws)
 (hu:A.units+100<cLine)(hh:A.handled=none):wpAny (model c.prog c.w) A (call wg ws) (EP c f m lo W v H') aY s:=by
 cases g<;>(first|exact ns h|cases h|skip)
 ·rename_i id;have h:oj H r id args=some (v,H'):=h;cases hg;unfold oj at h;by_cases q:id="len"
  ·rw[if_pos q]at h;subst q;exact D2 h C hv
  rw[if_neg q]at h;by_cases q:id="max"
  ·rw[if_pos q]at h;subst q;exact D3 hh h C hv
  rw[if_neg q]at h;by_cases q:id="sum"
  ·rw[if_pos q]at h;subst q;exact D4 hh h C hv
  rw[if_neg q]at h;by_cases q:id="sorted"
  ·rw[if_pos q]at h;subst q;exact uk KO O hu hh h C hv
  rw[if_neg q]at h;by_cases q:id="chr"
  ·rw[if_pos q]at h;refine aa q ?_;exact D0 h C hv
  rw[if_neg q]at h;revert h;refine dD fun q h=>?_;refine aa q ?_;exact D1 h C hv
 ·rename_i n;have h:uo H r n args=some (v,H'):=h;cases hg;unfold uo at h;by_cases q:n="range"
  ·rw[if_pos q]at h;subst q;exact yN h C hv
  rw[if_neg q]at h;by_cases q:n="list"
  ·rw[if_pos q]at h;refine aa q ?_;exact AL KO O h C hv
  rw[if_neg q]at h;revert h;refine dD fun q h=>?_;refine aa q ?_;exact yO h C hv
end
end
end Hx
namespace Hx
open PySem PySem.W PyProof.Rows PySem.Calls
def FR(g:Gm)(W:Wd):AF→Flow→Prop
 |.next,fl=>fl=.next
 |.brk,fl=>fl=.brk
 |.ret v,fl=>∃w,fl=.ret w∧VR g W v w
structure kA (W W':Wd):Prop where
 ad:∀r i a,W.ad r i=some a→W'.ad r i=some a
 tp:∀p∈W.tp,p∈W'.tp
 z:∀p,W.pt 0 0=some p→W'.pt 0 0=some p
 ex:W'.ex=W.ex
theorem kA.refl(W:Wd):kA W W:=⟨fun _ _ _ h=>h,fun _ h=>h,fun _ h=>h,rfl⟩
theorem kA.trans{A B C:Wd}(x:kA A B)(y:kA B C):kA A C:=⟨fun r i a h=>y.ad r i a (x.ad r i a h),fun p h=>y.tp p (x.tp p h),fun p h=>y.z p (x.z p h),y.ex.trans x.ex⟩
theorem kA.eR{W W':Wd}(x:kA W W'):jc W W':=⟨x.ad,x.tp⟩
theorem Le.lex{W W':Wd}(x:Le W W'):kA W W':=⟨x.ad,x.tp,x.z,x.ex⟩
def XP(c:Cx)(f:Fm)(W:Wd)(af:AF)(lo':Lo)(H':AH)(fl:Flow)(s':Shared):Prop:=
 ∃m' W',CR c f s' m' lo' H' W'∧kA W W'∧FR c.g W' af fl
theorem Bu{α:Type}{M:Model}{A:Around}{p:Sem α}{Q:α→Shared→Prop}{E:Value→Shared→Prop}{s:Shared}(h:∀(Q':α→Shared→Prop)(E':Value→Shared→Prop),(∀a s',Q a s'→Q' a s')→wpAny M A p Q' E' s):wpAny M A p Q E s:=h Q E fun _ _ q=>q
theorem IB{c:Cx}{f:Fm}{lo2 lo':Lo}{W:Wd}{H2 H':AH}{M:Model}{A:Around}{s:Shared}{p:Sem Flow}{v v':AF}(k:wpAny M A p (XP c f W v lo2 H2) aY s):some (v,lo2,H2)=some (v',lo',H')→wpAny M A p (XP c f W v' lo' H') aY s:=fun h=>by revert h;refine CF fun h q1 q2=>?_;subst h q1 q2;exact k
theorem Gv{c:Cx}{f:Fm}{lo2 lo':Lo}{W:Wd}{H2 H':AH}{M:Model}{A:Around}{s:Shared}{p:Sem Flow}{v v':AF}(k:wpAny M A p (XP c f W v lo2 H2) aY s):(v,lo2,H2)=(v',lo',H')→wpAny M A p (XP c f W v' lo' H') aY s:=fun h=>by revert h;refine du fun h q1=>?_;subst h;revert q1;refine du fun q1 q2=>?_;subst q1 q2;exact k
def LP(c:Cx)(f:Fm)(m:Str→Option Value)(lo:Lo)(W:Wd)(vs:List AV)(H':AH)(ws:List Value)(s':Shared):Prop:=
 ∃W',CR c f s' m lo H' W'∧Le W W'∧bh c.g W' vs ws
set_option backward.match.sparseCases true in
def RP(Q:Value→Shared→Prop):Result→Shared→Prop:=fun r s'=>match r with
 |.ok (.ret v)=>Q v s'
 |.ok _=>False
 |.error e=>aY e s'
structure kN (c:Cx) (n:Nat) (cal:je):Prop where
 Mz:∀{k:Nat}{args:List AV}{H:AH}{v:AV}{H':AH},cal k args H=some (v,H')→keepIn c.K (.ref (c.g.ga k))=true
 ok:∀{f:Fm}{sc:Scope}{s:Shared}{m:Str→Option Value}{lo:Lo}{H:AH}{W:Wd}{A:Around}{k:Nat}{args:List AV}{v:AV}{H':AH}{ws:List Value},
  bW c f sc→cU n 0 A→CR c f s m lo H W→cal k args H=some (v,H')→bh c.g W args ws→
  codeAny (model c.prog c.w) A (.call (.ref (c.g.ga k)) ⟨ws,[]⟩) (RP (EP c f m lo W v H')) s
def IA(c:Cx)(n d:Nat)(r:EV):Prop:=∀{f:Fm}{sc csc:Scope}{s:Shared}{m:Str→Option Value}{lo:Lo}{H:AH}{W:Wd}{A:Around}{elt:Expr}{gens:List Comprehension}{p px ps:Pos}{x:Str}{v:AV}{H':AH},
    bW c f sc→cU n d A→CR c f s m lo H W→r.e sc lo (.ListComp elt gens csc p) H=some (v,H')→f.env.kindOf x=some .local→
    swapsWith (.ListComp elt gens csc p) (some (.Name x px)) ps.line f.env=pure true→
    wpAny (model c.prog c.w) A (exec (.Assign [.Name x px] (.ListComp elt gens csc p) ps) f.env) (XP c f W .next (pt x v lo) H') aY s
structure e_ (c:Cx) (n d:Nat) (r:EV):Prop where
 star:∀sc lo a p H,r.e sc lo (.Starred a p) H=none
 slice:∀sc lo a b k p H,r.e sc lo (.Slice a b k p) H=none
 Lr:∀sc lo a k p H,r.e sc lo (.Set a k p) H=none
 e:∀{f:Fm}{sc:Scope}{s:Shared}{m:Str→Option Value}{lo:Lo}{H:AH}{W:Wd}{A:Around}{ex:Expr}{v:AV}{H':AH},
  bW c f sc→cU n d A→CR c f s m lo H W→r.e sc lo ex H=some (v,H')→wpAny (model c.prog c.w) A (eval ex f.env) (EP c f m lo W v H') aY s
 t:∀{f:Fm}{sc:Scope}{s:Shared}{m:Str→Option Value}{lo:Lo}{H:AH}{W:Wd}{A:Around}{ex:Expr}{v:Bool}{H':AH},
  bW c f sc→cU n d A→CR c f s m lo H W→r.t sc lo ex H=some (v,H')→wpAny (model c.prog c.w) A (isTrue ex f.env (eval ex f.env)) (BP c f m lo W v H') aY s
 x:∀{f:Fm}{sc:Scope}{s:Shared}{m:Str→Option Value}{lo:Lo}{H:AH}{W:Wd}{A:Around}{st:Stmt}{af:AF}{lo':Lo}{H':AH},
  bW c f sc→cU n d A→CR c f s m lo H W→r.x sc lo st H=some (af,lo',H')→wpAny (model c.prog c.w) A (exec st f.env) (XP c f W af lo' H') aY s
 u:IA c n d r
section
variable{c:Cx}{f:Fm}{sc:Scope}{s:Shared}{m:Str→Option Value}{lo:Lo}{H:AH}{W:Wd}{A:Around}{n d:Nat}{r:EV}{cal:je}
theorem a7{α β:Type}{M:Model}{A:Around}{x:Sem α}{P Q:α→Shared→Prop}{s:Shared}(h:wpAny M A x P aY s)(k:∀a s',P a s'→Q a s'):wpAny M A x Q aY s:=
 wpAny_mono h (fun a s' p=>k a s' p) fun _ _ e=>e
theorem ip{x:Sem Value}{v:AV}{H':AH}{M:Model}{Q:Value→Shared→Prop}{E:Value→Shared→Prop}(h:wpAny M A x (EP c f m lo W v H') aY s)(k:∀w s' W',CR c f s' m lo H' W'→Le W W'→VR c.g W' v w→Q w s'):wpAny M A x Q E s:=
 wpAny_mono h (fun _ _ p=>bV p (k _ _)) fun _ _ e=>e.elim
theorem KL{x:Sem (List Value)}{v:List AV}{H':AH}{M:Model}{Q:List Value→Shared→Prop}{E:Value→Shared→Prop}(h:wpAny M A x (LP c f m lo W v H') aY s)(k:∀w s' W',CR c f s' m lo H' W'→Le W W'→bh c.g W' v w→Q w s'):wpAny M A x Q E s:=
 wpAny_mono h (fun _ _ p=>bV p (k _ _)) fun _ _ e=>e.elim
theorem Ni{x:Sem Bool}{v:Bool}{H':AH}{M:Model}{Q:Bool→Shared→Prop}{E:Value→Shared→Prop}(h:wpAny M A x (BP c f m lo W v H') aY s)(k:∀s' W',CR c f s' m lo H' W'→Le W W'→Q v s'):wpAny M A x Q E s:=
 wpAny_mono h (fun _ _ p=>jb p fun e W' C l=>by refine aa e ?_;exact k _ W' C l) fun _ _ e=>e.elim
theorem KR{x:Sem Flow}{v:AF}{lo':Lo}{H':AH}{M:Model}{Q:Flow→Shared→Prop}{E:Value→Shared→Prop}(h:wpAny M A x (XP c f W v lo' H') aY s)(k:∀fl s' m' W',CR c f s' m' lo' H' W'→kA W W'→FR c.g W' v fl→Q fl s'):wpAny M A x Q E s:=
 wpAny_mono h (fun _ _ p=>bx p (k _ _)) fun _ _ e=>e.elim
theorem zJ{x:Sem Value}{v:AV}{H':AH}{M:Model}{W':Wd}(h:wpAny M A x (EP c f m lo W' v H') aY s)(l:Le W W'):wpAny M A x (EP c f m lo W v H') aY s:=a7 (β:=Unit) h fun _ _ p=>p.le l
theorem KI{x:Sem Bool}{v:Bool}{H':AH}{M:Model}{W':Wd}(h:wpAny M A x (BP c f m lo W' v H') aY s)(l:Le W W'):wpAny M A x (BP c f m lo W v H') aY s:=a7 (β:=Unit) h fun _ _ p=>p.le l
theorem Nj{lo2 lo':Lo}{H2 H':AH}{v v':AF}{fl:Flow}(h:some (v,lo2,H2)=some (v',lo',H'))(p:XP c f W v lo2 H2 fl s):XP c f W v' lo' H' fl s:=by revert h;refine CF fun h q1 q2=>?_;subst h q1 q2;exact p
theorem e_.Hi(S:e_ c n d r){it:Expr}{x:AV×AH}{env:Env}(h1:r.e sc lo it H=some x):∀v,foldedSetIterable it env v=pure v:=by
 cases it<;>intro v<;>first|rfl|(rw[S.Lr]at h1;exact cZ h1)
theorem oP{e:Expr}{rest:List Expr}{env:Env}(h:∀a p,e≠.Starred a p):starEach (e::rest) env=(false,eval e env)::starEach rest env:=by
 cases e<;>first|rfl|exact absurd rfl (h _ _)
theorem i4{o:Expr}{x:Str}{env:Env}(h0:f9 o=true):attributeBase o x env (eval o env)=eval o env:=by
 cases o with
 |Call g as ks p=>
  cases g with
  |Name=>
   cases as with
   |nil=>
    cases ks with
    |nil=>first|exact ns h0|exact gz h0
    |cons=>rfl
   |cons=>rfl
  |_=>rfl
 |_=>rfl
theorem lr(S:e_ c n d r){e:Expr}{v:AV}{H':AH}(h:r.e sc lo e H=some (v,H')):∀a p,e≠.Starred a p:=by
 intro a p q;subst q;rw[S.star]at h;exact cZ h
theorem uC(S:e_ c n d r)(O:bW c f sc)(hA:cU n d A){pos:Pos}{es:List Expr}{s:Shared}{H:AH}{W:Wd}{vs:List AV}{H':AH}(h:uA (r.e sc lo) es H=some (vs,H'))(C:CR c f s m lo H W):
 wpAny (model c.prog c.w) A (spliced (backTo pos (starEach es f.env))) (LP c f m lo W vs H') aY s:=by
 induction es generalizing s H W vs H' with
 |nil=>revert h;refine nv fun h q1=>?_;subst h q1;exact args_nil ⟨W,C,Le.refl W,.nil⟩
 |cons e es ih=>
  revert h;refine aO fun v h1 h=>?_;revert h;refine fQ fun t h2 h=>?_;revert h;refine du fun h q1=>?_;subst h q1;refine args_cons ?_ (oP (lr S h1));refine ip (S.e O hA C h1) fun w s1 W1 C1 l1 r1=>?_;refine KL (ih (vs:=t.1) (H':=t.2) h2 C1) fun ws s2 W2 C2 l2 r2=>?_;exact⟨W2,C2,l1.trans l2,.cons (r1.mono l2.eR) r2⟩
theorem vM(S:e_ c n d r){pos:Pos}{env:Env}{es:List Expr}{H:AH}{vs:List AV}{H':AH}(h:uA (r.e sc lo) es H=some (vs,H')):(backTo pos (starEach es env)).any (·.1)=false:=by
 induction es generalizing H vs H' with
 |nil=>rfl
 |cons e es ih=>
  revert h;refine aO fun v h1 h=>?_;revert h;refine fQ fun t h2 h=>?_;refine aa (oP (lr S h1)) ?_;refine aa ((ih (vs:=t.1) (H':=t.2) h2)) ?_;rfl
inductive Keeps (c:Cx):Value→Prop where
 |K {a}:keepIn c.K (.ref a)=true→Keeps c (.ref a)
 |bi (id):Keeps c (.builtin id)
 |ty (id):Keeps c (.type id)
theorem jS(S:e_ c n d r)(O:bW c f sc)(hA:cU n d A){pos:Pos}{es:List Expr}{vs:List AV}{H':AH}{wf:Value}{first:List Value}{Q:Value→Shared→Prop}
 (h:uA (r.e sc lo) es H=some (vs,H'))(C:CR c f s m lo H W)(hk:Keeps c wf)
 (k:∀W' s' ws,CR c f s' m lo H' W'→Le W W'→bh c.g W' vs ws→wpAny (model c.prog c.w) A (call wf (first++ws)) Q aY s'):
 wpAny (model c.prog c.w) A (callWith pos wf first (backTo pos (starEach es f.env)) []) Q aY s:=by
 have hany:=vM (env:=f.env) (pos:=pos) S h;have hs:=uC (m:=m) (pos:=pos) S O hA h C
 have he:wpAny (model c.prog c.w) A (evalArgs wf true (backTo pos (starEach es f.env)) []) (fun a s'=>a.kw=[]∧LP c f m lo W vs H' a.pos s') aY s:=by
  cases es with
  |nil=>exact evalArgs_nil3 (by revert h;refine nv fun h q1=>?_;subst h q1;exact⟨rfl,W,C,Le.refl W,.nil⟩)
  |cons e es=>
   have hne:∀a p,e≠.Starred a p:=by
    revert h;refine aO fun v h1 h=>?_;exact lr S h1
   rw[oP hne]at hs⊢;exact evalArgs_plain (a7 (β:=Unit) hs fun ws s' p=>⟨rfl,p⟩)
 have hr:∀(a:Args)s',(a.kw=[]∧LP c f m lo W vs H' a.pos s')→wpAny (model c.prog c.w) A (call wf (first++a.pos) a.kw) Q aY s':=fun a s'⟨e,W',C',l,rv⟩=>by
  refine aa e ?_;exact k W' s' a.pos C' l rv
 clear k;cases hk with
 |K hk=>
  refine callWith_of (by exact aa hany rfl) (keeps_K hk) (a7 (β:=Unit) he fun a s' p=>⟨?_,hr a s' p⟩);obtain⟨_,W',C',_⟩:=p;exact O.KX.keeps C'.F.keep
 |bi id=>exact callWith_builtin hany (a7 (β:=Unit) he hr)
 |ty id=>exact PyProof.Rows.callWith_type hany (a7 (β:=Unit) he hr)
theorem cU.z(h:cU n d A):cU n 0 A:=h.less (NQ _) (Ov _)
theorem D8(KO:eO c)(S:e_ c n d r)(K:kN c n cal)(O:bW c f sc)(hA:cU n d A){pos:Pos}{g:Expr}{es:List Expr}{fv:AV}{vs:List AV}{H1 H2 H':AH}{v:AV}{rg:Nat}
 (h1:r.e sc lo g H=some (fv,H1))(h2:uA (r.e sc lo) es H1=some (vs,H2))(h3:AW cal rg fv vs H2=some (v,H'))(C:CR c f s m lo H W)
 (he:eval (.Call g es [] pos) f.env=(do callWith pos (←eval g f.env) [] (backTo pos (starEach es f.env)) (backToKw pos (keywordEach [] f.env)))):
 wpAny (model c.prog c.w) A (eval (.Call g es [] pos) f.env) (EP c f m lo W v H') aY s:=by
 refine Call_ ?_ he;refine ip (S.e O hA C h1) fun wf s1 W1 C1 l1 r1=>?_
 have key:Keeps c wf→wpAny (model c.prog c.w) A (callWith pos wf [] (backTo pos (starEach es f.env)) []) (EP c f m lo W v H') aY s1:=fun hk=>by
  refine jS S O hA h2 C1 hk fun W2 s2 ws C2 l2 r2=>?_;have r1':=r1.mono l2.eR;have hu:=hA.units
  have bi:vE H2 rg fv vs=some (v,H')→wpAny (model c.prog c.w) A (call wf ([]++ws)) (EP c f m lo W v H') aY s2:=fun h3=>
   zJ (AS KO O h3 C2 r1' r2 ((LA [_,_,_,_] (Sx (.a V0 (.k 100))) V1 (.a (.a (.a (.a V0 V2) V3) (.k 120)) (.k 1)) V1 rfl hu)) hA.hh) (l1.trans l2)
  cases fv<;>(first|exact bi h3|skip);clear bi hk;cases r1';exact zJ (wpAny_call (K.ok O hA.z C2 h3 r2)) (l1.trans l2)
 cases fv<;>(first|exact ns h3|cases h3|skip)
 ·cases r1;exact key (.K (K.Mz h3))
 ·clear h3;clear O S h1 h2 hA he l1;cases r1;exact key (.bi _)
 ·clear h3;clear C C1 K KO O S h1 h2 hA he l1;cases r1;exact key (.ty _)
theorem BN{x:Str}{l:List Str}(h:G_ x oX=some l):x.length≤sizeLine∧PySem.wordsOf x=l∧(Builtin.Str.spaceWords x (x.length+1)).length=l.length∧(Builtin.Str.spaceWords x (x.length+1)==[(0,x.length)])=false:=by
 unfold oX at h;simp only[Lc,Lb]at h;split at h
 ·rename_i q;have q:=beq_iff_eq.mp q;refine aa q ?_;revert h;refine aJ fun h=>?_;subst h;refine⟨by refine aa sizeLine_eq ?_;decide+kernel,by decide+kernel,by decide+kernel,by decide+kernel⟩
 split at h
 ·rename_i q;have q:=beq_iff_eq.mp q;refine aa q ?_;revert h;refine aJ fun h=>?_;subst h;refine⟨by refine aa sizeLine_eq ?_;decide+kernel,by decide+kernel,by decide+kernel,by decide+kernel⟩
 ·exact cZ h
theorem CJ{g:Gm}:∀(l:List Str)(t:Tok),bh g W (l.map .str) (strsFrom t l):=by
 intro l
 induction l with
 |nil=>exact fun _=>.nil
 |cons x l ih=>exact fun t=>.cons (.str _ _) (ih _)
theorem CC(O:bW c f sc){x:Str}{t:Tok}{l:List Str}{rg:Nat}{v:AV}{H':AH}(h:G_ x oX=some l)(h3:newList H rg (l.map .str)=some (v,H'))(C:CR c f s m lo H W):
 wpAny (model c.prog c.w) A (call (.builtin "str.split") [.str x t]) (EP c f m lo W v H') aY s:=by
 refine ja (BN h) fun q1 q2 q3 q4=>?_;revert h3;refine dD fun hl h3=>?_;rw[Nn]at hl;refine call_meets PySem.F.slot_str_split (typeIs_str _ _ _) PySem.F.entry_str_split (PySem.F.args_str_split_1 _) (meets_str_split_space x t q1 (by refine aa q3 (aa sizeLine_eq ?_);unfold ab at hl;exact kh hl)) ?_;refine aa q4 (aa q2 (aa q3 ?_));refine gS (C.new h3 (a:=s.heap.objs.size) (o:=listOf (strsFrom s.toks l).toArray 0) (h':=s.heap.push (listOf (strsFrom s.toks l).toArray 0)) (k:=s.toks+l.length) (gG _) (C.low O) (fun b o e=>Heap.get?_push_of_some _ e) (Heap.get?_push_size _ rfl) ⟨_,0,rfl,CJ l s.toks⟩) fun C' l' hr=>?_;exact⟨_,C',l',hr⟩
noncomputable def BV(o:Expr)(x:Str)(es:List Expr)(pos apos:Pos)(env:Env)(wo:Value):Sem Value:=holding [wo] (calleeOf true o env wo x)>>=fun y=>methodCallPos true o env apos pos>>=fun cp=>callWith cp y.1 y.2 (backTo pos (starEach es env)) (backToKw pos (keywordEach [] env))
theorem Ht{P:PT}{H1:AH}{ov:AV}{x:Str}{mf:MF}(hm:lJ P H1 ov x=some mf):(∃s,ov=.str s)∨∃r i,ov=.loc r i:=by
 cases ov<;>first|exact ns hm|exact .inl ⟨_,rfl⟩|exact .inr ⟨_,_,rfl⟩
theorem ES(KO:eO c)(S:e_ c n d r)(K:kN c n cal)(O:bW c f sc)(hA:cU n d A){pos apos:Pos}{o:Expr}{x:Str}{es:List Expr}{ov:AV}{mf:MF}{vs:List AV}{H1 H2 H':AH}{v:AV}{rg:Nat}
 (h0:f9 o=true)(hl:apos.endLine=pos.line)(h30:es.length<30)
 (h1:r.e sc lo o H=some (ov,H1))(hm:lJ c.P H1 ov x=some mf)(h2:uA (r.e sc lo) es H1=some (vs,H2))(h3:BZ cal rg mf x vs H2=some (v,H'))(C:CR c f s m lo H W):
 wpAny (model c.prog c.w) A (eval (.Call (.Attribute o x apos) es [] pos) f.env) (EP c f m lo W v H') aY s:=by
 have hu:=hA.units;have hany:=vM (env:=f.env) (pos:=pos) S h2;rw[arm_eval_Call];refine aa (i4 h0) ?_;refine wpAny_bind (a7 (β:=Unit) (S.e O hA C h1) fun wo s1⟨W1,C1,l1,r1⟩=>wpAny_bind (wpAny_standAt ?_))
 have hform:methodCallForm (es.length+([]:List Keyword).length) (backTo pos (starEach es f.env)) (backToKw pos (keywordEach [] f.env))=true:=by
  unfold methodCallForm
  have:(backTo pos (starEach es f.env)).all (fun x=>!x.1)=true:=by
   refine aa List.all_eq_not_any_not ?_;simp only[Bool.not_not];exact aa hany rfl
  refine aa this ?_;show decide (es.length<30)=true;exact decide_eq_true h30
 have hpos:methodCallPos true o f.env apos pos=pure pos:=by unfold methodCallPos;simp[hl]
 unfold methodCall;refine aa hform ?_
 have fin:∀wf first,Keeps c wf→(∀W2 s2 ws,CR c f s2 m lo H2 W2→Le W1 W2→bh c.g W2 vs ws→wpAny (model c.prog c.w) A (call wf (first++ws)) (EP c f m lo W2 v H') aY s2)→
  wpAny (model c.prog c.w) A (methodCallPos true o f.env apos pos>>=fun cp=>callWith cp wf first (backTo pos (starEach es f.env)) (backToKw pos (keywordEach [] f.env))) (EP c f m lo W v H') aY s1:=fun wf first hk h=>
  wpAny_bind (wpAny_of_eq hpos (jS S O hA h2 C1 hk fun W2 s2 ws C2 l2 r2=>zJ (h W2 s2 ws C2 l2 r2) (l1.trans l2)))
 have inst:∀{k r0 i0:Nat}{t:(Nat×Nat×Nat)×jf×List (Str×AV)},ov=.loc r0 i0→lE c.P H1 ov=some t→lk x t.2.2=none→BL x t.2.1.meths=some k→mf=.fn k r0 i0→
  wpAny (model c.prog c.w) A (BV o x es pos apos f.env wo) (EP c f m lo W v H') aY s1:=by
  intro k r0 i0 t eo hi q1 q2 e;clear h1;subst eo e;obtain⟨⟨r',i',a,dd,es',n',e0,ha,_,_,e4,I,e6⟩,Y⟩:=lF KO hi C1;cases e0;obtain⟨a',rfl,e7⟩:=r1.addr;have:a'=a:=by rw[ha]at e7;exact(NF e7).symm
  refine aa this ?_;obtain⟨y1,y2,y3⟩:=Y.me x k q2;refine wpAny_bind (wpAny_holding (method_inst C1.F O.KX I (Y.pg x) y1 y2 ((e4.getL (x:=x)).2 q1) ?_));exact fin _ _ (.K (K.Mz h3)) fun W2 s2 ws C2 l2 r2=>wpAny_call (K.ok O hA.z C2 h3 (.cons (.loc (l2.ad _ _ _ ha)) r2))
 show wpAny _ _ (BV o x es pos apos f.env wo) _ _ _;clear hform hpos;rcases Ht hm with⟨s0,rfl⟩|⟨ro,io,rfl⟩<;>unfold lJ at hm
 ·revert hm;refine dD fun hx hm=>?_;have hx:=beq_iff_eq.mp hx;refine aa hx ?_;revert hm;refine fQ fun l g1 g2=>?_;clear K KO hA;subst g2;cases r1 with
  |str _ t=>
   refine wpAny_bind (wpAny_holding (getMethod_builtin (typeIs_str _ _ _) PySem.F.plainAttrs_str PySem.F.slot_str_split PySem.F.type_str_split (fun _ e=>nomatch e) ?_));refine fin _ _ (.bi _) fun W2 s2 ws C2 l2 r2=>?_;revert h3;refine aO fun _ hn h3=>?_;rw[ik hn]at r2;clear hn;cases r2;exact CC O g1 h3 C2
 ·revert hm;refine aO fun ao g1 hm=>?_
  have viaInst:((lE c.P H1 (.loc ro io)).bind fun t=>match lk x t.2.2 with
   |.none=>(BL x t.2.1.meths).map fun k=>MF.fn k ro io
   |some _=>.none)=some mf→wpAny (model c.prog c.w) A (BV o x es pos apos f.env wo) (EP c f m lo W v H') aY s1:=fun hm=>by
   revert hm;refine aO fun t hi hm=>?_;clear K KO O hA;cases q1:lk x t.2.2 with
   |some u=>rw[q1]at hm;exact cZ hm
   |none=>
    rw[q1]at hm;revert hm;refine fQ fun k q2 e=>?_;exact inst rfl hi q1 q2 e.symm
  cases ao<;>(first|exact viaInst hm|skip);revert hm;refine dD fun hx hm=>?_;clear K KO O hA inst viaInst;revert hm;refine aJ fun hm=>?_;subst hm;obtain⟨a,rfl,ha⟩:=r1.addr;obtain⟨sl,ty⟩:=rL hx;obtain⟨us,nn,e1,e2,hus⟩:=C1.isList g1 ha;refine wpAny_bind (wpAny_holding (getMethod_builtin (ba e1).typeIs PySem.F.plainAttrs_list sl ty (fun b e=>by clear C1 e2 g1 hus hx r1 sl ty;cases e;exact⟨_,e1,rfl⟩) ?_));refine fin _ _ (.bi _) fun W2 s2 ws C2 l2 r2=>?_;revert h3;refine dD fun hz h3=>?_;revert h3;refine aO fun xs' g3 h3=>?_;exact B6 h3 (a_ g3) hz (l2.ad _ _ _ ha) C2 r2 ((LA [_,_,_,_] (Sx (.a V0 (.k 10))) V1 (.a (.a (.a (.a V0 V2) V3) (.k 120)) (.k 1)) V1 rfl hu))
end
end Hx
namespace Hx
open PySem PySem.W PyProof.Rows PySem.Calls
noncomputable def Wd.ux(W:Wd)(ex:NL):Wd:={W with ex:=ex}
theorem Wd.MO(W:Wd)(ex:NL)(r i:Nat):(W.ux ex).pt r i=W.pt r i:=rfl
theorem Wd.MN(W:Wd)(ex:NL)(r i:Nat):(W.ux ex).ad r i=W.ad r i:=rfl
theorem Wd.b9(W:Wd)(ex:NL):jc W (W.ux ex):=⟨fun _ _ _ h=>h,fun _ h=>h⟩
theorem Wd.Kx(W:Wd)(ex:NL):jc (W.ux ex) W:=⟨fun _ _ _ h=>h,fun _ h=>h⟩
theorem Le.ux{W W':Wd}{ex:NL}(h:Le (W.ux ex) W'):W'.ex=ex∧Le W (W'.ux W.ex):=⟨h.ex,⟨h.ad,h.tp,h.z,rfl,h.cl⟩⟩
section
variable{c:Cx}{f:Fm}{sc:Scope}{s:Shared}{m:Str→Option Value}{lo:Lo}{H:AH}{W:Wd}{A:Around}{n d:Nat}{r:EV}{cal:je}
theorem CR.G1(C:CR c f s m lo H W){a:Addr}{o:Obj}{h':Heap}{k:Tok}(ha:s.heap.get? a=none)
 (hk:∀b o,s.heap.get? b=some o→h'.get? b=some o) (ho:h'.get? a=some o):CR c f {s with heap:=h',toks:=k} m lo H (W.ux ((a,o)::W.ex)):=by
 refine gS (C.fresh ha) fun f1 f2 f3=>?_;refine⟨C.F.keeps hk,fun p hp=>?_,⟨C.ap.inj,fun r i b h q hq=>?_,?_⟩,C.big,C.hr.mono rfl (W.b9 _),C.lv.eR (W.b9 _) rfl,C.gens,C.os⟩
 ·rcases Wd.dR hp with⟨r',i',q⟩|q
  ·have n:=C.N p (Wd.bP (W:=W) q);exact⟨hk _ _ n.1,n.2⟩
  ·rcases Nw.mp q with q|q
   ·have n:=C.N p (Nm _ (Nr _ q));exact⟨hk _ _ n.1,n.2⟩
   ·rcases Nv.mp q with rfl|q
    ·exact⟨ho,f1,f2⟩
    ·have n:=C.N p (Nm _ (Nm _ q));exact⟨hk _ _ n.1,n.2⟩
 ·rcases Nw.mp hq with hq|hq
  ·exact C.ap.sep r i b h q (Nr _ hq)
  ·rcases Nv.mp hq with rfl|hq
   ·refine ar (C.addr h) fun o' q _=>?_;exact fun e=>f3 _ (Wd.bP q) e.symm
   ·exact C.ap.sep r i b h q (Nm _ hq)
 ·refine(?_:((W.tp++((a,o)::(W.ex++W.cl))).map (·.1)).Nodup);refine(OE ((List.perm_middle).map _)).mpr ?_;refine NZ.mpr ⟨fun e=>?_,(C.ap.nd)⟩;refine ar (NU.mp e) fun p hp e=>?_;exact f3 p (Nm _ hp) e
theorem jG{a:Addr}{o:Obj}{tp r:NL}(h:((tp++((a,o)::r)).map (·.1)).Nodup):(∀q∈tp++r,q.1≠a)∧((tp++r).map (·.1)).Nodup:=by
 refine xA (NZ.mp ((OE ((List.perm_middle (a:=(a,o)) (l₁:=tp) (l₂:=r)).map (·.1))).mp h)) fun x y=>?_;exact⟨fun q hq e=>x (NU.mpr ⟨q,hq,e⟩),y⟩
theorem CR.vP{a:Addr}{o:Obj}{ex:NL}(C:CR c f s m lo H W)(e:W.ex=(a,o)::ex):CR c f s m lo H (W.ux ex):=by
 refine⟨C.F,fun p hp=>?_,⟨C.ap.inj,fun r i b h q hq=>?_,?_⟩,C.big,C.hr.mono rfl (W.b9 _),C.lv.eR (W.b9 _) rfl,C.gens,C.os⟩
 ·rcases Wd.dR hp with⟨r',i',q⟩|q
  ·exact C.N p (Wd.bP (W:=W) q)
  ·refine C.N p (Nm _ ?_);refine aa e ?_;rcases Nw.mp q with q|q
   ·exact Nr _ q
   ·exact Nm _ (.tail _ q)
 ·refine C.ap.sep r i b h q ?_;refine aa e ?_;rcases Nw.mp hq with q|q
  ·exact Nr _ q
  ·exact Nm _ (.tail _ q)
 ·have:=C.ap.nd;rw[e]at this;exact(jG this).2
theorem CR.oz{a:Addr}{o:Obj}{ex:NL}(C:CR c f s m lo H W)(e:W.ex=(a,o)::ex):s.heap.get? a=some o∧a≠f.env.locals∧f.h₀.get? a=none∧(∀q∈W.tp++(ex++W.cl),q.1≠a)∧∀r i,W.ad r i≠some a:=by
 have hm:(a,o)∈W.tp++(W.ex++W.cl):=by refine aa e ?_;exact Nm _ (.head _)
 have n:=C.N _ (Nm _ hm);have nd:=C.ap.nd;rw[e]at nd;exact⟨n.1,n.2.1,n.2.2,(jG nd).1,fun r i h=>C.ap.sep r i a h _ hm rfl⟩
theorem CR.rq{a:Addr}{o o':Obj}{ex:NL}{h':Heap}{k:Tok}(C:CR c f s m lo H W)(e:W.ex=(a,o)::ex)(hs:Heap.SameBut a s.heap h')(ho:h'.get? a=some o'):
 CR c f {s with heap:=h',toks:=k} m lo H (W.ux ((a,o')::ex)):=by
 refine j9 (C.oz e) fun n1 n2 n3 n4 n5=>?_;have nd:=C.ap.nd;rw[e]at nd;refine xA (jG nd) fun x y=>?_;refine⟨C.F.change hs n2 n3,fun p hp=>?_,⟨C.ap.inj,fun r i b h q hq=>?_,?_⟩,C.big,C.hr.mono rfl (W.b9 _),C.lv.eR (W.b9 _) rfl,C.gens,C.os⟩
 ·have keep:∀p∈W.all,p.1≠a→h'.get? p.1=some p.2∧p.1≠f.env.locals∧f.h₀.get? p.1=none:=fun p hp ne=>by
   exact⟨(hs.2 _ ne).trans (C.N p hp).1,(C.N p hp).2⟩
  rcases Wd.dR hp with⟨r',i',q⟩|q
  ·refine keep p (Wd.bP (W:=W) q) fun e'=>n5 r' i' ?_;unfold Wd.ad;have:W.pt r' i'=some p:=q;refine aa this ?_;exact bR e' rfl
  ·rcases Nw.mp q with q|q
   ·exact keep p (Nm _ (Nr _ q)) (n4 p (Nr _ q))
   ·rcases Nv.mp q with rfl|q
    ·exact⟨ho,n2,n3⟩
    ·refine keep p (Nm _ (Nm _ ?_)) (n4 p (Nm _ q));refine aa e ?_;exact .tail _ q
 ·rcases Nw.mp hq with hq|hq
  ·exact C.ap.sep r i b h q (Nr _ hq)
  ·rcases Nv.mp hq with rfl|hq
   ·exact fun e'=>n5 r i (by refine aa (show a=b from e') ?_;exact h)
   ·refine C.ap.sep r i b h q (Nm _ ?_);refine aa e ?_;exact .tail _ hq
 ·refine(OE ((List.perm_middle).map _)).mpr ?_;refine NZ.mpr ⟨fun e'=>?_,y⟩;refine ar (NU.mp e') fun p hp e'=>?_;exact x p hp e'
theorem CR.Bl{a:Addr}{o:Obj}{ex:NL}(C:CR c f s m lo H W)(e:W.ex=(a,o)::ex){rg:Nat}{ao:AO}{v:AV}{H':AH}(hv:cP H rg ao=some (v,H'))(hb:1<a)(hO:OR c.g W ao o):
 CR c f s m lo H' ((W.ux ex).add rg a o)∧VR c.g ((W.ux ex).add rg a o) v (.ref a):=by
 refine j9 (C.oz e) fun n1 n2 n3 n4 n5=>?_;have C0:=C.vP e;refine xA (C0.hr.add hv a (hO.mono (W.b9 ex))) fun q1 q2=>?_
 have key:∀r' i' p,((W.ux ex).add rg a o).pt r' i'=some p→(W.ux ex).pt r' i'=some p∨(p=(a,o)∧r'=rg∧∀x,(W.ux ex).pt r' i'≠some x):=by
  intro r' i' p hp;unfold Wd.pt Wd.add at hp;simp only[Og]at hp;by_cases z:rg=r'
  ·subst z;cases e1:(W.ux ex).rg[rg]? with
   |none=>rw[e1]at hp;simp at hp
   |some l=>
    rw[e1]at hp;have hp2:(l++[(a,o)])[i']?=some p:=by simpa using hp
    rw[List.getElem?_append]at hp2;split at hp2
    ·left;unfold Wd.pt;refine aa e1 ?_;exact hp2
    ·right
     rename_i z2
     have:i'-l.length=0:=by
      cases y:i'-l.length with
      |zero=>rfl
      |succ n=>rw[y]at hp2;simp at hp2
     rw[this]at hp2;simp at hp2;refine⟨hp2.symm,rfl,fun x hx=>?_⟩;unfold Wd.pt at hx;rw[e1]at hx;simp only[Option.bind_some]at hx;exact z2 (N4.mp hx).1
  ·left;unfold Wd.pt;simpa[z]using hp
 refine⟨⟨C0.F,fun p hp=>?_,⟨?_,?_,C0.ap.nd⟩,?_,q1,C0.lv.mono (jC ..),C0.gens,C0.os⟩,q2⟩
 ·rcases Wd.dR hp with⟨r',i',q⟩|q
  ·clear hp;rcases key _ _ _ q with q|⟨rfl,_⟩
   ·exact C0.N p (Wd.bP q)
   ·exact⟨n1,n2,n3⟩
  ·exact C0.N p (Nm _ q)
 ·intro r₁ i₁ r₂ i₂ b h1 h2;unfold Wd.ad at h1 h2;clear hv q1 q2;cases e1:((W.ux ex).add rg a o).pt r₁ i₁ with
  |none=>rw[e1]at h1;cases h1
  |some p1=>
   cases e2:((W.ux ex).add rg a o).pt r₂ i₂ with
   |none=>rw[e2]at h2;cases h2
   |some p2=>
    rw[e1]at h1;rw[e2]at h2;have h1:=NF h1;have h2:=NF h2;rcases key _ _ _ e1 with z1|⟨z1,y1,x1⟩<;>rcases key _ _ _ e2 with z2|⟨z2,y2,x2⟩
    ·exact C.ap.inj _ _ _ _ b (by unfold Wd.ad;refine aa (show W.pt r₁ i₁=some p1 from z1) ?_;exact congrArg _ h1) (by unfold Wd.ad;refine aa (show W.pt r₂ i₂=some p2 from z2) ?_;exact congrArg _ h2)
    ·exact absurd (by unfold Wd.ad;refine aa (show W.pt r₁ i₁=some p1 from z1) ?_;exact congrArg some (h1.trans (h2.symm.trans (congrArg Prod.fst z2)))) (n5 r₁ i₁)
    ·exact absurd (by unfold Wd.ad;refine aa (show W.pt r₂ i₂=some p2 from z2) ?_;exact congrArg some (h2.trans (h1.symm.trans (congrArg Prod.fst z1)))) (n5 r₂ i₂)
    ·subst y1 y2;refine⟨rfl,?_⟩;unfold Wd.pt Wd.add at e1 e2;simp only[Og,if_true]at e1 e2;cases e3:(W.ux ex).rg[r₂]? with
     |none=>rw[e3]at e1;simp at e1
     |some l'=>
      rw[e3]at e1 e2;have e1':(l'++[(a,o)])[i₁]?=some p1:=by simpa using e1
      have e2':(l'++[(a,o)])[i₂]?=some p2:=by simpa using e2
      have g1:l'.length≤i₁:=Nat.le_of_not_lt fun q=>x1 (l'[i₁]) (by unfold Wd.pt;simp[e3,q]);have g2:l'.length≤i₂:=Nat.le_of_not_lt fun q=>x2 (l'[i₂]) (by unfold Wd.pt;simp[e3,q]);have k1:=(N4.mp e1').1;have k2:=(N4.mp e2').1;simp at k1 k2;exact(Pb (LA [_,_,_] V0 V1 (.a (Sx V0) V2) (.a (Sx V2) V1) rfl (Nq k1 g2)) (LA [_,_,_] V1 V0 (.a (Sx V1) V2) (.a (Sx V2) V0) rfl (Nq k2 g1)))
 ·intro r₁ i₁ b h1 q hq;unfold Wd.ad at h1;cases e1:((W.ux ex).add rg a o).pt r₁ i₁ with
  |none=>rw[e1]at h1;cases h1
  |some p1=>
   rw[e1]at h1;have h1:=NF h1;rcases key _ _ _ e1 with z1|⟨z1,_⟩
   ·exact C0.ap.sep _ _ b (by unfold Wd.ad;refine aa z1 ?_;exact congrArg _ h1) q hq
   ·refine bR h1 ?_;refine aa z1 ?_;exact n4 q hq
 ·intro r₁ i₁ b h1;unfold Wd.ad at h1;cases e1:((W.ux ex).add rg a o).pt r₁ i₁ with
  |none=>rw[e1]at h1;cases h1
  |some p1=>
   rw[e1]at h1;have h1:=NF h1;rcases key _ _ _ e1 with z1|⟨z1,_⟩
   ·exact C.big r₁ i₁ b (by unfold Wd.ad;refine aa (show W.pt r₁ i₁=some p1 from z1) ?_;exact congrArg _ h1)
   ·refine bR h1 ?_;refine aa z1 ?_;exact fun _=>hb
end
end Hx
namespace Hx
open PySem PySem.W PyProof.Rows PySem.Calls
section
variable{c:Cx}{f:Fm}{sc:Scope}{s:Shared}{m:Str→Option Value}{lo:Lo}{H:AH}{W:Wd}{A:Around}{n d:Nat}{r:EV}{cal:je}
theorem DY(KO:eO c)(S:e_ c n d r)(O:bW c f sc)(hA:cU n d A){o:Expr}{x:Str}{p:Pos}{ov v:AV}{H1:AH}(h0:f9 o=true)
 (h1:r.e sc lo o H=some (ov,H1))(h2:Ex c.P H1 ov x=some v)(C:CR c f s m lo H W):
 wpAny (model c.prog c.w) A (eval (.Attribute o x p) f.env) (EP c f m lo W v H1) aY s:=by
 refine Attribute_any_ (ip (S.e O hA C h1) fun wo s1 W1 C1 l1 r1=>zJ (Ey KO O h2 C1 r1) l1) ?_;rw[arm_eval_Attribute];exact aa (i4 h0) rfl
theorem Ff(KO:eO c)(S:e_ c n d r)(O:bW c f sc)(hA:cU n d A){a i:Expr}{p:Pos}{ov iv v:AV}{H1 H2:AH}(hs:∀a b c p,i≠.Slice a b c p)
 (h1:r.e sc lo a H=some (ov,H1)) (h2:r.e sc lo i H1=some (iv,H2)) (h3:ve H2 ov iv=some v) (C:CR c f s m lo H W):
 wpAny (model c.prog c.w) A (eval (.Subscript a i p) f.env) (EP c f m lo W v H2) aY s:=
 Subscript_ (ip (S.e O hA C h1) fun wo s1 W1 C1 l1 r1=>ip (S.e O hA C1 h2) fun wi s2 W2 C2 l2 r2=>
  zJ (HF KO O h3 hs C2 (r1.mono l2.eR) r2) (l1.trans l2))
theorem D5(S:e_ c n d r)(O:bW c f sc)(hA:cU n d A){a b:Expr}{op:Operator}{p:Pos}{x y v:AV}{H1 H2 H':AH}{rg:Nat}
 (h1:r.e sc lo a H=some (x,H1))(h2:r.e sc lo b H1=some (y,H2))(h3:AN H2 rg op x y=some (v,H'))(C:CR c f s m lo H W):
 wpAny (model c.prog c.w) A (eval (.BinOp a op b p) f.env) (EP c f m lo W v H') aY s:=
 wpAny_BinOp (ip (S.e O hA C h1) fun wo s1 W1 C1 l1 r1=>ip (S.e O hA C1 h2) fun wi s2 W2 C2 l2 r2=>
  zJ (GF O h3 C2 (r1.mono l2.eR) r2) (l1.trans l2))
theorem Ea(KO:eO c)(S:e_ c n d r)(O:bW c f sc)(hA:cU n d A){a b:Expr}{op:CmpOp}{p:Pos}{x y:AV}{H1 H2:AH}{v:Bool}(hm:behindInMarks op b=false)
 (h1:r.e sc lo a H=some (x,H1))(h2:r.e sc lo b H1=some (y,H2))(h3:yX H2 op x y=some v)(C:CR c f s m lo H W):
 wpAny (model c.prog c.w) A (eval (.Compare a [op] [b] p) f.env) (EP c f m lo W (.bool v) H2) aY s:=by
 exact wpAny_Compare1 (hm:=hm) (ip (S.e O hA C h1) fun wo s1 W1 C1 l1 r1=>ip (S.e O hA C1 h2) fun wi s2 W2 C2 l2 r2=>
  zJ (A0 KO O h3 C2 (r1.mono l2.eR) r2 ((LA [_,_,_,_] (Sx (.a V0 (.k 20))) V1 (.a (.a (.a (.a V0 V2) V3) (.k 120)) (.k 1)) V1 rfl (hA.units)))) (l1.trans l2))
theorem AZ(KO:eO c)(S:e_ c n d r)(O:bW c f sc)(hA:cU n d A){a b:Expr}{op:CmpOp}{p:Pos}{x y:AV}{H1 H2:AH}{v:Bool}{whole:Sem Value}(hm:behindInMarks op b=false)
 (h1:r.e sc lo a H=some (x,H1))(h2:r.e sc lo b H1=some (y,H2))(h3:yX H2 op x y=some v)(C:CR c f s m lo H W):
 wpAny (model c.prog c.w) A (isTrue (.Compare a [op] [b] p) f.env whole) (BP c f m lo W v H2) aY s:=by
 refine wpAny_isTrue_Compare1 (hm:=hm) (ip (S.e O hA C h1) fun wo s1 W1 C1 l1 r1=>ip (S.e O hA C1 h2) fun wi s2 W2 C2 l2 r2=>
  a7 (β:=Unit) (A0 KO O h3 C2 (r1.mono l2.eR) r2 ((LA [_,_,_,_] (Sx (.a V0 (.k 20))) V1 (.a (.a (.a (.a V0 V2) V3) (.k 120)) (.k 1)) V1 rfl (hA.units)))) fun w s' hp'=>bV hp' fun W3 C3 l3 r3=>?_)
 cases r3;exact wpAny_truthy_bool ⟨rfl,W3,C3,(l1.trans l2).trans l3⟩
theorem vg(S:e_ c n d r)(O:bW c f sc)(hA:cU n d A){e:Expr}{x:AV}{H1:AH}{v:Bool}(h1:r.e sc lo e H=some (x,H1))(h2:dG H1 x=some v)(C:CR c f s m lo H W)
 (he:isTrue e f.env (eval e f.env)=(do let v←eval e f.env;standAt e.pos;holding [v] (truthy v))):
 wpAny (model c.prog c.w) A (isTrue e f.env (eval e f.env)) (BP c f m lo W v H1) aY s:=
 wpAny_isTrue_value (ip (S.e O hA C h1) fun wo s1 W1 C1 l1 r1=>KI (l8 h2 C1 r1) l1) he
theorem nY{op:BoolOp}{x:Expr}{rest:List Expr}{env:Env}{A:Around}{s:Shared}{Q:Bool→Shared→Prop}
 (h:wpAny (model c.prog c.w) A (isTrue x env (eval x env)) (fun b s₁=>if nA op b=true then Q b s₁ else wpAny (model c.prog c.w) A (allTrue op rest env) Q aY s₁) aY s):wpAny (model c.prog c.w) A (allTrue op (x::rest) env) Q aY s:=by
 cases op with
 |And=>exact wpAny_allTrue_And_cons (a7 (β:=Unit) h fun b s1 p=>by cases b<;>exact p)
 |Or=>exact wpAny_allTrue_Or_cons (a7 (β:=Unit) h fun b s1 p=>by cases b<;>exact p)
theorem DW(S:e_ c n d r)(O:bW c f sc)(hA:cU n d A){op:BoolOp}{es:List Expr}{s:Shared}{H:AH}{W:Wd}{v:Bool}{H':AH}(h:yL (r.t sc lo) op es H=some (v,H'))(C:CR c f s m lo H W):
 wpAny (model c.prog c.w) A (allTrue op es f.env) (BP c f m lo W v H') aY s:=by
 induction es generalizing s H W with
 |nil=>revert h;refine MT ?_;exact wpAny_pure ⟨rfl,W,C,Le.refl W⟩
 |cons e es ih=>
  revert h;refine aO fun t h1 h=>?_;refine nY (a7 (β:=Unit) (S.t O hA C (v:=t.1) (H':=t.2) h1) fun b' s1 hp'=>jb hp' fun e1 W1 C1 l1=>?_);refine aa e1 ?_;by_cases q:nA op t.1=true
  ·rw[if_pos q]at h⊢;revert h;refine nv fun h q1=>?_;subst h q1;exact⟨rfl,W1,C1,l1⟩
  ·rw[if_neg q]at h⊢;exact KI (ih h C1) l1
theorem rd{op:BoolOp}{p:Pos}{e₁ e₂:Expr}{rest:List Expr}{env:Env}{A:Around}{s:Shared}{Q:Value→Shared→Prop}
 (h:wpAny (model c.prog c.w) A (eval e₁ env) (fun v s₁=>wpAny (model c.prog c.w) A (truthy v) (fun b s₂=>if nA op b=true then Q v s₂ else wpAny (model c.prog c.w) A (eval (.BoolOp op (e₂::rest) p) env) Q aY s₂) aY s₁) aY s):
 wpAny (model c.prog c.w) A (eval (.BoolOp op (e₁::e₂::rest) p) env) Q aY s:=by
 cases op with
 |And=>exact BoolOp_and (a7 (β:=Unit) h fun v s1 p=>a7 (β:=Unit) p fun b s2 p=>by cases b<;>exact p)
 |Or=>exact BoolOp_or (a7 (β:=Unit) h fun v s1 p=>a7 (β:=Unit) p fun b s2 p=>by cases b<;>exact p)
theorem Hr(S:e_ c n d r)(O:bW c f sc)(hA:cU n d A){op:BoolOp}{p:Pos}{es:List Expr}{s:Shared}{H:AH}{W:Wd}{v:AV}{H':AH}(h:Kq (r.e sc lo) op es H=some (v,H'))(C:CR c f s m lo H W):
 wpAny (model c.prog c.w) A (eval (.BoolOp op es p) f.env) (EP c f m lo W v H') aY s:=by
 induction es generalizing s H W with
 |nil=>first|exact ns h|cases h
 |cons e es ih=>
  revert h;refine aO fun t h1 h=>?_;have he:=S.e O hA C (v:=t.1) (H':=t.2) h1;cases es with
  |nil=>revert h;refine Dj ?_;exact BoolOp_one he
  |cons e' es=>
   revert h;refine aO fun b h2 h=>?_;refine rd (a7 (β:=Unit) he fun wv s1 hp'=>bV hp' fun W1 C1 l1 r1=>a7 (β:=Unit) (l8 h2 C1 r1) fun b' s2 hp'=>jb hp' fun e1 W2 C2 l2=>?_);clear h2 hp';subst e1;by_cases q:nA op b'=true
   ·rw[if_pos q]at h⊢;revert h;refine nv fun h q1=>?_;subst h q1;exact⟨W2,C2,l1.trans l2,r1.mono l2.eR⟩
   ·rw[if_neg q]at h⊢;exact zJ (ih h C2) (l1.trans l2)
theorem rh(lo hi:Option Int)(n:Nat):sliceBounds lo hi none n=((((match lo with|some k=>clip k n|.none=>0):Nat):Int),(((match hi with|some k=>clip k n|.none=>n):Nat):Int),1):=by
 unfold sliceBounds clip;cases lo<;>cases hi<;>simp only[Option.getD_none,show(1:Int)>0 by decide,if_true]<;>(congr 1;first|rfl|skip)<;>first|(congr 1;split<;>lia)|(split<;>assumption)|skip
theorem Cy{ws:List Value}{xs:List AV}(h:bh c.g W xs ws)(lo hi:Option Int):bh c.g W (ax xs lo hi) (slicePick ws.toArray lo hi none).toList:=by
 refine aa (kmk_pick_nat _ (rh lo hi _)) ?_;refine aa NI (aa (h.length) ?_);refine bR List.drop_take ?_;exact(h.take _).drop _
theorem Bk(S:e_ c n d r)(O:bW c f sc)(hA:cU n d A){e:Option Expr}{x:Option Int}{H':AH}(h:Ib (r.e sc lo) e H=some (x,H'))(C:CR c f s m lo H W):
 wpAny (model c.prog c.w) A (evalPart e f.env) (fun w s'=>IsPart w x∧∃W',CR c f s' m lo H' W'∧Le W W') aY s:=by
 cases e with
 |none=>revert h;refine nv fun h q1=>?_;subst h q1;rw[evalPart_none];exact wpAny_pure ⟨.none,W,C,Le.refl W⟩
 |some e=>
  revert h;refine aO fun t h1 h=>?_;revert h;refine aO fun k h2 h=>?_;revert h;refine dD fun _ h=>?_;revert h;refine nv fun h q1=>?_;subst h q1
  exact a7 (β:=Unit) (S.e O hA C (v:=t.1) (H':=t.2) h1) fun w s' hp'=>bV hp' fun W1 C1 l1 r1=>by
   refine xE (r1.dq h2) fun tk e'1=>?_;refine aa e'1 ?_;exact⟨.int _ _,W1,C1,l1⟩
theorem zz(S:e_ c n d r)(O:bW c f sc)(hA:cU n d A){a:Expr}{l u:Option Expr}{p p':Pos}{ro io:Nat}{x y:Option Int}{xs:List AV}{v:AV}{H1 H2 H3 H':AH}{rg:Nat}
 (h1:r.e sc lo a H=some (.loc ro io,H1))(h2:Ib (r.e sc lo) l H1=some (x,H2))(h3:Ib (r.e sc lo) u H2=some (y,H3))(h4:ae H3 ro io=some xs)(h5:newList H3 rg (ax xs x y)=some (v,H'))
 (hb:xs.length<ab)(C:CR c f s m lo H W):wpAny (model c.prog c.w) A (eval (.Subscript a (.Slice l u .none p') p) f.env) (EP c f m lo W v H') aY s:=by
 refine Subscript_ (ip (S.e O hA C h1) fun wo s1 W1 C1 l1 r1=>wpAny_Slice (a7 (β:=Unit) (Bk S O hA h2 C1) fun wl s2 hp'=>jb hp' fun p1 W2 C2 l2=>a7 (β:=Unit) (Bk S O hA h3 C2) fun wu s3 hp'=>jb hp' fun p2 W3 C3 l3=>?_));refine ar (r1.addr) fun ad e'1 ha=>?_;refine aa e'1 ?_;refine wpAny_pure ?_;refine bx (C3.isList (a_ h4) (l3.ad _ _ _ (l2.ad _ _ _ ha))) fun ws nn e1 e2 e3=>?_;revert h5;refine dD fun hlen h5=>?_
 refine tail_any (ops:=[.ref s3.heap.objs.size,.ref ad]) (Heap.IsList.typeIs (s:={s3 with heap:=s3.heap.push {cls:=.type "slice",data:=.fields #[wl,wu,.none]} }) ((ba e1).push _)) list_getitem_lookup
  (wpAny_getItem_list_slice ((ba e1).push _) (Heap.IsSliceOf.new ..) p1 p2 .none (by decide) ?_ ?_) rfl
 ·have C4:=C3.keep (h':=s3.heap.push {cls:=.type "slice",data:=.fields #[wl,wu,.none]}) (k:=s3.toks) (fun b o e=>Heap.get?_push_of_some _ e)
  obtain⟨C',l',hr⟩:=C4.new h5 (a:=(s3.heap.push {cls:=.type "slice",data:=.fields #[wl,wu,.none]}).objs.size) (o:=listOf (slicePick ws.toArray x y none) 0)
   (h':=(s3.heap.push {cls:=.type "slice",data:=.fields #[wl,wu,.none]}).push (listOf (slicePick ws.toArray x y none) 0)) (k:=s3.toks) (gG _) (C4.low O) (fun b o e=>Heap.get?_push_of_some _ e) (Heap.get?_push_size _ rfl)
   ⟨(slicePick ws.toArray x y none).toList,0,by simp,(Cy e3 x y)⟩
  exact⟨_,C',(l1.trans l2).trans (l3.trans l'),hr⟩
 ·refine aa NI (aa e3.length (aa sizeLine_eq ?_));unfold ab at hb;exact kh hb
theorem F8{k:Option Expr}{x:Str}(h:(k.bind litS)=some x):∃a p,k=some (.Constant (.str x) a p):=by
 revert h;refine aO fun e h1 h=>?_;subst h1;cases e with
 |Constant co kk p=>
  cases co with
  |str y=>revert h;refine aJ fun h=>?_;subst h;exact⟨_,_,rfl⟩
  |_=>first|exact ns h|cases h
 |_=>first|exact ns h|cases h
theorem mn{ks:List (Option Expr)}{xs:List Str}(h:fz ks=some xs):ks.all (·.isSome)=true∧ks.length=xs.length:=by
 induction ks generalizing xs with
 |nil=>revert h;refine aJ fun h=>?_;subst h;exact⟨rfl,rfl⟩
 |cons k ks ih=>
  refine ar (ob h) fun x h1 h=>?_;refine ar (om h) fun ys h2 e'2=>?_;clear h;clear h;subst e'2;refine sk (F8 h1) fun a p e'2=>?_;refine aa e'2 ?_;refine xA (ih h2) fun e1 e2=>?_;exact⟨by simpa using e1,by simpa using e2⟩
def PR(g:Gm)(W:Wd)(xs:List Str)(vs:List AV)(ps:List (Value×Value)):Prop:=∃ws,bh g W vs ws∧allStrKeys ps=true∧strPairs ps=xs.zip ws
theorem oy{g:Expr→AH→Option (AV×AH)}{es:List Expr}{H:AH}{vs:List AV}{H1:AH}(h:uA g es H=some (vs,H1)):vs.length=es.length:=by
 induction es generalizing H vs H1 with
 |nil=>revert h;refine nv fun h q1=>?_;subst h q1;rfl
 |cons e es ih=>
  revert h;refine aO fun v h1 h=>?_;revert h;refine fQ fun t h2 h=>?_;revert h;refine du fun h q1=>?_;subst h q1;exact congrArg (· +1) (ih (vs:=t.1) (H1:=t.2) h2)
theorem Ce(S:e_ c n d r)(O:bW c f sc)(hA:cU n d A){pos:Pos}{ks:List (Option Expr)}{xs:List Str}{es:List Expr}{s:Shared}{H:AH}{W:Wd}{vs:List AV}{H':AH}(hk:fz ks=some xs)(hl:xs.length=vs.length)
 (h:uA (r.e sc lo) es H=some (vs,H'))(C:CR c f s m lo H W):
 wpAny (model c.prog c.w) A (evalPairs (pairTrees ks es f.env pos)) (fun ps s'=>∃W',CR c f s' m lo H' W'∧Le W W'∧PR c.g W' xs vs ps) aY s:=by
 induction ks generalizing xs es s H W vs H' with
 |nil=>
  cases hk;have e:=oy h;have hv:vs=[]:=List.length_eq_zero_iff.mp hl.symm;subst hv;cases es with
  |nil=>cases h;exact evalPairs_nil ⟨W,C,Le.refl W,[],.nil,rfl,rfl⟩
  |cons e es=>first|exact ns e|cases e
 |cons k ks ih=>
  refine ar (ob hk) fun x h1 hk=>?_;refine ar (om hk) fun ys h2 e'2=>?_;clear hk;subst e'2;refine sk (F8 h1) fun a p e'2=>?_;clear h1 hk;subst e'2;have e:=oy h;cases es with
  |nil=>cases h;cases hl
  |cons e es=>
   refine ar (ob h) fun v q1 h=>?_;refine ar (om h) fun t q2 h=>?_;clear e;revert h;refine du fun h q1=>?_;subst h q1;refine evalPairs_cons (Calls.Constant_str (wpAny_bind (ip (S.e O hA (CR.tok (k:=s.toks+1) C) (v:=v.1) (H':=v.2) q1) fun w s1 W1 C1 l1 r1=>wpAny_bind (wpAny_standAt (wpAny_pure ?_)))));refine a7 (β:=Unit) (ih (vs:=t.1) (H':=t.2) h2 (by simpa using hl) q2 C1) fun ps s2 hp'=>?_;revert hp';refine Co fun W2 C2 l2 ws r2 hr'=>?_;revert hr';refine rA fun a1 a2=>?_;exact⟨W2,C2,l1.trans l2,w::ws,.cons (r1.mono l2.eR) r2,a1,by simp[strPairs,a2]⟩
theorem wM{g:Gm}:∀{xs:List Str}{vs:List AV}{ws:List Value},bh g W vs ws→xs.length=vs.length→kj g W (xs.zip vs) (xs.zip ws)
 |[],_,_,_=>fun _=>by simpa using kj.nil
 |x::xs,_,_,.nil=>fun h=>by cases h
 |x::xs,_,_,.cons h r=>fun e=>.cons h (wM r (by simpa using e))
theorem A4(S:e_ c n d r)(O:bW c f sc)(hA:cU n d A){ks:List (Option Expr)}{xs:List Str}{es:List Expr}{vs:List AV}{p:Pos}{v:AV}{H1 H':AH}{rg:Nat}(hk:fz ks=some xs)
 (h1:uA (r.e sc lo) es H=some (vs,H1))(hx:xs.length=vs.length∧xs.length<16∧xs.Nodup)(h2:cP H1 rg (.dict (xs.zip vs))=some (v,H'))(C:CR c f s m lo H W):
 wpAny (model c.prog c.w) A (eval (.Dict ks es p) f.env) (EP c f m lo W v H') aY s:=by
 refine xA (mn hk) fun k1 k2=>?_;have hle:ks.length=es.length:=by exact aa k2 (aa hx.1 (aa (oy h1) rfl))
 cases ks with
 |nil=>
  revert hk;refine aJ fun hk=>?_;subst hk;cases es with
  |cons e es=>first|exact ns hle|cases hle
  |nil=>
   revert h1;refine nv fun h1 q1=>?_;subst h1 q1;refine wpAny_Dict_empty ?_;refine ar (Heap.dictOf_iff.mp (Heap.DictOf.new (knd:=strKind c.prog c.w) s.heap)) fun o ho hd=>?_;refine gS (C.new h2 (a:=s.heap.objs.size) (k:=s.toks) (gG _) (C.low O) (fun b o e=>Heap.get?_push_of_some _ e) ho ⟨[],hd,.nil⟩) fun C' l' hr=>?_;exact⟨_,C',l',hr⟩
 |cons k0 ks=>
  refine wpAny_Dict_any k1 hle (by simp) (by refine aa k2 ?_;exact LN hx) ?_;refine a7 (β:=Unit) (Ce S O hA hk hx.1 h1 (C.G1 (a:=s.heap.objs.size) (o:={cls:=.type "dict",data:=.dict #[]}) (h':=s.heap.push {cls:=.type "dict",data:=.dict #[]}) (k:=s.toks) (gG s.heap) (fun b o e=>Heap.get?_push_of_some _ e) (Heap.get?_push_size _ rfl))) fun ps s1 hp'=>?_;revert hp';refine Co fun W1 C1 l1 ws r1 hr'=>?_;revert hr';refine rA fun a1 a2=>?_;refine xA (l1.ux) fun ex1 lx=>?_;refine j9 (C1.oz ex1) fun n1 n2 n3 n4 n5=>?_
  have hD:s1.heap.DictOf (strKind c.prog c.w) s.heap.objs.size []:=by
   refine ar (Heap.dictOf_iff.mp (Heap.DictOf.new (knd:=strKind c.prog c.w) s.heap)) fun o ho hd=>?_;rw[Heap.get?_push_size _ rfl]at ho;revert ho;refine aJ fun ho=>?_;subst ho;exact Heap.dictOf_iff.mpr ⟨_,n1,hd⟩
  have hwl:=r1.length;have hlen:(strPairs ps).length≤sizeLine:=by refine aa a2 (aa List.length_zip (aa sizeLine_eq ?_));have:=hx.2.1;exact N1 (Nat.min_le_left _ _) (NS (N_ hx.2.1 (by decide)))
  refine wpAny_storeAll ps (strPairs ps) [] s1 _ (carries_strPairs _ _ ps a1) hD (by simpa using hlen) fun h' hm hs=>?_;have hnd:((strPairs ps).map (·.1)).Nodup:=by refine aa a2 (aa (List.map_fst_zip (L3 hx hwl)) ?_);exact hx.2.2
  rw[merged_nil_of_nodup _ hnd,a2]at hm;refine ar (Heap.dictOf_iff.mp hm) fun o' ho' hd'=>?_;have C2:=C1.rq (k:=s1.toks+ps.length) ex1 hs ho';have C3:=C2.Bl (ex:=W.ex) (rg:=rg) rfl h2 (C.low O) ⟨_,hd',wM (r1.mono (W1.b9 _)) hx.1⟩;exact⟨_,C3.1,lx.trans (jC (W1.ux W.ex) rg s.heap.objs.size o'),C3.2⟩
end
end Hx
namespace Hx
open PySem PySem.W PyProof.Rows PySem.Calls
def zO(c:Cx)(n d:Nat)(r:EV):Prop:=∀{f:Fm}{sc csc:Scope}{s:Shared}{m:Str→Option Value}{lo:Lo}{H:AH}{W:Wd}{A:Around}{elt it tg:Expr}{ifs:List Expr}{rest:List Comprehension}{p:Pos}
    {xs v:AV}{I:It}{acc:List AV}{lo':Lo}{H1 H2 H':AH}{rg:Nat},
 bW c f sc→cU n (d+1) A→CR c f s m lo H W→rP sc csc=true→fo (⟨tg,it,ifs,0⟩::rest)=true→r.e sc lo it H=some (xs,H1)→fj H1 xs=some I→
 mO (compTurn r csc elt (⟨tg,it,ifs,0⟩::rest)) I [] (c9 csc lo) H1=some (acc,lo',H2)→newList H2 rg acc=some (v,H')→
 wpAny (model c.prog c.w) A (eval (.ListComp elt (⟨tg,it,ifs,0⟩::rest) csc p) f.env) (EP c f m lo W v H') aY s
section
variable{c:Cx}{f:Fm}{sc:Scope}{s:Shared}{m:Str→Option Value}{lo:Lo}{H:AH}{W:Wd}{A:Around}{n d:Nat}{r:EV}{cal:je}
theorem GR(S:e_ c n d r)(O:bW c f sc)(hA:cU n d A){op:UnaryOp}{a:Expr}{p:Pos}{v:AV}{H':AH}(h:MB r sc lo op a H=some (v,H'))(C:CR c f s m lo H W):wpAny (model c.prog c.w) A (eval (.UnaryOp op a p) f.env) (EP c f m lo W v H') aY s:=by
 cases op<;>(first|exact ns h|cases h|skip)
 ·revert h;refine aO fun t h1 h=>?_;revert h;refine fQ fun b h2 h=>?_;revert h;refine su ?_
  exact wpAny_UnaryOp (ip (S.e O hA C (v:=t.1) (H':=t.2) h1) fun w s1 W1 C1 l1 r1=>not_of (a7 (β:=Unit) (l8 h2 C1 r1) fun b' s2 hp'=>jb hp' fun e1 W2 C2 l2=>by
   clear hp';subst e1;exact⟨W2,C2,l1.trans l2,.bool _⟩))
 ·revert h;refine aO fun t h1 h=>?_;revert h;refine fQ fun i h2 h=>?_;revert h;refine su ?_
  exact wpAny_UnaryOp (ip (S.e O hA C (v:=t.1) (H':=t.2) h1) fun w s1 W1 C1 l1 r1=>by
   refine xE (r1.dq h2) fun tk e'1=>?_;clear r1;subst e'1;exact PyProof.Rows.neg_int ⟨W1,CR.tok C1,l1,.int _ _⟩)
theorem GO(S:e_ c n d r)(O:bW c f sc)(hA:cU n d A){e a b:Expr}{p:Pos}{v:AV}{H':AH}(h:MA r sc lo e a b H=some (v,H'))(C:CR c f s m lo H W):wpAny (model c.prog c.w) A (eval (.IfExp e a b p) f.env) (EP c f m lo W v H') aY s:=by
 revert h;refine aO fun t h1 h=>?_;refine IfExp_ (a7 (β:=Unit) (S.t O hA C (v:=t.1) (H':=t.2) h1) fun b s1 hp'=>jb hp' fun e1 W1 C1 l1=>?_);refine aa e1 ?_;by_cases q:t.1=true
 ·rw[if_pos q]at h⊢;exact zJ (S.e O hA C1 h) l1
 ·rw[if_neg q]at h⊢;exact zJ (S.e O hA C1 h) l1
theorem vJ{e:Expr}{ops:List CmpOp}{bs:List Expr}{v:Bool}{H':AH}(h:Ed r sc lo e ops bs H=some (v,H')):
 ∃op b t u,ops=[op]∧bs=[b]∧behindInMarks op b=false∧r.e sc lo e H=some t∧r.e sc lo b t.2=some u∧yX u.2 op t.1 u.1=some v∧H'=u.2:=by
 revert h;refine aO fun op h1 h=>?_;revert h;refine aO fun b h2 h=>?_;revert h;refine JA fun h3 h=>?_;revert h;refine aO fun t h4 h=>?_;revert h;refine aO fun u h5 h=>?_;revert h;refine fQ fun w h6 h=>?_;revert h;refine du fun h q1=>?_;subst h q1;exact⟨op,b,t,u,jW h1,jW h2,by simpa using h3,h4,h5,h6,rfl⟩
theorem zA{i:Expr}{s2:Option Expr×Option Expr}(h:slice? i=some s2):∃l u p,i=.Slice l u .none p∧s2=(l,u):=by
 cases i with
 |Slice l u st p=>
  revert h;refine dD fun h2 h1=>?_;revert h1;refine nv fun h1 q1=>?_;subst h1 q1;cases st with
  |none=>exact⟨_,_,p,rfl,rfl⟩
  |some x=>first|exact ns h2|exact gz h2
 |_=>first|exact ns h|cases h
theorem Ef(KO:eO c)(S:e_ c n d r)(O:bW c f sc)(hA:cU n d A){a i:Expr}{p:Pos}{v:AV}{H':AH}(h:Ee c.P r sc lo a i p H=some (v,H'))(C:CR c f s m lo H W):wpAny (model c.prog c.w) A (eval (.Subscript a i p) f.env) (EP c f m lo W v H') aY s:=by
 by_cases q:isSlice i=true
 ·have h:((slice? i).bind fun s=>uv c.P r sc lo a s.1 s.2 p H)=some (v,H'):=by unfold Ee at h;rwa [if_pos q]at h
  revert h;refine aO fun s2 h1 h=>?_;refine Gi (zA h1) fun l u p' e'3 e2=>?_;clear h1;refine aa e'3 ?_;subst e2;revert h;refine aO fun t g1 h=>?_;revert h;refine aO fun w g2 h=>?_;revert h;refine aO fun x g3 h=>?_;revert h;refine aO fun y g4 h=>?_;revert h;refine aO fun xs g5 h=>?_;revert h;refine dD fun g6 h=>?_;exact zz S O hA (ro:=w.1) (io:=w.2) (H1:=t.2) (x:=x.1) (H2:=x.2) (y:=y.1) (H3:=y.2) (by refine aa g1 ?_;rw[←AV.sx g2]) g3 g4 g5 h g6 C
 ·have h:((r.e sc lo a H).bind fun t=>(r.e sc lo i t.2).bind fun u=>(ve u.2 t.1 u.1).map (·,u.2))=some (v,H'):=by unfold Ee at h;rwa [if_neg q]at h
  revert h;refine aO fun t g1 h=>?_;revert h;refine aO fun u g2 h=>?_;revert h;refine fQ fun w g3 h=>?_;revert h;refine su ?_;refine Ff KO S O hA (ov:=t.1) (H1:=t.2) (iv:=u.1) (H2:=u.2) (fun a b c p e=>?_) g1 g2 g3 C;clear g2 h;subst e;exact q rfl
theorem A_(KO:eO c)(S:e_ c n d r)(K:kN c n cal)(O:bW c f sc)(hA:cU n d A){g:Expr}{args:List Expr}{ks:List Keyword}{p:Pos}{v:AV}{H':AH}(h:FT c.P cal r sc lo g args ks p H=some (v,H'))(C:CR c f s m lo H W):
 wpAny (model c.prog c.w) A (eval (.Call g args ks p) f.env) (EP c f m lo W v H') aY s:=by
 revert h;refine aO fun _ hn h=>?_;refine aa (ik hn) ?_
 have plain:I4 c.P cal r sc lo g args p H=some (v,H')→eval (.Call g args [] p) f.env=(do callWith p (←eval g f.env) [] (backTo p (starEach args f.env)) (backToKw p (keywordEach [] f.env)))→
  wpAny (model c.prog c.w) A (eval (.Call g args [] p) f.env) (EP c f m lo W v H') aY s:=fun h he=>by
  revert h;refine aO fun t g1 h=>?_;revert h;refine aO fun u g2 h=>?_;exact D8 KO S K O hA (fv:=t.1) (H1:=t.2) (vs:=u.1) (H2:=u.2) g1 g2 h C he
 cases g<;>(first|exact plain h rfl|skip);revert h;refine dD fun h0 h=>?_;simp only[ND,Nat.blt_eq]at h0;revert h;refine aO fun t g1 h=>?_;revert h;refine aO fun mf g2 h=>?_;revert h;refine aO fun u g3 h=>?_;exact ES KO S K O hA h0.1.1 (NR h0.1.2) h0.2 (ov:=t.1) (H1:=t.2) (vs:=u.1) (H2:=u.2) g1 g2 g3 h C
theorem B_{g:Comprehension}(h:B9 g=true):∃x px it ifs,g=⟨.Name x px,it,ifs,0⟩:=by
 obtain⟨t,it,ifs,a⟩:=g;unfold B9 at h;rw[ND]at h;have:a=0:=of_decide_eq_true h.2;subst this;cases t with
 |Name=>exact⟨_,_,_,_,rfl⟩
 |_=>exact absurd h.1 NG
theorem gH{g:Comprehension}{rest:List Comprehension}(h:fo (g::rest)=true):(∃x px it ifs,g=⟨.Name x px,it,ifs,0⟩)∧fo rest=true:=by
 unfold fo at h⊢;rw[List.all_cons,ND]at h;exact⟨B_ h.1,h.2⟩
structure Gj (r:EV) (sc:Scope) (lo:Lo) (H:AH) (elt:Expr) (gens:List Comprehension) (csc:Scope) (rg:Nat) (v:AV) (H':AH):Prop where
 is:∃tg it ifs rest t I u,gens=⟨tg,it,ifs,0⟩::rest∧rP sc csc=true∧fo (⟨tg,it,ifs,0⟩::rest)=true∧r.e sc lo it H=some (t:AV×AH)∧fj t.2 t.1=some I∧
  mO (compTurn r csc elt (⟨tg,it,ifs,0⟩::rest)) I [] (c9 csc lo) t.2=some (u:List AV×Lo×AH)∧newList u.2.2 rg u.1=some (v,H')
theorem rp{P:PT}{elt:Expr}{gens:List Comprehension}{csc:Scope}{p:Pos}{v:AV}{H':AH}(h:FU P r sc lo elt gens csc p H=some (v,H')):Gj r sc lo H elt gens csc (P.site p) v H':=by
 revert h;refine dD fun h0 h=>?_;rw[ND]at h0;revert h;refine aO fun g h1 h=>?_;revert h;refine aO fun t h2 h=>?_;revert h;refine aO fun I h3 h=>?_;revert h;refine aO fun u h4 h5=>?_;cases gens with
 |nil=>first|exact ns h1|cases h1
 |cons g0 rest=>
  revert h1;refine aJ fun h1=>?_;subst h1;obtain⟨⟨x,px,it,ifs,e⟩,_⟩:=gH h0.2;subst e;exact⟨⟨_,_,_,_,t,I,u,rfl,h0.1,h0.2,h2,h3,h4,h5⟩⟩
theorem GX(KO:eO c)(S:e_ c n d r)(K:kN c n cal)(CO:zO c n d r)(O:bW c f sc)(hA:cU n (d+1) A){ex:Expr}{v:AV}{H':AH}
 (h:K0 c.P cal r sc lo ex H=some (v,H'))(C:CR c f s m lo H W):wpAny (model c.prog c.w) A (eval ex f.env) (EP c f m lo W v H') aY s:=by
 have hA':cU n d A:=hA.less (NQ _) (Oe _);cases ex with
 |Constant=>
  revert h;refine fQ fun x h1 h2=>?_;revert h2;refine su ?_;exact A2 h1 C
 |Name=>
  revert h;refine fQ fun x h1 h2=>?_;revert h2;refine su ?_;exact EX KO O h1 C
 |UnaryOp=>exact GR S O hA' h C
 |BoolOp=>exact Hr S O hA' h C
 |IfExp=>exact GO S O hA' h C
 |BinOp=>
  revert h;refine aO fun t g1 h=>?_;revert h;refine aO fun u g2 h=>?_;exact D5 S O hA' (x:=t.1) (H1:=t.2) (y:=u.1) (H2:=u.2) g1 g2 h C
 |Compare=>
  revert h;refine fQ fun b h1 h2=>?_;revert h2;refine su ?_;refine vi (vJ (v:=b.1) (H':=b.2) h1) fun op b' t u e'4 hr'=>?_;clear h1;subst e'4;revert hr';refine Cn fun e'0 g1 g2 g3 g4 g5=>?_;subst e'0;refine aa g5 ?_;exact Ea KO S O hA' (x:=t.1) (H1:=t.2) (y:=u.1) (H2:=u.2) g1 g2 g3 g4 C
 |Attribute=>
  revert h;refine dD fun h0 h=>?_;revert h;refine aO fun t g1 h=>?_;revert h;refine fQ fun b g2 h=>?_;revert h;refine su ?_;exact DY KO S O hA' h0 (ov:=t.1) (H1:=t.2) g1 g2 C
 |Subscript=>exact Ef KO S O hA' h C
 |Tuple=>
  revert h;refine aO fun t g1 h=>?_;revert h;refine dD fun hl h=>?_;revert h;refine Dj ?_;exact Tuple_ (KL (uC S O hA' (vs:=t.1) (H':=t.2) g1 C) fun ws s1 W1 C1 l1 r1=>zJ (rO hl C1 r1) l1)
 |List=>
  revert h;refine aO fun t g1 h=>?_;exact List_ (KL (uC S O hA' (vs:=t.1) (H':=t.2) g1 C) fun ws s1 W1 C1 l1 r1=>zJ (u3 O h C1 r1) l1)
 |Dict=>
  revert h;refine aO fun xs g1 h=>?_;revert h;refine aO fun t g2 h=>?_;revert h;refine dD fun hx h=>?_;exact A4 S O hA' g1 (vs:=t.1) (H1:=t.2) g2 hx h C
 |Call=>exact A_ KO S K O hA' h C
 |ListComp=>
  refine iF ((rp h).is) fun tg it ifs rest t hr'=>?_;revert hr';refine iB fun I u e'2 g1 g2 hr'=>?_;refine aa e'2 ?_;revert hr';refine Ck fun g3 g4 g5 g6=>?_;exact CO O hA C g1 g2 (xs:=t.1) (H1:=t.2) (acc:=u.1) (lo':=u.2.1) (H2:=u.2.2) g3 g4 g5 g6
 |_=>first|exact ns h|cases h
theorem iT(S:e_ c n d r)(O:bW c f sc)(hA:cU n d A){ex:Expr}{v:Bool}{H':AH}(h:uy r sc lo ex H=some (v,H'))(C:CR c f s m lo H W)
 (he:isTrue ex f.env (eval ex f.env)=(do let v←eval ex f.env;standAt ex.pos;holding [v] (truthy v))):wpAny (model c.prog c.w) A (isTrue ex f.env (eval ex f.env)) (BP c f m lo W v H') aY s:=by
 revert h;refine aO fun t g1 h=>?_;revert h;refine fQ fun b g2 h=>?_;revert h;refine Mt ?_;exact vg S O hA (x:=t.1) (H1:=t.2) g1 g2 C he
theorem GZ(KO:eO c)(S:e_ c n d r)(O:bW c f sc)(hA:cU n (d+1) A){ex:Expr}{v:Bool}{H':AH}
 (h:K1 r sc lo ex H=some (v,H'))(C:CR c f s m lo H W):wpAny (model c.prog c.w) A (isTrue ex f.env (eval ex f.env)) (BP c f m lo W v H') aY s:=by
 have hA':cU n d A:=hA.less (NQ _) (Oe _);cases ex with
 |UnaryOp op a p=>
  cases op<;>(first|exact ns h|cases h|skip);revert h;refine fQ fun x h1 h2=>?_;revert h2;refine Mt ?_;exact wpAny_isTrue_Not (a7 (β:=Unit) (S.t O hA' C (v:=x.1) (H':=x.2) h1) fun b s1⟨e1,p⟩=>⟨by exact aa e1 rfl,p⟩)
 |BoolOp=>rw[arm_isTrue_BoolOp];exact DW S O hA' h C
 |Compare=>
  refine vi (vJ h) fun op b' t u e'4 hr'=>?_;refine aa e'4 ?_;revert hr';refine Cn fun e'0 g1 g2 g3 g4 g5=>?_;refine aa e'0 ?_;refine aa g5 ?_;exact AZ KO S O hA' (x:=t.1) (H1:=t.2) (y:=u.1) (H2:=u.2) g1 g2 g3 g4 C
 |Name=>exact iT S O hA' h C rfl
 |Call=>exact iT S O hA' h C rfl
 |Attribute=>exact iT S O hA' h C rfl
 |Subscript=>exact iT S O hA' h C rfl
 |Constant=>exact iT S O hA' h C rfl
 |_=>first|exact ns h|cases h
end
end Hx
namespace Hx
open PySem PySem.W PyProof.Rows PySem.Calls
inductive gm (g:Gm) (W:Wd) (it:Addr) (o:Obj):It→Nat→Prop
 |list {r i n l j}:W.ad r i=some l→(∀h:Heap,h.get? it=some o→h.IsListIter it l j)→gm g W it o (.live r i n) j
 |tup {vs ws a nn j}:(a,sb ws nn)∈W.tp→bh g W vs ws→(∀h:Heap,h.get? it=some o→h.IsTupleIter it a j)→gm g W it o (.fix vs) j
 |l9 {a j}:a∈g.em→(∀h:Heap,h.get? it=some o→h.IsTupleIter it a j)→gm g W it o (.fix []) j
 |kf {vs:List AV} {x left step:Int} {j:Nat}:(∀h:Heap,h.get? it=some o→IsRangeIter h it x left step)→left=(vs.length:Int)-(j:Int)→(∀k:Nat,j+k<vs.length→vs[j+k]?=some (AV.int (x+k*step)))→gm g W it o (.fix vs) j
theorem gm.mono{g:Gm}{W W':Wd}{it:Addr}{o:Obj}{I:It}{j:Nat}(l:jc W W')(h:gm g W it o I j):gm g W' it o I j:=by
 cases h with
 |list h1 h2=>exact .list (l.ad _ _ _ h1) h2
 |tup h1 h2 h3=>exact .tup (l.tp _ h1) (h2.mono l) h3
 |l9 h1 h2=>exact .l9 h1 h2
 |kf h1 h2 h3=>exact .kf h1 h2 h3
section
variable{c:Cx}{f:Fm}{sc:Scope}{s:Shared}{m:Str→Option Value}{lo:Lo}{H:AH}{W:Wd}{A:Around}{n d:Nat}{r:EV}{cal:je}
theorem CR.oA{a:Addr}{o:Obj}{ex:NL}{h':Heap}{k:Tok}(C:CR c f s m lo H W)(e:W.ex=(a,o)::ex)(hs:Heap.ExtBut a s.heap h'):CR c f {s with heap:=h',toks:=k} m lo H (W.ux ex):=by
 refine j9 (C.oz e) fun n1 n2 n3 n4 n5=>?_;have C0:=C.vP e;have F:=C.F;refine⟨⟨F.ns.extBut hs (Ne.symm n2),fun b ob q=>hs b ob (fun z=>by rw[z,n3]at q;exact cZ q) (F.keep b ob q),F.above⟩,fun p hp=>?_,C0.ap,C0.big,C0.hr,C0.lv,C0.gens,C0.os⟩;refine⟨hs _ _ ?_ (C0.N p hp).1,(C0.N p hp).2⟩;rcases Wd.dR hp with⟨r',i',q⟩|q
 ·intro e';refine n5 r' i' ?_;unfold Wd.ad;refine aa (show W.pt r' i'=some p from q) ?_;exact bR e' rfl
 ·exact n4 p q
theorem CR.BA(KO:eO c)(O:bW c f sc)(C:CR c f s m lo H W){a:Addr}{ws:List Value}{nn:Nat}(h:(a,sb ws nn)∈W.tp):s.heap.IsTuple a ws.toArray:=
 ⟨_,C.N.get (Nm _ (Nr _ h)),rfl,nn,rfl⟩
theorem CR.BB(KO:eO c)(O:bW c f sc)(C:CR c f s m lo H W){a:Addr}(h:a∈c.g.em):s.heap.IsTuple a #[]:=by
 refine HX (KO.em _ h) fun d n sl e=>?_;exact⟨_,(O.KX.keeps C.F.keep) _ _ e,rfl,n,rfl⟩
def Iz(c:Cx)(f:Fm)(m:Str→Option Value)(lo:Lo)(H:AH)(W:Wd)(it:Addr)(ex:NL)(I:It)(j:Nat)(v:AV)(r:Option Value)(s':Shared):Prop:=
 ∃w o',r=some w∧CR c f s' m lo H (W.ux ((it,o')::ex))∧VR c.g W v w∧gm c.g W it o' I (j+1)
set_option tactic.hygienic true in
theorem wm(KO:eO c)(O:bW c f sc){it:Addr}{o:Obj}{ex:NL}{I:It}{j:Nat}{v:AV}(C:CR c f s m lo H W)(e:W.ex=(it,o)::ex)(h:gm c.g W it o I j)(hv:jV H I j=some (some v)):
 wpAny (model c.prog c.w) A (pyNext (.ref it)) (Iz c f m lo H W it ex I j v) aY s:=by
 refine j9 (C.oz e) fun n1 n2 n3 n4 n5=>?_;cases h with
 |list h1 h2=>
  rename_i ro io nn l;revert hv;refine aO fun xs q1 q2=>?_;revert q2;refine dD fun _ q2=>?_;refine bx (C.isList (a_ q1) h1) fun vs k e1 e2 e3=>?_;refine ar (e3.get (NF q2)) fun y y1 y2=>?_;refine wpAny_pyNext_list_item (h2 _ n1) (ba e1) (by simpa using y1) fun h' hi hs=>?_;revert hi;refine zu fun o' ho hc hd=>?_;exact⟨y,o',rfl,C.rq e hs ho,y2,.list h1 fun h q=>⟨o',q,hc,hd⟩⟩
 |tup h1 h2 h3=>
  refine ar (h2.get (NF hv)) fun y y1 y2=>?_;refine wpAny_pyNext_tuple_item (h3 _ n1) (C.BA KO O h1) (by simpa using y1) fun h' hi hs=>?_;revert hi;refine zu fun o' ho hc hd=>?_;exact⟨y,o',rfl,C.rq e hs ho,y2,.tup h1 h2 fun h q=>⟨o',q,hc,hd⟩⟩
 |l9 h1 h2=>simp[jV]at hv
 |kf h1 h2 h3=>
  rename_i vs x left step;have hv':vs[j]?=some v:=NF hv;have hj:j<vs.length:=(N4.mp hv').1;have hx:=h3 0 (by assumption);rw[Nat.add_zero,hv']at hx;have hx:=NF hx;simp only[Int.natCast_zero,Int.zero_mul,Int.add_zero]at hx;refine wpAny_pyNext_range_item (h1 _ n1) (L8 h2 hj) fun h' hi hs=>?_;refine⟨_,_,rfl,C.rq (k:=s.toks+1) e hs hi,by refine aa hx ?_;exact .int _ _,.kf (fun h q=>q) (L9 h2) fun k hk=>?_⟩;have:=h3 (k+1) ((LA [_,_,_] (Sx (.a V0 (Sx V1))) V2 (Sx (.a (Sx V0) V1)) V2 rfl hk));rw[show j+(k+1)=j+1+k by exact Eq.symm (Nat.succ_add_eq_add_succ _ _)]at this;refine aa this ?_
  congr 2
  push_cast
  rw[Int.add_mul,Int.one_mul];exact(congrArg _ (Int.add_comm _ _)).trans (Int.add_assoc _ _ _).symm
set_option tactic.hygienic true in
theorem Bc(KO:eO c)(O:bW c f sc)(hh:A.handled=none){it:Addr}{o:Obj}{ex:NL}{I:It}{j:Nat}(C:CR c f s m lo H W)(e:W.ex=(it,o)::ex)(h:gm c.g W it o I j)(hv:jV H I j=some none):
 wpAny (model c.prog c.w) A (pyNext (.ref it)) (fun r s'=>r=none∧CR c f s' m lo H (W.ux ex)) aY s:=by
 refine j9 (C.oz e) fun n1 n2 n3 n4 n5=>?_;cases h with
 |list h1 h2=>
  rename_i ro io nn l;revert hv;refine aO fun xs q1 q2=>?_;revert q2;refine dD fun _ q2=>?_;refine bx (C.isList (a_ q1) h1) fun vs k e1 e2 e3=>?_;exact wpAny_pyNext_list_end hh (h2 _ n1) (ba e1) (by have:=e3.length;simp;exact H7 this (List.getElem?_eq_none_iff.mp (NF q2))) fun h' hs=>⟨rfl,C.oA e hs⟩
 |tup h1 h2 h3=>
  have hv':=List.getElem?_eq_none_iff.mp (NF hv);exact wpAny_pyNext_tuple_end hh (h3 _ n1) (C.BA KO O h1) (by have:=h2.length;simp;exact H7 this hv') fun h' hs=>⟨rfl,C.oA e hs⟩
 |l9 h1 h2=>exact wpAny_pyNext_tuple_end hh (h2 _ n1) (C.BB KO O h1) rfl fun h' hs=>⟨rfl,C.oA e hs⟩
 |kf h1 h2 h3=>
  exact wpAny_pyNext_range_end hh (h1 _ n1) (L7 h2 (List.getElem?_eq_none_iff.mp (NF hv))) fun h' hs=>⟨rfl,C.oA e hs⟩
theorem zv{a b st:Int}(h:st=1∨st=-1):(aH a b st).length=(Builtin.Range.rangeSize a b st).toNat∧0≤Builtin.Range.rangeSize a b st∧∀k,k<(aH a b st).length→(aH a b st)[k]?=some (.int (a+k*st)):=by
 unfold aH Builtin.Range.rangeSize;rcases h with rfl|rfl
 ·simp only[if_true,show(1:Int)>0 by decide,Int.ediv_one,Nn,N0];refine⟨by split<;>lia,by split<;>lia,fun k hk=>?_⟩;refine aa (Nz) (aa (OF hk) ?_);simp
 ·simp only[show¬((-1:Int)=1) by decide,if_false,show¬((-1:Int)>0) by decide,Int.neg_neg,Int.ediv_one,Nn,N0];refine⟨by split<;>lia,by split<;>lia,fun k hk=>?_⟩;refine aa (Nz) (aa (OF hk) ?_);simp
  rfl
theorem rY{a b st:Int}(h:st=1∨st=-1)(ha:-1000000000<a∧a<1000000000)(hb:-1000000000<b∧b<1000000000):Builtin.Range.small a b st=true:=by
 have key:Builtin.Range.rangeSize a b st<2000000000∧0≤Builtin.Range.rangeSize a b st:=by
  unfold Builtin.Range.rangeSize;rcases h with rfl|rfl
  ·simp only[show(1:Int)>0 by decide,if_true,Int.ediv_one];split<;>lia
  ·simp only[show¬((-1:Int)>0) by decide,if_false,Int.neg_neg,Int.ediv_one];split<;>lia
 have fit:∀k:Int,-4000000000<k→k<4000000000→Builtin.Range.rangeFitsLong k=true:=fun k h1 h2=>by
  unfold Builtin.Range.rangeFitsLong;simp only[ND,decide_eq_true_eq];lia
 unfold Builtin.Range.small;refine aa (fit a (by exact OH (by decide) ha.1) (by exact OH ha.2 (by decide))) (aa (fit b (by exact OH (by decide) hb.1) (by exact OH hb.2 (by decide))) (aa (fit st (by exact LZ h) (by exact LU h)) (aa (fit _ (by exact OP (by decide) key.2) (by exact OH key.1 (by decide))) ?_)))
 (try clear key);rcases h with rfl|rfl
 ·refine aa (if_pos (by decide)) (aa (fit _ (by exact OP (OH (by decide) hb.1) (Int.le_add_of_nonneg_right (OI _))) (by exact Mf hb)) ?_);simp
 ·refine aa (if_neg (by decide)) (aa (fit _ (by exact Mm hb) (by exact Mh hb)) ?_);simp
set_option tactic.hygienic true in
theorem oH(KO:eO c)(O:bW c f sc){v:AV}{w:Value}{I:It}(hI:fj H v=some I)(C:CR c f s m lo H W)(hv:VR c.g W v w):
 wpAny (model c.prog c.w) A (pyIter w) (fun x s'=>∃it o,x=.ref it∧CR c f s' m lo H (W.ux ((it,o)::W.ex))∧gm c.g W it o I 0) aY s:=by
 have new:∀(o:Obj),CR c f {s with heap:=s.heap.push o} m lo H (W.ux ((s.heap.objs.size,o)::W.ex))∨o.isFreed=true:=fun o=>by
  cases q:o.isFreed with
  |false=>exact .inl (C.G1 (k:=s.toks) (gG _) (fun b o e=>Heap.get?_push_of_some _ e) (Heap.get?_push_size _ q))
  |true=>exact .inr rfl
 cases v<;>(first|exact ns hI|(revert hI;refine aJ fun hI=>?_;subst hI)|skip)
 ·cases hv with
  |tup h r=>exact wpAny_pyIter_tuple (C.BA KO O h) ⟨_,_,rfl,(new _).resolve_right (by simp[Obj.isFreed]),.tup h r fun h q=>⟨_,q,rfl,rfl⟩⟩
  |l9 h=>exact wpAny_pyIter_tuple (C.BB KO O h) ⟨_,_,rfl,(new _).resolve_right (by simp[Obj.isFreed]),.l9 h fun h q=>⟨_,q,rfl,rfl⟩⟩
 ·refine ar (hv.addr) fun a e'1 ha=>?_;refine aa e'1 ?_;revert hI;refine fQ fun xs q1 q2=>?_;subst q2;refine bx (C.isList (a_ q1) ha) fun vs k e1 e2 e3=>?_;refine wpAny_pyIter_list (ba e1) ⟨_,_,rfl,(new _).resolve_right (by simp[Obj.isFreed]),.list ha fun h q=>⟨_,q,rfl,rfl⟩⟩
 ·rename_i a b st;revert hI;refine dD fun hs hI=>?_;cases hI;simp only[ND,Bool.or_eq_true,decide_eq_true_eq]at hs;refine gS (zv (a:=a) (b:=b) hs.2) fun q1 q2 q3=>?_;cases hv with
  |kf h=>
   have hm:=C.N.get (Nm _ (Nr _ h));exact wpAny_pyIter_range hm (rY hs.2 (cS hs.1.1) (cS hs.1.2)) ⟨_,_,rfl,(new _).resolve_right (by simp[Obj.isFreed]),.kf (x:=a) (left:=Builtin.Range.rangeSize a b st) (step:=st) (fun h q=>q) (Md q2 q1) fun k hk=>by rw[O0]at hk⊢;exact q3 k hk⟩
end
end Hx
namespace Hx
open PySem PySem.W PyProof.Rows PySem.Calls
section
variable{c:Cx}{f:Fm}{sc:Scope}{s:Shared}{m:Str→Option Value}{lo:Lo}{H:AH}{W:Wd}{A:Around}{n d:Nat}{r:EV}{cal:je}
theorem XP.le{W':Wd}{af:AF}{lo':Lo}{H':AH}{fl:Flow}(h:XP c f W' af lo' H' fl s)(l:kA W W'):XP c f W af lo' H' fl s:=
 let⟨m',W'',C,l',q⟩:=h;⟨m',W'',C,l.trans l',q⟩
theorem CR.HD(C:CR c f s m lo H W)(O:bW c f sc){x:Str}{v:AV}{w:Value}{h':Heap}{k:Tok}{a:Addr}{o o':Obj}(hv:VR c.g W v w)(hk:f.env.kindOf x=some .cell)(ha:f.env.cells.lookup x=some a)(hm:(a,o)∈W.cl)
 (hs:Heap.SameBut a s.heap h')(ho:h'.get? a=some o')(hd:o'.data=.cell (some w)):
 CR c f {s with heap:=h',toks:=k} m (pt x v lo) H {W with cl:=W.cl.map (fun p=>if p.1=a then(a,o')else p)}:=by
 have hin:(a,o)∈W.tp++(W.ex++W.cl):=Nm _ (Nm _ hm);have n0:=C.N _ (Nm _ hin);have l0:jc W {W with cl:=W.cl.map (fun p=>if p.1=a then(a,o')else p)}:=⟨fun _ _ _ h=>h,fun _ h=>h⟩
 have keys:(W.cl.map (fun p=>if p.1=a then(a,o')else p)).map (·.1)=W.cl.map (·.1):=by
  refine aa List.map_map ?_;refine NY fun p _=>?_;show(if p.1=a then(a,o')else p).1=p.1;split
  ·rename_i e;exact e.symm
  ·rfl
 have nd:=C.ap.nd
 have ndc:(W.cl.map (·.1)).Nodup:=by
  rw[Nu,Nu]at nd;exact(Oh.mp (Oh.mp nd).2.1).2.1
 have memc:∀p∈W.cl.map (fun p=>if p.1=a then(a,o')else p),p=(a,o')∨(p∈W.cl∧p.1≠a):=fun p hp=>by
  refine ar (NU.mp hp) fun q hq e'2=>?_;subst e'2;by_cases e:q.1=a
  ·left;simp[e]
  ·right;simp[e,hq]
 have apart:∀p∈W.tp++W.ex,p.1≠a:=fun p hp e=>by
  rw[←NK,Nu]at nd;exact(Oh.mp nd).2.2 p.1 (List.mem_map_of_mem hp) a (NU.mpr ⟨_,hm,rfl⟩) e
 have keep:∀p∈W.all,p.1≠a→h'.get? p.1=some p.2∧p.1≠f.env.locals∧f.h₀.get? p.1=none:=fun p hp ne=>by
  have n:=C.N p hp;exact⟨(hs.2 _ ne).trans n.1,n.2⟩
 refine⟨C.F.change hs n0.2.1 n0.2.2,fun p hp=>?_,⟨C.ap.inj,fun r i b h q hq=>?_,?_⟩,C.big,C.hr.mono rfl l0,⟨fun y u e=>?_,fun y hy=>?_⟩,C.gens,C.os⟩
 ·rcases Wd.dR hp with⟨r',i',q⟩|q
  ·refine keep p (Wd.bP (W:=W) q) fun e'=>C.ap.sep r' i' a ?_ _ hin rfl;unfold Wd.ad;refine aa (show W.pt r' i'=some p from q) ?_;refine bR e' ?_;rfl
  ·rcases Nw.mp q with q|q
   ·exact keep p (Nm _ (Nr _ q)) (apart p (Nr _ q))
   ·rcases Nw.mp q with q|q
    ·exact keep p (Nm _ (Nm _ (Nr _ q))) (apart p (Nm _ q))
    ·clear hp;rcases memc p q with rfl|⟨q1,q2⟩
     ·exact⟨ho,n0.2⟩
     ·exact keep p (Nm _ (Nm _ (Nm _ q1))) q2
 ·rcases Nw.mp hq with hq|hq
  ·exact C.ap.sep r i b h q (Nr _ hq)
  ·rcases Nw.mp hq with hq|hq
   ·exact C.ap.sep r i b h q (Nm _ (Nr _ hq))
   ·clear apart ho hs keep n0 ndc;rcases memc q hq with rfl|⟨q1,q2⟩
    ·exact C.ap.sep r i b h (a,o) hin
    ·exact C.ap.sep r i b h q (Nm _ (Nm _ q1))
 ·show((W.tp++(W.ex++W.cl.map (fun p=>if p.1=a then(a,o')else p))).map (·.1)).Nodup;refine aa Nu (aa Nu (aa keys ?_));rw[←Nu,←Nu];exact nd
 ·have put:(a,o')∈W.cl.map (fun p=>if p.1=a then(a,o')else p):=NU.mpr ⟨(a,o),hm,by simp⟩;rw[BO]at e;by_cases q:y=x
  ·clear apart hin ho hs keep keys memc n0 nd ndc;subst q;rw[if_pos rfl]at e;revert e;refine aJ fun e=>?_;subst e;refine⟨fun z=>?_,fun _=>⟨a,o',w,ha,put,hd,hv.mono l0⟩⟩;rw[hk]at z;clear hk hv;revert z;refine aJ fun z=>?_;cases z
  ·rw[if_neg q]at e;refine xA (C.lv.1 y u e) fun z1 z2=>?_;refine⟨fun z=>?_,fun z=>?_⟩
   ·obtain⟨t,h1,h2⟩:=z1 z;exact⟨t,h1,h2.mono l0⟩
   ·refine dh (z2 z) fun b ob t h1 h2 hr'=>?_;revert hr';refine rA fun h3 h4=>?_;refine⟨b,ob,t,h1,NU.mpr ⟨_,h2,?_⟩,h3,h4.mono l0⟩;exact aa (if_neg fun e=>q (O.IQ y x a (by rw[←show b=a from e];exact h1) ha)) rfl
 ·have put:(a,o')∈W.cl.map (fun p=>if p.1=a then(a,o')else p):=NU.mpr ⟨(a,o),hm,by simp⟩;refine dh (C.lv.2 y hy) fun b ob t h1 h2 h3=>?_;by_cases e:b=a
  ·clear C O apart ha hin hk hm ho hs hv hy keep keys l0 memc n0 nd ndc;subst e;exact⟨b,o',_,h1,put,hd⟩
  ·exact⟨b,ob,t,h1,NU.mpr ⟨_,h2,by simp[e]⟩,h3⟩
def MU(c:Cx)(f:Fm)(W:Wd)(lo':Lo)(H':AH)(s':Shared):Prop:=∃m' W',CR c f s' m' lo' H' W'∧kA W W'
theorem vd(O:bW c f sc){x:Str}{v:AV}{w:Value}{lo':Lo}(h:oY sc lo x v=some lo')(C:CR c f s m lo H W)(hv:VR c.g W v w):
 wpAny (model c.prog c.w) A (storeName f.env x w) (fun _ s'=>MU c f W lo' H s') aY s:=by
 unfold oY at h;split at h
 ·rename_i hs;revert h;refine aJ fun h=>?_;subst h;unfold d4 at hs;have hn:=O.names x;rw[Bool.or_eq_true]at hs;refine Or.elim hs (fun hs=>?_) fun hs=>?_
  ·have e:=beq_iff_eq.mp hs;rw[e]at hn;have hn:f.env.kindOf x=some .local:=hn;exact wpAny_storeName_local hn C.F.ns (fun h' hn' hs'=>⟨_,W,C.store hv hn hn' hs',kA.refl W⟩) (by exact aa O.kd rfl)
  ·have e:=beq_iff_eq.mp hs;rw[e]at hn;have hn:f.env.kindOf x=some .cell:=hn;refine dh (C.lv.2 x hn) fun a o y h1 h2 h3=>?_;refine wpAny_storeName_cell O.kd hn h1 ⟨o,(C.N.get (Nm _ (Nm _ (Nm _ h2)))),h3⟩ fun h' hc hs'=>?_;revert hc;refine JI fun o' ho' hd'=>?_;exact⟨m,_,C.HD O hv hn h1 h2 hs' ho' hd',⟨fun _ _ _ h=>h,fun _ h=>h,fun _ h=>h,rfl⟩⟩
 ·exact cZ h
theorem fP(O:bW c f sc){x:Str}{v:AV}{w:Value}(h:cM sc x=true)(C:CR c f s m lo H W)(hv:VR c.g W v w):
 wpAny (model c.prog c.w) A (storeName f.env x w) (fun _ s'=>∃m',CR c f s' m' (pt x v lo) H W) aY s:=by
 have hn:=O.names x;rw[beq_iff_eq.mp (show(sc.names.lookup x==some .local)=true from h)]at hn;have hn:f.env.kindOf x=some .local:=hn;exact wpAny_storeName_local hn C.F.ns (fun h' hn' hs'=>⟨_,C.store hv hn hn' hs'⟩) (by exact aa O.kd rfl)
theorem iy(S:e_ c n d r)(O:bW c f sc)(hA:cU n d A){b:List Stmt}{s:Shared}{m:Str→Option Value}{lo:Lo}{H:AH}{W:Wd}{af:AF}{lo':Lo}{H':AH}(h:ru (r.x sc) b lo H=some (af,lo',H'))(C:CR c f s m lo H W):
 wpAny (model c.prog c.w) A (execs b f.env) (XP c f W af lo' H') aY s:=by
 induction b generalizing s m lo H W with
 |nil=>revert h;refine IB ?_;exact wpAny_execs_nil ⟨m,W,C,kA.refl W,rfl⟩
 |cons st b ih=>
  obtain⟨⟨af1,lo1,H1⟩,h1,h⟩:=ob h;refine wpAny_execs_cons (a7 (β:=Unit) (S.x O hA C h1) fun fl s1 p=>?_);cases af1 with
  |next=>
   revert p;refine rS fun m1 W1 C1 l1 e=>?_;refine aa e ?_;exact a7 (β:=Unit) (ih h C1) fun w s' p=>p.le l1
  |brk=>
   revert h;refine CF fun h q1 q2=>?_;subst h q1 q2;refine bx (id p) fun m1 W1 C1 l1 e=>?_;subst e;exact p
  |ret v=>
   revert h;refine CF fun h q1 q2=>?_;subst h q1 q2;refine HW (id p) fun m1 W1 C1 l1 w hr'=>?_;revert hr';refine rA fun e r1=>?_;subst e;exact p
end
end Hx
namespace Hx
open PySem PySem.W PyProof.Rows PySem.Calls
section
variable{c:Cx}{f:Fm}{sc:Scope}{s:Shared}{m:Str→Option Value}{lo:Lo}{H:AH}{W:Wd}{A:Around}{n d:Nat}{r:EV}{cal:je}
def MV(c:Cx)(f:Fm)(W:Wd)(F:Nat→Lo→AH→Option (AF×Lo×AH))(R:AF×Lo×AH)(n:Nat)(s:Shared):Prop:=∃lo H m W1,F n lo H=some R∧CR c f s m lo H W1∧kA W W1
theorem C7(S:e_ c n d r)(O:bW c f sc)(hA:cU n d A){t:Expr}{body:List Stmt}{p:Pos}{N:Nat}{af:AF}{lo':Lo}{H':AH}(h:Fq (fun lo H=>r.t sc lo t H) (ru (r.x sc) body) N lo H=some (af,lo',H')) (C:CR c f s m lo H W):
 wpAny (model c.prog c.w) A (exec (.While t body [] p) f.env) (XP c f W af lo' H') aY s:=by
 refine wpAny_While ?_;refine codeAny_whileLoop (MV c f W (Fq (fun lo H=>r.t sc lo t H) (ru (r.x sc) body)) (af,lo',H')) ?_ N ⟨lo,H,m,W,h,C,kA.refl W⟩;clear h C;intro n s hp';refine Bu fun Q' E' hQ=>?_;revert hp';refine Cr fun lo H m W1 h hr'=>?_;revert hr';refine rA fun C l=>?_;cases n with
 |zero=>first|exact ns h|cases h
 |succ n=>
  revert h;refine Jz fun b H1 h1 h=>?_;refine wpAny_mono (S.t O hA C h1) (fun b s1 hp'=>jb hp' fun e1 W2 C2 l2=>?_) fun _ _ e=>e.elim;clear h1 hp';subst e1;have l12:=l.trans l2.lex;cases b with
  |false=>
   clear C l l2 s;cases h;exact hQ _ _ (wpAny_execs_nil ⟨m,W2,C2,l12,rfl⟩)
  |true=>
   obtain⟨⟨af1,lo1,H2⟩,h2,h⟩:=ob h;refine hQ _ _ (Bu fun Q2 E2 hR=>?_);refine KR (iy S O hA h2 C2) fun fl s2 m3 W3 C3 l3 e3=>?_;clear C C2 E' E2 H O S hA hQ l l2 m s s1;cases af1 with
   |next=>clear Q' W1;subst e3;exact hR _ _ ⟨n,NT n,_,_,_,W3,h,C3,l12.trans l3⟩
   |brk=>clear Q' W1;subst e3;revert h;refine CF fun h q1 q2=>?_;subst h q1 q2;exact hR _ _ ⟨m3,W3,C3,l12.trans l3,rfl⟩
   |ret u=>obtain⟨w,e,r3⟩:=e3;clear Q' W1;subst e;revert h;refine CF fun h q1 q2=>?_;subst h q1 q2;exact hR _ _ ⟨m3,W3,C3,l12.trans l3,w,rfl,r3⟩
def KJ(c:Cx)(f:Fm)(W1:Wd)(itA:Addr)(I:It)(F:AV→Lo→AH→Option (AF×Lo×AH))(R:AF×Lo×AH)(n:Nat)(s:Shared):Prop:=
 ∃j lo H m W2 o,mW F I n j lo H=some R∧CR c f s m lo H W2∧W2.ex=(itA,o)::W1.ex∧gm c.g W2 itA o I j∧kA W1 (W2.ux W1.ex)
theorem G3(KO:eO c)(S:e_ c n d r)(O:bW c f sc)(hA:cU n d A){x:Str}{px p:Pos}{it:Expr}{body:List Stmt}{xs:AV}{I:It}{H1:AH}{af:AF}{lo':Lo}{H':AH}
 (hx:cM sc x=true)(h1:r.e sc lo it H=some (xs,H1))(h2:fj H1 xs=some I)(h:FY (fun v lo H=>ru (r.x sc) body (pt x v lo) H) I lo H1=some (af,lo',H')) (C:CR c f s m lo H W):
 wpAny (model c.prog c.w) A (exec (.For (.Name x px) it body [] p) f.env) (XP c f W af lo' H') aY s:=by
 have hns:∀v,foldedSetIterable it f.env v=pure v:=S.Hi h1;refine wpAny_For (ip (S.e O hA C h1) fun w s1 W1 C1 l1 r1=>a7 (β:=Unit) (oH KO O h2 C1 r1) fun wi s2 hp'=>?_) hns;revert hp';refine rS fun itA o e C2 hit=>?_;subst e
 refine codeAny_forLoop_any (KJ c f W1 itA I (fun v lo H=>ru (r.x sc) body (pt x v lo) H) (af,lo',H')) ?_ (I.len+1)
  ⟨0,lo,H1,m,W1.ux ((itA,o)::W1.ex),o,h,C2,rfl,hit.mono (W1.b9 _),kA.refl _⟩
 clear h C C1 C2 hit r1 h1 h2 hns;intro n s hp';refine Bu fun Q' E' hQ=>?_;revert hp';refine oT fun j lo H m W2 hr'=>?_;revert hr';refine Hu fun o hrun C ex2 hit l2=>?_;cases n with
 |zero=>first|exact ns hrun|cases hrun
 |succ n=>
  revert hrun;refine aO fun nx hv hrun=>?_;cases nx with
  |none=>
   revert hrun;refine CF fun hrun q1 q2=>?_;subst hrun q1 q2;refine wpAny_mono (Bc KO O hA.hh C ex2 hit hv) (fun ro s1 hp'=>?_) fun _ _ e=>e.elim;revert hp';refine rA fun e1 C3=>?_;subst e1;exact hQ _ _ (wpAny_execs_nil ⟨m,W2.ux W1.ex,C3,l1.lex.trans l2,rfl⟩)
  |some v=>
   obtain⟨⟨af1,lo1,H1'⟩,hf,hafter⟩:=ob hrun;refine wpAny_mono (wm KO O C ex2 hit hv) (fun ro s1 hp'=>?_) fun _ _ e=>e.elim;revert hp';refine iB fun w o' e1 C3 r3 hit3=>?_;subst e1;refine hQ _ _ (wpAny_pure ?_);clear hQ;have r3':VR c.g (W2.ux ((itA,o')::W1.ex)) v w:=r3.mono (W2.b9 _);refine wpAny_assign_Name (wpAny_mono (fP O hx C3 r3') (fun _ s2 hp'=>?_) fun _ _ e=>e.elim);revert hp';refine rE fun m4 C4=>?_;refine Bu fun Q2 E2 hR=>?_;refine KR (iy S O hA hf C4) fun fl s3 m5 W5 C5 l5 e5=>?_;have ex5:W5.ex=(itA,o')::W1.ex:=l5.ex;have l25:jc W2 W5:=(W2.b9 _).trans l5.eR;have lw:kA W1 (W5.ux W1.ex):=⟨fun r i a q=>l5.ad r i a (l2.ad r i a q),fun q hq=>l5.tp q (l2.tp q hq),fun q hq=>l5.z q (l2.z q hq),rfl⟩;clear r3 r3' w;cases af1 with
   |next=>
    clear C C3 C4 E' E2 KO O Q' S ex2 hA hit hrun hv hx l2 l5 m m4 o s s1 s2 w;subst e5;exact hR _ _ ⟨n,NT n,j+1,lo1,H1',m5,W5,o',hafter,C5,ex5,hit3.mono l25,lw⟩
   |brk=>
    clear C C3 C4 E' E2 KO O Q' S ex2 hA hit hit3 hrun hv hx l2 l25 l5 m m4 o s s1 s2 w;subst e5;clear W2 o s1 s2;revert hafter;refine CF fun hafter q1 q2=>?_;subst hafter q1 q2;exact hR _ _ ⟨m5,W5.ux W1.ex,C5.vP ex5,l1.lex.trans lw,rfl⟩
   |ret u=>
    revert e5;refine JI fun w' e e5=>?_;clear C C3 C4 E' E2 KO O Q' S ex2 hA hit hit3 hrun hv hx l2 l25 l5 m m4 o s s1 s2 w;subst e;clear W2 o s1 s2;revert hafter;refine CF fun hafter q1 q2=>?_;subst hafter q1 q2;exact hR _ _ ⟨m5,W5.ux W1.ex,C5.vP ex5,l1.lex.trans lw,w',rfl,e5.mono (W5.b9 _)⟩
theorem zG{e:Expr}{t:Option Expr}{k:Nat}{env:Env}(h:uM e=false):swapsWith e t k env=pure false:=by
 cases e<;>first|rfl|exact ns h|cases h
theorem zE{e:Expr}{o:Expr}{x:Str}{p:Pos}{k:Nat}{env:Env}:swapsWith e (some (.Attribute o x p)) k env=pure false:=by cases e<;>rfl
theorem CP{e:Expr}{o i:Expr}{p:Pos}{k:Nat}{env:Env}:swapsWith e (some (.Subscript o i p)) k env=pure false:=by cases e<;>rfl
theorem zF{e:Expr}(hb:n_ e=false)(x:Str)(p:Pos)(k:Nat)(env:Env):swapsWith e (some (.Name x p)) k env=pure false∨
 (swapsWith e (some (.Name x p)) k env=pure true∧env.kindOf x=some .local∧∃elt gens csc p,e=.ListComp elt gens csc p):=by
 cases e with
 |ListComp elt gens csc ps=>
  generalize q:(env.blockKind==.function&&env.kindOf x==some .local&&p.line==(Expr.ListComp elt gens csc ps).pos.line&&!(csc.names.any fun(n,k)=>n==x&&(k==.local||k==.cell)))=b;have e1:swapsWith (.ListComp elt gens csc ps) (some (.Name x p)) k env=pure b:=by exact bR q rfl
  cases b with
  |false=>exact .inl e1
  |true=>
   simp only[ND]at q;exact .inr ⟨e1,beq_iff_eq.mp q.1.1.2,_,_,_,_,rfl⟩
 |SetComp=>first|exact ns hb|cases hb
 |DictComp=>first|exact ns hb|cases hb
 |_=>exact .inl rfl
section
variable{af:AF}{lo':Lo}{H':AH}{p ps tp:Pos}{e:Expr}
theorem AA(S:e_ c n d r)(O:bW c f sc)(hA:cU n d A){x:Str}(h:aName r sc lo x e H=some (af,lo',H'))(C:CR c f s m lo H W):wpAny (model c.prog c.w) A (exec (.Assign [.Name x p] e ps) f.env) (XP c f W af lo' H') aY s:=by
 revert h;refine JA fun hb h=>?_;revert h;refine aO fun t h1 h=>?_;revert h;refine fQ fun lo1 h2 h=>?_;revert h;refine Gv ?_;rcases zF (by simpa using hb) x p ps.line f.env with hs|⟨hs,hk,elt,gens,csc,pp,rfl⟩
 ·exact wpAny_Assign_Name (hs:=hs) (a7 (β:=Unit) (S.e O hA C (v:=t.1) (H':=t.2) h1) fun w s1⟨W1,C1,l1,r1⟩=>a7 (β:=Unit) (vd O h2 C1 r1) fun _ s2⟨m2,W2,C2,l2⟩=>⟨m2,W2,C2,l1.lex.trans l2,rfl⟩)
 ·revert h2;refine dD fun _ h2=>?_;revert h2;refine aJ fun h2=>?_;subst h2;exact S.u O hA C (v:=t.1) (H':=t.2) h1 hk hs
theorem uZ{t:Expr}{x:Str}(h:ey t=some x):∃p,t=.Name x p:=by
 cases t with
 |Name=>revert h;refine aJ fun h=>?_;subst h;exact⟨_,rfl⟩
 |_=>first|exact ns h|cases h
theorem DU(KO:eO c)(S:e_ c n d r)(O:bW c f sc)(hA:cU n d A){ts:List Expr}{k:Nat}(h:IE r sc lo ts e H=some (af,lo',H'))(C:CR c f s m lo H W):wpAny (model c.prog c.w) A (exec (.Assign [.Tuple ts k tp] e ps) f.env) (XP c f W af lo' H') aY s:=by
 revert h;refine aO fun xy h1 h=>?_;revert h;refine aO fun x h2 h=>?_;revert h;refine aO fun y h3 h=>?_;revert h;refine JA fun ht h=>?_;revert h;refine aO fun t h4 h=>?_;revert h;refine aO fun l h5 h=>?_;revert h;refine aO fun vw h6 h=>?_;revert h;refine dD fun hl h=>?_;revert h;refine IB ?_;rw[ND]at hl;refine aa (Ge h1) ?_;refine xE (uZ h2) fun px e1=>?_;refine xE (uZ h3) fun py e2=>?_;refine aa e1 (aa e2 ?_)
 have hw:swappedStores [.Tuple [.Name x px,.Name y py] k tp] e f.env=pure none:=by
  cases e<;>first|rfl|exact absurd rfl ht
 refine Assign_Tuple (hw:=hw) (hs:=by cases e<;>rfl) (ip (S.e O hA C (v:=t.1) (H':=t.2) h4) fun wv s1 W1 C1 l1 r1=>?_);rw[AV.zM h5]at r1;obtain⟨a,ws,rfl,⟨o,ho,hc,kk,hd⟩,hr⟩:=C1.isTup KO O r1;refine bx (hr.h8 h6) fun w1 w2 e'2 q1 q2=>?_;subst e'2;refine wpAny_assign_Tuple hA.hh ⟨o,ho,hc,kk,hd⟩ rfl rfl fun h' hx=>?_;have C2:CR c f {s1 with heap:=h'} m lo t.2 W1:=C1.keep (k:=s1.toks) fun b ob e=>hx b ob (Oa (Heap.lt_size e)) e;refine assignInOrder_cons (wpAny_assign_Name (a7 (β:=Unit) (fP O hl.1 C2 q1) fun _ s2 hp'=>?_));revert hp';refine rE fun m2 C3=>?_;refine assignInOrder_cons (wpAny_assign_Name (a7 (β:=Unit) (fP O hl.2 C3 q2) fun _ s2 hp'=>?_));revert hp';refine rE fun m3 C4=>?_;exact assignInOrder_nil ⟨m3,W1,C4,l1.lex,rfl⟩
theorem Az(KO:eO c)(S:e_ c n d r)(O:bW c f sc)(hA:cU n d A){o:Expr}{x:Str}(h:FJ c.P r sc lo o x e H=some (af,lo',H'))(C:CR c f s m lo H W):wpAny (model c.prog c.w) A (exec (.Assign [.Attribute o x p] e ps) f.env) (XP c f W af lo' H') aY s:=by
 revert h;refine aO fun t h1 h=>?_;revert h;refine aO fun u h2 h=>?_;revert h;refine fQ fun H3 h3 h=>?_;revert h;refine Gv ?_
 exact plainObj_wpAny_Assign_Attribute (hs:=zE) (ip (S.e O hA C (v:=t.1) (H':=t.2) h1) fun w s1 W1 C1 l1 r1=>ip (S.e O hA C1 (v:=u.1) (H':=u.2) h2) fun wo s2 W2 C2 l2 r2=>
  a7 (β:=Unit) (E8 KO O h3 C2 r2 (r1.mono l2.eR)) fun _ s3⟨W3,C3,l3⟩=>⟨m,W3,C3,((l1.trans l2).trans l3).lex,rfl⟩)
theorem DR(S:e_ c n d r)(O:bW c f sc)(hA:cU n d A){o i:Expr}(h:aSub r sc lo o i e H=some (af,lo',H'))(C:CR c f s m lo H W):wpAny (model c.prog c.w) A (exec (.Assign [.Subscript o i p] e ps) f.env) (XP c f W af lo' H') aY s:=by
 revert h;refine aO fun t h1 h=>?_;revert h;refine aO fun u h2 h=>?_;revert h;refine aO fun w h3 h=>?_;revert h;refine fQ fun H4 h4 h=>?_;revert h;refine Gv ?_
 exact wpAny_Assign_Subscript (hs:=CP) (a7 (β:=Unit) (S.e O hA C (v:=t.1) (H':=t.2) h1) fun w' s1 hp'=>bV hp' fun W1 C1 l1 r1=>ip (S.e O hA C1 (v:=u.1) (H':=u.2) h2) fun wo s2 W2 C2 l2 r2=>ip (S.e O hA C2 (v:=w.1) (H':=w.2) h3) fun wi s3 W3 C3 l3 r3=>
  a7 (β:=Unit) (wF h4 C3 (r2.mono l3.eR) r3 (r1.mono (l2.trans l3).eR)) fun _ s4⟨W4,C4,l4⟩=>⟨m,W4,C4,(((l1.trans l2).trans l3).trans l4).lex,rfl⟩)
theorem Br(S:e_ c n d r)(O:bW c f sc)(hA:cU n d A){x:Str}{op:Operator}(h:F0 c.P r sc lo x op e H=some (af,lo',H'))(C:CR c f s m lo H W):wpAny (model c.prog c.w) A (exec (.AugAssign (.Name x p) op e ps) f.env) (XP c f W af lo' H') aY s:=by
 revert h;refine dD fun hl h=>?_;revert h;refine aO fun a h0 h=>?_;revert h;refine aO fun i h1 h=>?_;revert h;refine aO fun t h2 h=>?_;revert h;refine aO fun j h3 h=>?_;revert h;refine fQ fun k h4 h=>?_;revert h;refine Gv ?_;have hn:=O.names x;rw[beq_iff_eq.mp (show(sc.names.lookup x==some .local)=true from hl)]at hn;refine ar ((C.lv.1 x a h0).1 hn) fun y y1 y2=>?_;refine xE (y2.dq h1) fun tk e'1=>?_;clear y2;subst e'1;refine wpAny_AugAssign_Name (wpAny_loadName_local O.kd hn C.F.ns y1 (ip (S.e O hA C (v:=t.1) (H':=t.2) h2) fun w2 s1 W1 C1 l1 r1=>?_));refine xE (r1.dq h3) fun tk2 e'1=>?_;refine aa e'1 ?_
 have fin:∀k,wpAny (model c.prog c.w) A (storeName f.env x (.int k s1.toks)) (fun _=>XP c f W .next (pt x (.int k) lo) t.2 .next) aY {s1 with toks:=s1.toks+1}:=fun k=>
  a7 (β:=Unit) (fP O hl (CR.tok (k:=s1.toks+1) C1) (.int _ _)) fun _ s2⟨m2,C2⟩=>⟨m2,W1,C2,l1.lex,rfl⟩
 cases op<;>(first|exact ns h4|(revert h4;refine aJ fun h4=>?_;subst h4)|skip)
 ·exact PyProof.Rows.iadd_int (fin _)
 ·exact PyProof.Rows.isub_int (fin _)
theorem Eu(KO:eO c)(S:e_ c n d r)(O:bW c f sc)(hA:cU n d A){o i:Expr}{op:Operator}(h:Jh r sc lo o i op e H=some (af,lo',H'))(C:CR c f s m lo H W):wpAny (model c.prog c.w) A (exec (.AugAssign (.Subscript o i p) op e ps) f.env) (XP c f W af lo' H') aY s:=by
 revert h;refine JA fun h0 h=>?_;rw[Bool.or_eq_true,not_or]at h0;revert h;refine aO fun u h1 h=>?_;revert h;refine aO fun w h2 h=>?_;revert h;refine aO fun a h3 h=>?_;revert h;refine aO fun y h4 h=>?_;revert h;refine aO fun t h5 h=>?_;revert h;refine aO fun z h6 h=>?_;revert h;refine dD fun hlen h=>?_;revert h;refine fQ fun H4 h7 h=>?_;revert h;refine Gv ?_;refine aa (oG (op:=op) (by simpa using h0.2)) ?_
 have hst:∀ov iv new,augStore i ov iv new=(do holding [new,ov,iv] (setItem ov iv new);release [new,ov,iv] [];pure .next):=by
  intro ov iv new;cases i<;>first|rfl|exact absurd rfl h0.1
 refine wpAny_AugAssign_SubscriptAny (hi:=hst) (ip (S.e O hA C (v:=u.1) (H':=u.2) h1) fun wo s1 W1 C1 l1 r1=>ip (S.e O hA C1 (v:=w.1) (H':=w.2) h2) fun wi s2 W2 C2 l2 r2=>?_);refine bx (vZ (A:=A) KO O h3 C2 (r1.mono l2.eR) r2) fun _ _ _ _ hg=>?_;refine a7 (β:=Unit) hg fun wold s3 hp'=>bV hp' fun W3 C3 l3 r3=>ip (S.e O hA C3 (v:=t.1) (H':=t.2) h5) fun wn s4 W4 C4 l4 r4=>?_;refine xE (r3.lY h4) fun t1 e'1=>?_;clear hp' r3;subst e'1;refine xE (r4.lY h6) fun t2 e'1=>?_;clear h1 h2 h3 h4 h5 h6 hA hg hst r4;subst e'1
 exact PyProof.Rows.iadd_str (hsz:=by refine aa sizeLine_eq ?_;unfold ab at hlen;exact kh hlen) fun t k=>
  a7 (β:=Unit) (wF h7 (CR.tok (k:=k) C4) (r1.mono ((l2.trans l3).trans l4).eR) (r2.mono (l3.trans l4).eR) (.str _ _)) fun _ s5⟨W5,C5,l5⟩=>⟨m,W5,C5,((((l1.trans l2).trans l3).trans l4).trans l5).lex,rfl⟩
end
theorem G0(KO:eO c)(S:e_ c n d r)(O:bW c f sc)(hA:cU n (d+1) A){st:Stmt}{af:AF}{lo':Lo}{H':AH}
 (h:K2 c.P r sc lo st H=some (af,lo',H'))(C:CR c f s m lo H W):wpAny (model c.prog c.w) A (exec st f.env) (XP c f W af lo' H') aY s:=by
 have hA':cU n d A:=hA.less (NQ _) (Oe _);cases st with
 |Pass=>revert h;refine IB ?_;exact wpAny_Pass ⟨m,W,C,kA.refl W,rfl⟩
 |Break=>revert h;refine IB ?_;exact wpAny_Break ⟨m,W,C,kA.refl W,rfl⟩
 |Return e p=>
  cases e with
  |none=>revert h;refine IB ?_;exact wpAny_Return_none ⟨m,W,C,kA.refl W,.none,rfl,.none⟩
  |some e=>
   revert h;refine fQ fun x h1 h2=>?_;revert h2;refine Gv ?_;exact wpAny_Return_some (ip (S.e O hA' C (v:=x.1) (H':=x.2) h1) fun w s1 W1 C1 l1 r1=>⟨m,W1,C1,l1.lex,w,rfl,r1⟩)
 |Expr e p=>
  revert h;refine JA fun hc h=>?_;revert h;refine fQ fun x h1 h2=>?_;revert h2;refine Gv ?_;refine wpAny_Expr_any (ip (S.e O hA' C (v:=x.1) (H':=x.2) h1) fun w s1 W1 C1 l1 r1=>⟨m,W1,C1,l1.lex,rfl⟩) ?_ (zG (by simpa using hc));unfold interactive;exact aa O.kd rfl
 |Assign ts e p=>
  revert h;refine aO fun tg h1 h=>?_;refine aa (jW h1) ?_;cases tg with
  |Name=>exact AA S O hA' h C
  |Tuple=>exact DU KO S O hA' h C
  |Attribute=>exact Az KO S O hA' h C
  |Subscript=>exact DR S O hA' h C
  |_=>first|exact ns h|cases h
 |AugAssign tg op e p=>
  cases tg with
  |Name=>exact Br S O hA' h C
  |Subscript=>exact Eu KO S O hA' h C
  |_=>first|exact ns h|cases h
 |If t a b p=>
  revert h;refine aO fun x h1 h=>?_;refine wpAny_If (a7 (β:=Unit) (S.t O hA' C (v:=x.1) (H':=x.2) h1) fun b s1 hp'=>jb hp' fun e1 W1 C1 l1=>?_);clear hp';subst e1;by_cases q:x.1=true
  ·rw[if_pos q]at h⊢;exact a7 (β:=Unit) (iy S O hA' h C1) fun w s' p=>p.le l1.lex
  ·rw[if_neg q]at h⊢;exact a7 (β:=Unit) (iy S O hA' h C1) fun w s' p=>p.le l1.lex
 |While t body els p=>
  revert h;refine aO fun _ hn h=>?_;refine aa (ik hn) ?_;exact C7 S O hA' h C
 |For tg it body els p=>
  revert h;refine aO fun _ hn h=>?_;refine aa (ik hn) ?_;revert h;refine aO fun x h1 h=>?_;refine xE (uZ h1) fun px e'1=>?_;clear h1;subst e'1;revert h;refine dD fun hx h=>?_;revert h;refine aO fun t h2 h=>?_;revert h;refine aO fun I h3 h=>?_;exact G3 KO S O hA' hx (xs:=t.1) (H1:=t.2) h2 h3 h C
 |_=>first|exact ns h|cases h
end
end Hx
namespace Hx
open PySem PySem.W PyProof.Rows PySem.Calls
section
variable{c:Cx}{f:Fm}{sc:Scope}{s:Shared}{m:Str→Option Value}{lo:Lo}{H:AH}{W:Wd}{A:Around}{n d:Nat}{r:EV}{cal:je}
theorem CR.perm{ex:NL}(C:CR c f s m lo H W)(p:W.ex.Perm ex):CR c f s m lo H (W.ux ex):=by
 refine⟨C.F,fun q hq=>?_,⟨C.ap.inj,fun r i b h q hq=>?_,?_⟩,C.big,C.hr.mono rfl (W.b9 _),C.lv.eR (W.b9 _) rfl,C.gens,C.os⟩
 ·rcases Wd.dR hq with⟨r',i',z⟩|z
  ·exact C.N q (Wd.bP (W:=W) z)
  ·refine C.N q (Nm _ ?_);rcases Nw.mp z with z|z
   ·exact Nr _ z
   ·rcases Nw.mp z with z|z
    ·exact Nm _ (Nr _ (p.mem_iff.mpr z))
    ·exact Nm _ (Nm _ z)
 ·refine C.ap.sep r i b h q ?_;rcases Nw.mp hq with z|z
  ·exact Nr _ z
  ·rcases Nw.mp z with z|z
   ·exact Nm _ (Nr _ (p.mem_iff.mpr z))
   ·exact Nm _ (Nm _ z)
 ·exact(OE (((p.append_right W.cl).append_left W.tp).map _)).mp C.ap.nd
theorem CR.Jf{a:Addr}{o:Obj}{ps ex:NL}(C:CR c f s m lo H W)(e:W.ex=ps++(a,o)::ex):s.heap.get? a=some o∧
 ∀{o':Obj}{h':Heap}{k:Tok},Heap.SameBut a s.heap h'→h'.get? a=some o'→CR c f {s with heap:=h',toks:=k} m lo H (W.ux (ps++(a,o')::ex)):=by
 have p:W.ex.Perm ((a,o)::(ps++ex)):=by refine aa e ?_;exact List.perm_middle
 refine⟨((C.perm p).oz rfl).1,fun{o' h' k}hs ho=>?_⟩;exact((C.perm p).rq (k:=k) rfl hs ho).perm (ex:=ps++(a,o')::ex) (List.perm_middle.symm)
theorem BE{it:Addr}{o:Obj}{I:It}{j:Nat}{Q:Value→Shared→Prop}(hm:s.heap.get? it=some o)(h:gm c.g W it o I j)(hq:Q (.ref it) s):wpAny (model c.prog c.w) A (pyIter (.ref it)) Q aY s:=by
 cases h with
 |list h1 h2=>exact wpAny_pyIter_listiter (h2 _ hm) hq
 |tup h1 h2 h3=>
  have hit:=h3 _ hm;refine wpAny_pyIter_slot hit.typeIs OO (wpAny_call_entry OO hit.typeIs PySem.F.entry_tuple_iterator_iter ?_ (PySem.F.args_tuple_iterator_iter_1 _));exact wpAny_pure ⟨_,rfl,"tuple_iterator",_,hit.typeIs,PySem.F.slot_tuple_iterator_next.lookup,hq⟩
 |l9 h1 h2=>
  have hit:=h2 _ hm;refine wpAny_pyIter_slot hit.typeIs OO (wpAny_call_entry OO hit.typeIs PySem.F.entry_tuple_iterator_iter ?_ (PySem.F.args_tuple_iterator_iter_1 _));exact wpAny_pure ⟨_,rfl,"tuple_iterator",_,hit.typeIs,PySem.F.slot_tuple_iterator_next.lookup,hq⟩
 |kf h1 h2 h3=>
  have hT:s.TypeIs (.ref it) "range_iterator":=⟨_,(h1 _ hm),rfl⟩;refine wpAny_pyIter_slot hT PySem.F.slot_range_iterator_iter (wpAny_call_entry PySem.F.slot_range_iterator_iter hT PySem.F.entry_range_iterator_iter ?_ (PySem.F.args_range_iterator_iter_1 _));exact wpAny_pure ⟨_,rfl,"range_iterator",_,hT,PySem.F.slot_range_iterator_next.lookup,hq⟩
theorem CQ(S:e_ c n d r)(O:bW c f sc)(hA:cU n d A){es:List Expr}{s:Shared}{H:AH}{W:Wd}{v:Bool}{H':AH}(h:yL (r.t sc lo) .And es H=some (v,H'))(C:CR c f s m lo H W):
 wpAny (model c.prog c.w) A (forIn es true fun c r=>if r=true then do let ok←isTrue c f.env (eval c f.env);pure (ForInStep.yield ok)else pure (ForInStep.yield r)) (BP c f m lo W v H') aY s:=by
 induction es generalizing s H W with
 |nil=>cases h;refine aa List.forIn_nil ?_;exact wpAny_pure ⟨rfl,W,C,Le.refl W⟩
 |cons e es ih=>
  rw[List.forIn_cons];revert h;refine Jz fun b H1 h1 h=>?_;refine aa (if_pos rfl) ?_;refine wpAny_bind (wpAny_bind (a7 (β:=Unit) (S.t O hA C h1) fun b' s1 hp'=>jb hp' fun e1 W1 C1 l1=>wpAny_pure ?_));clear h1 hp';subst e1;cases b' with
  |false=>
   cases h
   have:∀(es:List Expr),wpAny (model c.prog c.w) A (forIn es false fun c r=>if r=true then do let ok←isTrue c f.env (eval c f.env);pure (ForInStep.yield ok)else pure (ForInStep.yield r)) (BP c f m lo W false H') aY s1:=by
    intro es
    induction es with
    |nil=>refine aa List.forIn_nil ?_;exact wpAny_pure ⟨rfl,W1,C1,l1⟩
    |cons e es ih=>rw[List.forIn_cons];refine aa (if_neg (by decide)) ?_;exact wpAny_bind (wpAny_pure ih)
   exact this es
  |true=>exact KI (ih h C1) l1
theorem Fg{elt target iter:Expr}{ifs:List Expr}{gs rest:List Comprehension}{scope:Scope}{pos:Pos}{k:Nat}{it acc:Value}{env:Env}(hg:gs.drop k=⟨target,iter,ifs,0⟩::rest):
 PySem.compTurn (.ListComp elt gs scope pos) k it acc env=(do
  standAt iter.pos
  match←pyNext it with
  |none=>pure (.done .next)
  |some v=>
   letOwnedTupleGo target it v
   assign target env v
   let mut ok:=true
   for c in ifs do
    if ok then ok←isTrue c env (eval c env)
   if ok then
    match rest.head? with
    |some g'=>
     let x←eval g'.iter env
     standAt g'.iter.pos
     let x←if g'.is_async !=0 then foldedIterable g'.iter x else foldedSetIterable g'.iter env x
     let _←runOwn (.compStart (.ListComp elt gs scope pos) (k+1) (←holding [x] (if g'.is_async !=0 then asyncIter x else pyIter x)) acc env) env
    |none=>(do let _←call (.builtin "list.append") [acc,←eval elt env])
   again (.compLoop (.ListComp elt gs scope pos) k it acc env)):=by
 have h1:gs[k]?=some ⟨target,iter,ifs,0⟩:=by
  have:=congrArg List.head? hg;rw[List.head?_drop]at this;exact this
 have h2:gs[k+1]?=rest.head?:=by
  have:=congrArg List.tail hg;rw[List.tail_drop]at this;have:=congrArg List.head? this;rw[List.head?_drop]at this;exact this
 unfold PySem.compTurn;dsimp only;refine aa h1 (aa h2 ?_)
 rfl
structure kY (W W':Wd):Prop where
 ad:∀r i a,W.ad r i=some a→W'.ad r i=some a
 tp:∀p∈W.tp,p∈W'.tp
 z:∀p,W.pt 0 0=some p→W'.pt 0 0=some p
 cl:W'.cl=W.cl
theorem kY.refl(W:Wd):kY W W:=⟨fun _ _ _ h=>h,fun _ h=>h,fun _ h=>h,rfl⟩
theorem kY.trans{A B C:Wd}(x:kY A B)(y:kY B C):kY A C:=⟨fun r i a h=>y.ad r i a (x.ad r i a h),fun p h=>y.tp p (x.tp p h),fun p h=>y.z p (x.z p h),y.cl.trans x.cl⟩
theorem kY.eR{W W':Wd}(x:kY W W'):jc W W':=⟨x.ad,x.tp⟩
theorem Le.K_{W W':Wd}(x:Le W W'):kY W W':=⟨x.ad,x.tp,x.z,x.cl⟩
theorem kY.ux(W:Wd)(ex:NL):kY W (W.ux ex):=⟨fun _ _ _ h=>h,fun _ h=>h,fun _ h=>h,rfl⟩
structure vk (c:Cx) (W:Wd) (ps E0:NL) (a:Addr) (acc:List AV):Prop where
 is:∃ys n,W.ex=ps++(a,listOf (List.toArray ys) n)::E0∧bh c.g W acc ys
theorem iR{elt:Expr}{gs rest:List Comprehension}{g:Comprehension}{scope:Scope}{pos:Pos}{k:Nat}{itA:Addr}{acc:Value}{env:Env}{o:Obj}{I:It}{j:Nat}{R:Result→Shared→Prop}
 (hg:gs.drop k=g::rest)(ha:g.is_async=0)(hm:s.heap.get? itA=some o)(hit:gm c.g W itA o I j)
 (h:codeAny (model c.prog c.w) A (.compLoop (.ListComp elt gs scope pos) k (.ref itA) acc env) R s):
 codeAny (model c.prog c.w) A (.compStart (.ListComp elt gs scope pos) k (.ref itA) acc env) R s:=by
 have h1:gs[k]?=some g:=by
  have:=congrArg List.head? hg;rw[List.head?_drop]at this;exact this
 refine codeAny_of_tree ?_;refine wpAny_notedAt ?_;unfold compStart;have h2:(clausesOf (.ListComp elt gs scope pos))[k]?=some g:=h1;refine aa h2 ?_;simp only[Option.elim_some,ha,if_false];refine wpAny_bind (wpAny_askSetting (wpAny_ite ?_));split
 ·first
   |exact wpAny_bind (wpAny_pure (wpAny_pure (And.intro rfl h)))
   |exact wpAny_pure (And.intro rfl h)
 ·refine wpAny_bind (wpAny_rule (wpAny_bind (wpAny_standAt (wpAny_bind ?_))));exact wpAny_mono (BE hm hit (Q:=fun x s'=>x=.ref itA∧s'=s) ⟨rfl,rfl⟩) (fun x s'⟨e1,e2⟩=>by clear hm;subst e1 e2;exact wpAny_pure (And.intro rfl h)) fun _ _ e=>e.elim
def FI(c:Cx)(f:Fm)(F:AV→List AV→Lo→AH→Option (List AV×Lo×AH))(I:It)(W:Wd)(itA aA:Addr)(ps E0:NL)(R:List AV×Lo×AH)(n:Nat)(s:Shared):Prop:=
 ∃j o m lo H W1 acc,mM F I n j acc lo H=some R∧CR c f s m lo H W1∧vk c W1 ((itA,o)::ps) E0 aA acc∧gm c.g W1 itA o I j∧kY W W1
def Gu(c:Cx)(f:Fm)(A:Around)(r:EV)(sc:Scope)(elt:Expr)(gs:List Comprehension)(scope:Scope)(pos:Pos)(aA:Addr)(E0:NL)(cs:List Comprehension)(k:Nat):Prop:=
 ∀{I:It}{N j:Nat}{itA:Addr}{o:Obj}{ps:NL}{s:Shared}{m:Str→Option Value}{lo:Lo}{H:AH}{W:Wd}{acc:List AV}{U:List AV×Lo×AH}{R:Result→Shared→Prop},
  mM (compTurn r sc elt cs) I N j acc lo H=some U→CR c f s m lo H W→vk c W ((itA,o)::ps) E0 aA acc→gm c.g W itA o I j→
  (∀s' m' W',CR c f s' m' U.2.1 U.2.2 W'→vk c W' ps E0 aA U.1→kY W W'→R (.ok .next) s')→
  codeAny (model c.prog c.w) A (.compLoop (.ListComp elt gs scope pos) k (.ref itA) (.ref aA) f.env) R s
theorem rj(KO:eO c)(S:e_ c n d r)(O:bW c f sc)(hA:cU n d A){elt:Expr}{gs:List Comprehension}{scope:Scope}{pos:Pos}{aA:Addr}{E0:NL}(cs:List Comprehension):
 ∀(k:Nat),gs.drop k=cs→fo cs=true→cs≠[]→Gu c f A r sc elt gs scope pos aA E0 cs k:=by
 induction cs with
 |nil=>intro k hk _ hx;exact absurd rfl hx
 |cons g rest ih=>
  intro k hk hx _ I N j itA o ps s m lo H W acc U R hrun C hacc hit hR;obtain⟨⟨x,px,it,ifs,e⟩,hx'⟩:=gH hx;clear hx;subst e;refine codeAny_loop rfl (FI c f (compTurn r sc elt (⟨.Name x px,it,ifs,0⟩::rest)) I W itA aA ps E0 U) (fun n s hI=>?_) N ⟨j,o,m,lo,H,W,acc,hrun,C,hacc,hit,kY.refl W⟩;revert hI;refine oT fun j o m lo H hr'=>?_;revert hr';refine iB fun W1 acc hrun C hacc hr'=>?_;revert hr';refine rA fun hit l1=>?_;show wpAny _ A ((PySem.compTurn (.ListComp elt gs scope pos) k (.ref itA) (.ref aA) f.env).onRaise (fun x=>do noteFrame x f.env;theTreesLotGoes x)) _ _ s;refine wpAny_noted ?_;refine aa (Fg hk) ?_;refine Bu fun Q' E' hQ=>?_;refine eB (hacc.is) fun ys nn hex hys=>?_;refine wpAny_bind (wpAny_standAt (wpAny_bind ?_));cases n with
  |zero=>first|exact ns hrun|cases hrun
  |succ n=>
  revert hrun;refine aO fun nx hv hrun=>?_;cases nx with
  |none=>
   clear hacc;revert hrun;refine CF fun hrun q1 q2=>?_;subst hrun q1 q2;refine wpAny_mono (Bc KO O hA.hh C hex hit hv) (fun ro s1 hp'=>?_) fun _ _ e=>e.elim;revert hp';refine rA fun e1 C2=>?_;clear hacc;subst e1;refine wpAny_pure (hQ _ _ ?_);exact hR _ _ _ C2 ⟨ys,nn,rfl,hys.mono (W1.b9 _)⟩ (l1.trans (kY.ux _ _))
  |some v=>
   revert hrun;refine aO fun T hf hafter=>?_;refine wpAny_mono (wm KO O C hex hit hv) (fun ro s1 hp'=>?_) fun _ _ e=>e.elim;revert hp';refine iB fun w o' e1 C2 r2 hit2=>?_;clear C hR hacc hex hit hrun hv s;subst e1;dsimp only;refine wpAny_bind (wpAny_of_eq (show letOwnedTupleGo (.Name x px) (.ref itA) w=pure ()from rfl) ?_);revert hf;refine aO fun x' hx1 hf=>?_;clear C N hacc hit s;cases hx1;revert hf;refine dD fun hxl hf=>?_;revert hf;refine Jz fun tb H2 hT hf=>?_;have r2':VR c.g (W1.ux ((itA,o')::(ps++(aA,listOf ys.toArray nn)::E0))) v w:=r2.mono (W1.b9 _);refine wpAny_bind (wpAny_assign_Name (wpAny_mono (fP O hxl C2 r2') (fun _ s2 hp'=>?_) fun _ _ e=>e.elim));revert hp';refine rE fun m3 C3=>?_
   have again:∀{s':Shared}{m':Str→Option Value}{W':Wd},CR c f s' m' T.2.1 T.2.2 W'→vk c W' ((itA,o')::ps) E0 aA T.1→kY W1 W'→
    (∃m,m<n+1∧FI c f (compTurn r sc elt (⟨.Name x px,it,ifs,0⟩::rest)) I W itA aA ps E0 U m s'):=fun{s' m' W'}C' a' l'=>
    ⟨n,NT n,j+1,o',m',_,_,W',_,hafter,C',a',hit2.mono l'.eR,l1.trans l'⟩
   have lux:kY W1 (W1.ux ((itA,o')::(ps++(aA,listOf ys.toArray nn)::E0))):=kY.ux _ _;refine wpAny_bind (wpAny_mono (CQ S O hA hT C3) (fun ok s3 hp'=>jb hp' fun e3 W4 C4 l4=>?_) fun _ _ e=>e.elim);clear C2 C3 hT hafter hit2 hxl j l1 m r2 r2' s1 s2 w;subst e3;have ex4:W4.ex=((itA,o')::ps)++(aA,listOf ys.toArray nn)::E0:=l4.ex;have l14:kY W1 W4:=lux.trans l4.K_;clear H j l4 lux m;cases ok with
   |false=>
    clear H;cases hf;refine aa (if_neg (by decide)) ?_;exact wpAny_bind (wpAny_pure (wpAny_pure (hQ (.again _) _ ⟨rfl,again C4 ⟨ys,nn,ex4,hys.mono l14.eR⟩ l14⟩)))
   |true=>
    refine aa (if_pos rfl) ?_;clear H;cases rest with
    |nil=>
     revert hf;refine Jz fun y H3 he hf=>?_;revert hf;refine dD fun hlen hf=>?_;cases hf;refine wpAny_bind (wpAny_bind (ip (S.e O hA C4 he) fun wy s4 W5 C5 l5 r5=>?_));have ex5:W5.ex=((itA,o')::ps)++(aA,listOf ys.toArray nn)::E0:=l5.ex.trans ex4;refine xA (C5.Jf ex5) fun g5 u5=>?_;refine wpAny_bind (append_at (hsz:=hys.hY hlen) g5 fun h' hs ho=>wpAny_pure (wpAny_pure (hQ (.again _) _ ⟨rfl,?_⟩)));have l15:kY W1 W5:=l14.trans l5.K_;refine again (W':=W5.ux _) (u5 (k:=s4.toks) hs ho) ⟨ys++[wy],nn+1,?_,?_⟩ (l15.trans (kY.ux _ _))
     ·show _++(aA,_)::E0=_;simp
     ·exact((hys.mono l15.eR).append (.one r5)).mono (W5.b9 _)
    |cons g' rest'=>
     obtain⟨⟨x',px',it',ifs',e⟩,hx''⟩:=gH hx';subst e;dsimp only[List.head?_cons]at hf⊢;revert hf;refine Jz fun xs H3 he hf=>?_;revert hf;refine aO fun I' hI' hf=>?_;have hns:∀v,foldedSetIterable it' f.env v=pure v:=S.Hi he;refine wpAny_bind (ip (S.e O hA C4 he) fun wy s4 W5 C5 l5 r5=>?_);have ex5:W5.ex=((itA,o')::ps)++(aA,listOf ys.toArray nn)::E0:=l5.ex.trans ex4;refine wpAny_bind (wpAny_standAt ?_);refine aa (if_neg (by decide)) ?_;refine wpAny_bind (wpAny_of_eq (hns wy) (wpAny_bind (wpAny_holding ?_)));refine aa (if_neg (by decide)) ?_;refine wpAny_mono (oH KO O hI' C5 r5) (fun wi s5 hp'=>?_) fun _ _ e=>e.elim;revert hp';refine rS fun itB oB e5 C6 hit6=>?_;clear C4 C5 KO O S ex4 hA hI' he hns hp' r5 s3 s4 wy;subst e5
     have hk':gs.drop (k+1)=⟨.Name x' px',it',ifs',0⟩::rest':=by
      have:=congrArg List.tail hk
      rwa [List.tail_drop]at this
     have gB:s5.heap.get? itB=some oB:=(C6.oz rfl).1;have l16:kY W1 (W5.ux ((itB,oB)::W5.ex)):=(l14.trans l5.K_).trans (kY.ux _ _);have hit6':gm c.g (W5.ux ((itB,oB)::W5.ex)) itB oB I' 0:=hit6.mono (W5.b9 _);refine wpAny_bind (wpAny_runOwn (iR (W:=W5.ux ((itB,oB)::W5.ex)) hk' rfl gB hit6' ?_));refine ih (k+1) hk' hx' (by simp) hf C6 (ps:=(itA,o')::ps) (o:=oB) ⟨ys,nn,?_,(hys.mono l16.eR)⟩ hit6' fun s6 m6 W6 C6' a6 l6=>?_
     ·show(itB,oB)::W5.ex=_;exact aa ex5 rfl
     ·exact wpAny_pure (hQ (.again _) _ ⟨rfl,again C6' a6 (l16.trans l6)⟩)
end
end Hx
namespace Hx
open PySem PySem.W PyProof.Rows PySem.Calls
noncomputable def vU(W:Wd)(own:NL):List Addr:=(W.rg.flatten++(W.tp++own)).map (·.1)
section
variable{c:Cx}{f f':Fm}{sc:Scope}{s s1:Shared}{m m1:Str→Option Value}{lo lo1:Lo}{H H1:AH}{W W1:Wd}{A:Around}{n d:Nat}{r:EV}{cal:je}{own:NL}
theorem jH{l l':NL}(h:l.Sublist l')(n:(l'.map (·.1)).Nodup):(l.map (·.1)).Nodup:=n.sublist (h.map _)
theorem JM{p:Addr×Obj}(h:p∈W.rg.flatten):∃r i,W.pt r i=some p:=by
 refine ar (List.mem_flatten.mp h) fun l h1 h2=>?_;obtain⟨r,hr,rfl⟩:=Ou h1;obtain⟨i,hi,rfl⟩:=Ou h2;exact⟨r,i,by unfold Wd.pt;simp[hr,hi]⟩
structure Iu (c:Cx) (f:Fm) (s:Shared) (W:Wd) (own:NL):Prop where
 base:∀b o,f.h₀.get? b=some o→(hideAll s.heap (vU W own)).get? b=some o
 loc:∀o,s.heap.get? f.env.locals=some o→(hideAll s.heap (vU W own)).get? f.env.locals=some o
 out:∀p∈W.rg.flatten++(W.tp++own),(hideAll s.heap (vU W own)).get? p.1=none
 size:(hideAll s.heap (vU W own)).objs.size=s.heap.objs.size
 MK:∀b o,(hideAll s.heap (vU W own)).get? b=some o→s.heap.get? b=some o
theorem CR.vV(C:CR c f s m lo H W)(ho:∀p∈own,p∈W.ex++W.cl):Iu c f s W own:=by
 have hin:∀b∈vU W own,∃p∈W.all,p.1=b:=fun b hb=>by
  refine ar (NU.mp hb) fun p hp e'2=>?_;clear hb;subst e'2;refine⟨p,?_,rfl⟩;rcases Nw.mp hp with h|h
  ·exact Nr _ h
  ·rcases Nw.mp h with h|h
   ·exact Nm _ (Nr _ h)
   ·exact Nm _ (Nm _ (ho p h))
 refine⟨fun b o e=>hideAll_get _ (C.F.keep b o e) fun q=>?_,fun o e=>hideAll_get _ e fun q=>?_,fun p hp=>hideAll_none _ (List.mem_map_of_mem hp),hideAll_size _ _,fun b o e=>of_hideAll _ e⟩
 ·refine ar (hin b q) fun p hp e'2=>?_;subst e'2;rw[(C.N p hp).2.2]at e;exact cZ e
 ·refine ar (hin _ q) fun p hp e'=>?_;exact(C.N p hp).2.1 e'
theorem CR.kept(C:CR c f s m lo H W){kept:NL}(P:(W.ex++W.cl).Perm (own++kept)):∀p∈kept,(hideAll s.heap (vU W own)).get? p.1=some p.2:=by
 intro p hp;have hpm:p∈W.ex++W.cl:=P.mem_iff.mpr (Nm _ hp);refine hideAll_get _ (C.N p (Nm _ (Nm _ hpm))).1 fun q=>?_;refine ar (NU.mp q) fun z hz e=>?_;have nd:((W.tp++(own++kept)).map (·.1)).Nodup:=(OE ((P.append_left W.tp).map _)).mp C.ap.nd;rcases Nw.mp hz with h|h
 ·refine sk (JM h) fun r i h=>?_;exact C.ap.sep r i z.1 (by unfold Wd.ad;exact aa h rfl) p (Nm _ hpm) e.symm
 ·rw[←NK,Nu]at nd;exact(Oh.mp nd).2.2 z.1 (List.mem_map_of_mem h) p.1 (List.mem_map_of_mem hp) e
theorem rz(C:CR c f s m lo H W){exO clO cs:NL}(hg:f'.h₀=hideAll s.heap (vU W (exO++clO)))(hsub:∀p∈exO++clO,p∈W.ex++W.cl) (hnd:((W.tp++(exO++clO)).map (·.1)).Nodup)
 (hns:s1.heap.Ns f'.env.locals m1) (hk:∀b o,s.heap.get? b=some o→s1.heap.get? b=some o) (hL:s.heap.objs.size≤f'.env.locals)
 (hcs:∀p∈cs,s1.heap.get? p.1=some p.2∧p.1≠f'.env.locals∧s.heap.get? p.1=none) (hcn:(cs.map (·.1)).Nodup) (hgens:s1.gens=#[]) (hos:s1.os=c.os)
 (hlv:LV c f' m1 lo1 ⟨W.rg,W.tp,exO,clO++cs⟩):CR c f' s1 m1 lo1 H ⟨W.rg,W.tp,exO,clO++cs⟩:=by
 have K:=C.vV hsub
 have old:∀p∈W.rg.flatten++(W.tp++(exO++clO)),s.heap.get? p.1=some p.2:=fun p hp=>by
  rcases Nw.mp hp with h|h
  ·exact(C.N p (Nr _ h)).1
  ·rcases Nw.mp h with h|h
   ·exact(C.N p (Nm _ (Nr _ h))).1
   ·exact(C.N p (Nm _ (Nm _ (hsub p h)))).1
 have okOld:∀p∈W.rg.flatten++(W.tp++(exO++clO)),s1.heap.get? p.1=some p.2∧p.1≠f'.env.locals∧f'.h₀.get? p.1=none:=fun p hp=>
  ⟨hk _ _ (old p hp),Oa (NJ (Heap.lt_size (old p hp)) hL),by refine aa hg ?_;exact K.out p hp⟩
 have okNew:∀p∈cs,s1.heap.get? p.1=some p.2∧p.1≠f'.env.locals∧f'.h₀.get? p.1=none:=fun p hp=>by
  refine⟨(hcs p hp).1,(hcs p hp).2.1,?_⟩;cases q:f'.h₀.get? p.1 with
  |none=>rfl
  |some o=>rw[hg]at q;have:=K.MK _ _ q;rw[(hcs p hp).2.2]at this;exact cZ this
 refine⟨⟨hns,fun b o e=>hk b o (K.MK b o (by refine bR hg ?_;exact e)),by refine aa hg (aa K.size ?_);exact hL⟩,fun p hp=>?_,⟨C.ap.inj,fun r i b h q hq=>?_,?_⟩,C.big,C.hr.mono rfl ⟨fun _ _ _ h=>h,fun _ h=>h⟩,hlv,hgens,hos⟩
 ·rcases Nw.mp hp with h|h
  ·exact okOld p (Nr _ h)
  ·rcases Nw.mp h with h|h
   ·exact okOld p (Nm _ (Nr _ h))
   ·rcases Nw.mp h with h|h
    ·exact okOld p (Nm _ (Nm _ (Nr _ h)))
    ·rcases Nw.mp h with h|h
     ·exact okOld p (Nm _ (Nm _ (Nm _ h)))
     ·exact okNew p h
 ·rcases Nw.mp hq with h'|h'
  ·exact C.ap.sep r i b h q (Nr _ h')
  ·rcases Nw.mp h' with h'|h'
   ·exact C.ap.sep r i b h q (Nm _ (hsub q (Nr _ h')))
   ·rcases Nw.mp h' with h'|h'
    ·exact C.ap.sep r i b h q (Nm _ (hsub q (Nm _ h')))
    ·intro e;refine ar (C.addr (r:=r) (i:=i) (a:=b) h) fun o ho hg'=>?_;have:=(hcs q h').2.2;rw[e,hg']at this;cases this
 ·show((W.tp++(exO++(clO++cs))).map (·.1)).Nodup;rw[←NK exO,←NK];refine aa Nu ?_;refine Oh.mpr ⟨hnd,hcn,fun a ha b hb e=>?_⟩;refine ar (NU.mp ha) fun p hp e'2=>?_;clear ha;subst e'2;refine ar (NU.mp hb) fun q hq e'2=>?_;clear hb;subst e'2;have h1:=old p (Nm _ hp);have h2:=(hcs q hq).2.2;rw[←e,h1]at h2;clear old;cases h2
theorem mX(C:CR c f s m lo H W)(C1:CR c f' s1 m1 lo1 H1 W1){kept own1 exN:NL}(hsub:∀p∈own,p∈W.ex++W.cl) (hg:f'.h₀=hideAll s.heap (vU W own)) (P:(W.ex++W.cl).Perm (own++kept))
 (P1:(exN++W.cl).Perm (own1++kept)) (S1:own1.Sublist (W1.ex++W1.cl)) (l:jc W W1):CR c f s1 m lo H1 ⟨W1.rg,W1.tp,exN,W.cl⟩:=by
 have K:=C.vV hsub;have hkeep:=C.kept P;refine dh (C.F.ns) fun oL es ep hL hLd hr'=>?_;revert hr';refine rA fun hLk hLf=>?_;have hLg:f'.h₀.get? f.env.locals=some oL:=by refine aa hg ?_;exact K.loc _ hL
 have base:∀b o,f.h₀.get? b=some o→f'.h₀.get? b=some o:=fun b o e=>by refine aa hg ?_;exact K.base b o e
 have ok1:∀p∈W1.all,s1.heap.get? p.1=some p.2∧p.1≠f.env.locals∧f.h₀.get? p.1=none:=fun p hp=>by
  have np:=C1.N p hp;refine⟨np.1,fun e=>?_,?_⟩
  ·have:=np.2.2;rw[e,hLg]at this;cases this
  ·cases q:f.h₀.get? p.1 with
   |none=>rfl
   |some o=>have:=np.2.2;rw[base _ _ q]at this;cases this
 have ok2:∀p∈kept,s1.heap.get? p.1=some p.2∧p.1≠f.env.locals∧f.h₀.get? p.1=none:=fun p hp=>by
  have hpm:p∈W.ex++W.cl:=P.mem_iff.mpr (Nm _ hp);have np:=C.N p (Nm _ (Nm _ hpm));exact⟨C1.F.keep _ _ (by refine aa hg ?_;exact hkeep p hp),np.2⟩
 have own_in:∀p∈own1,p∈W1.all:=fun p hp=>Nm _ (Nm _ (S1.subset hp));refine⟨⟨⟨oL,es,ep,C1.F.keep _ _ hLg,hLd,hLk,hLf⟩,fun b o e=>C1.F.keep b o (base b o e),C.F.above⟩,fun p hp=>?_,⟨C1.ap.inj,fun r i b h q hq=>?_,?_⟩,C1.big,C1.hr.mono rfl ⟨fun _ _ _ h=>h,fun _ h=>h⟩,C.lv.eR ⟨l.ad,l.tp⟩ rfl,C1.gens,C1.os⟩
 ·rcases Nw.mp hp with h|h
  ·exact ok1 p (Nr _ h)
  ·rcases Nw.mp h with h|h
   ·exact ok1 p (Nm _ (Nr _ h))
   ·rcases Nw.mp (P1.mem_iff.mp h)with h|h
    ·exact ok1 p (own_in p h)
    ·exact ok2 p h
 ·rcases Nw.mp hq with h'|h'
  ·exact C1.ap.sep r i b h q (Nr _ h')
  ·rcases Nw.mp (P1.mem_iff.mp h')with h'|h'
   ·exact C1.ap.sep r i b h q (Nm _ (S1.subset h'))
   ·intro e;refine ar (C1.addr (r:=r) (i:=i) (a:=b) h) fun o ho _=>?_;have n1:=(C1.N _ (Wd.bP ho)).2.2;have n2:=hkeep q h';rw[←hg,e]at n2;rw[show(b,o).1=b from rfl,n2]at n1;cases n1
 ·show((W1.tp++(exN++W.cl)).map (·.1)).Nodup;refine(OE ((P1.append_left W1.tp).map _)).mpr ?_;rw[←NK];refine aa Nu ?_
  have ndk:(kept.map (·.1)).Nodup:=by
   have nd:=(OE ((P.append_left W.tp).map _)).mp C.ap.nd;rw[←NK,Nu]at nd;exact(Oh.mp nd).2.1
  refine Oh.mpr ⟨jH (S1.append_left W1.tp) C1.ap.nd,ndk,fun a ha b hb e=>?_⟩;refine ar (NU.mp ha) fun p hp e'2=>?_;clear ha;subst e'2;refine ar (NU.mp hb) fun q hq e'2=>?_;clear hb;subst e'2
  have hp':p∈W1.all:=by
   rcases Nw.mp hp with h|h
   ·exact Nm _ (Nr _ h)
   ·exact own_in p h
  have n1:=(C1.N p hp').2.2;have n2:=hkeep q hq;rw[←hg,←e,n1]at n2;clear e hg hkeep hp hp' hq n1 own_in p;exact cZ n2
end
end Hx
namespace Hx
open PySem PySem.W PyProof.Rows PySem.Calls
noncomputable def ic(env:Env):List (Str×NameKind)→List (Str×Addr)→List (Str×Addr)
 |[],cs=>cs
 |(x,k)::r,cs=>if k==.free then ic env r ((x,(env.cells.lookup x).getD 0)::cs)else ic env r cs
theorem Bt{env:Env}{x:Str}{k:NameKind}{r:List (Str×NameKind)}{cs:List (Str×Addr)}:ic env ((x,k)::r) cs=if k==.free then ic env r ((x,(env.cells.lookup x).getD 0)::cs)else ic env r cs:=rfl
theorem lC(env:Env):∀(ns:List (Str×NameKind))(cs:List (Str×Addr)),(∀x∈ns,x.2=.free→∃a,env.cells.lookup x.1=some a)→
 (forIn ns cs fun(x:Str×NameKind)(r:List (Str×Addr))=>(do
  if x.2==.free then do
   let a←cellOf env x.1
   pure (ForInStep.yield ((x.1,a)::r))
  else pure (ForInStep.yield r):Sem (ForInStep (List (Str×Addr)))))=pure (ic env ns cs)
 |[]=>fun cs h=>rfl
 |(x,k)::r=>fun cs h=>by
  rw[List.forIn_cons];rw[Bt];by_cases q:(k==NameKind.free)=true
  ·refine xE (h (x,k) (.head _) (beq_iff_eq.mp q)) fun a ha=>?_;have e:cellOf env x=pure a:=by unfold cellOf;exact aa ha rfl
   simp only[q,if_true,e,pure_bind];refine aa (lC env r _ fun y hy=>h y (.tail _ hy)) (aa ha ?_)
   rfl
  ·simp only[q,pure_bind,Bool.false_eq_true];exact lC env r _ fun y hy=>h y (.tail _ hy)
theorem mm{csc:Scope}{env:Env}(h:∀x∈csc.names,x.2=.free→∃a,env.cells.lookup x.1=some a):closureFor csc env=pure (ic env csc.names []):=by
 unfold closureFor;have:=lC env csc.names [] h;simp only[bind_pure];exact bR this rfl
theorem jz{env:Env}:∀{ns:List (Str×NameKind)}{cs:List (Str×Addr)},(∀x∈ns,x.2=.free→∃a,env.cells.lookup x.1=some a)→(∀p∈cs,env.cells.lookup p.1=some p.2)→∀p∈ic env ns cs,env.cells.lookup p.1=some p.2
 |[],cs=>fun _ hc=>hc
 |(x,k)::r,cs=>fun h hc=>by
  rw[Bt];split
  ·rename_i q;refine xE (h (x,k) (.head _) (beq_iff_eq.mp q)) fun a ha=>?_;refine jz (fun y hy=>h y (.tail _ hy)) fun p hp=>?_;rcases Nv.mp hp with rfl|hp
   ·refine(?_:env.cells.lookup x=some ((env.cells.lookup x).getD 0));exact aa (show env.cells.lookup x=some a from ha) rfl
   ·exact hc p hp
  ·exact jz (fun y hy=>h y (.tail _ hy)) hc
theorem jy{env:Env}{x:Str}:∀{ns:List (Str×NameKind)}{cs:List (Str×Addr)},((x,NameKind.free)∈ns∨∃a,(x,a)∈cs)→∃a,(x,a)∈ic env ns cs
 |[],cs=>fun h=>by
  rcases h with h|h
  ·cases h
  ·exact h
 |(y,k)::r,cs=>fun h=>by
  rw[Bt];split
  ·rename_i q;refine jy ?_;rcases h with h|⟨a,h⟩
   ·rcases Nv.mp h with e|h
    ·revert e;refine du fun e q1=>?_;subst e q1;exact .inr ⟨_,.head _⟩
    ·exact .inl h
   ·exact .inr ⟨a,.tail _ h⟩
  ·rename_i q;refine jy ?_;rcases h with h|h
   ·rcases Nv.mp h with e|h
    ·revert e;refine du fun e q1=>?_;subst e q1;exact absurd rfl q
    ·exact .inl h
   ·exact .inr h
theorem aR{α β:Type} [BEq α] [LawfulBEq α]{x:α}{b:β}:∀{l:List (α×β)},l.lookup x=some b→(x,b)∈l
 |[]=>fun h=>by simp at h
 |(y,c)::l=>fun h=>by
  rw[O6]at h;split at h
  ·rename_i q;revert h;refine aJ fun h=>?_;subst h;refine aa (beq_iff_eq.mp q) ?_;exact .head _
  ·exact .tail _ (aR h)
theorem fG{α β:Type} [BEq α] [LawfulBEq α]{x:α}{b:β}:∀{l:List (α×β)},(x,b)∈l→∃b',l.lookup x=some b'
 |(y,c)::l,h=>by
  refine aa O6 ?_;split
  ·exact⟨_,rfl⟩
  ·rename_i q;rcases Nv.mp h with e|h
   ·revert e;refine du fun e q1=>?_;subst e q1;simp at q
   ·exact fG h
theorem lI{g:Str×NameKind→NameKind}:∀(l:List (Str×NameKind))(x:Str),(l.map (fun p=>(p.1,g p))).lookup x=(l.lookup x).map (fun k=>g (x,k))
 |[]=>fun x=>rfl
 |(y,k)::l=>fun x=>by
  refine aa Of (aa O6 (aa O6 ?_));cases h:x==y with
  |true=>exact aa (beq_iff_eq.mp h) rfl
  |false=>exact lI l x
section
variable{c:Cx}{f f':Fm}{sc:Scope}{s s1:Shared}{m m1:Str→Option Value}{lo lo1:Lo}{H H1:AH}{W W1:Wd}{A:Around}{n d:Nat}{r:EV}{cal:je}{own:NL}
theorem CR.other(C:CR c f s m lo H W){x:Addr}{h':Heap}{k:Tok}(h1:x≠f.env.locals)(h2:f.h₀.get? x=none)(h3:∀p∈W.all,p.1≠x) (hs:Heap.SameBut x s.heap h'):CR c f {s with heap:=h',toks:=k} m lo H W:=
 ⟨C.F.change hs h1 h2,fun p hp=>⟨(hs.2 _ (h3 p hp)).trans (C.N p hp).1,(C.N p hp).2⟩,C.ap,C.big,C.hr,C.lv,C.gens,C.os⟩
theorem DV{r:Nat}{a:Addr}{o:Obj}{p:Addr×Obj}(h:p∈(W.add r a o).all):p=(a,o)∨p∈W.all:=by
 rcases Nw.mp h with h|h
 ·refine ar (List.mem_flatten.mp h) fun l h1 h2=>?_;obtain⟨j,hj,e⟩:=Ou h1;have e1:(W.add r a o).rg[j]?=some l:=by exact aa (NP hj) (aa e rfl)
  unfold Wd.add at e1;simp only[Og]at e1;cases q:W.rg[j]? with
  |none=>rw[q]at e1;simp at e1
  |some l0=>
   rw[q]at e1;have hl0:l0∈W.rg:=Oo q;have key:∀z,z∈l0→z∈W.all:=fun z hz=>Nr _ (List.mem_flatten.mpr ⟨l0,hl0,hz⟩);by_cases z:r=j
   ·have e2:l0++[(a,o)]=l:=by simpa[z]using e1
    clear e h1;subst e2;rcases Nw.mp h2 with h2|h2
    ·exact .inr (key p h2)
    ·exact .inl (by simpa using h2)
   ·have e2:l0=l:=by simpa[z]using e1
    clear e h1;subst e2;exact .inr (key p h2)
 ·exact .inr (Nm _ h)
structure KN (sc csc:Scope):Prop where
 kind:csc.kind=.function
 gen:csc.isGenerator=false
 co:csc.isCoroutine=false
 debug:∀p∈csc.names,(p.1==("__debug__":Str))=false
 look:∀p∈csc.names,csc.names.lookup p.1=some p.2
 kinds:∀p∈csc.names,p.2=.local∨p.2=.globalImplicit∨(p.2=.free∧(sc.names.lookup p.1=some .cell∨sc.names.lookup p.1=some .free))
theorem E5{sc csc:Scope}(h:rP sc csc=true):KN sc csc:=by
 unfold rP at h;simp only[ND,N5,Pc]at h;obtain⟨⟨⟨h1,h2⟩,h3⟩,h4⟩:=h;refine⟨beq_iff_eq.mp h1,h2,h3,fun p hp=>(h4 p hp).1.1,fun p hp=>beq_iff_eq.mp (h4 p hp).1.2,fun p hp=>?_⟩;refine(Bool.or_eq_true_iff.mp (h4 p hp).2).elim (fun e=>.inl (beq_iff_eq.mp e)) fun e=>(Bool.or_eq_true_iff.mp e).elim (fun e=>.inr (.inl (beq_iff_eq.mp e))) fun e=>?_;have e:=Nt.mp e;exact .inr (.inr ⟨beq_iff_eq.mp e.1,(Bool.or_eq_true_iff.mp e.2).imp beq_iff_eq.mp beq_iff_eq.mp⟩)
theorem zb{csc:Scope}{x:Str}{v:AV}:∀{lo:Lo},lk x (c9 csc lo)=some v→csc.names.lookup x=some .free∧∃v',lk x lo=some v'∧v'=v:=by
 intro lo
 induction lo with
 |nil=>intro h;exact cZ h
 |cons p l ih=>
  obtain⟨y,u⟩:=p;intro h;unfold c9 at h;rw[ON]at h;split at h
  ·rename_i q;unfold lk at h⊢;split at h
   ·rename_i e;revert h;refine aJ fun h=>?_;subst h;have e':=beq_iff_eq.mp e;refine aa e' ?_;exact⟨beq_iff_eq.mp q,_,by simp,rfl⟩
   ·rename_i e;refine jb (ih h) fun a v' b1 b2=>?_;exact⟨a,v',by simp only[e];exact b1,b2⟩
  ·rename_i q;refine jb (ih h) fun a v' b1 b2=>?_;refine⟨a,v',?_,b2⟩;unfold lk;split
   ·rename_i e;have e':=beq_iff_eq.mp e;clear e;subst e';exact absurd (by show(csc.names.lookup x==some .free)=true;exact aa a rfl) q
   ·exact b1
theorem mP(KO:eO c)(S:e_ c n d r)(O:bW c f sc)(hA:cU n d A){csc:Scope}{elt it tg:Expr}{ifs:List Expr}{rest:List Comprehension}{p pos:Pos}{xs v:AV}{I:It}{acc:List AV}{lo':Lo}{H1 H2 H':AH}{rg:Nat}
 {use:Option (Value→Sem Unit)}{Q:Value→Shared→Prop}(C:CR c f s m lo H W)(hsc:rP sc csc=true)(hgs:fo (⟨tg,it,ifs,0⟩::rest)=true)(h1:r.e sc lo it H=some (xs,H1))(h2:fj H1 xs=some I)
 (h3:mO (compTurn r csc elt (⟨tg,it,ifs,0⟩::rest)) I [] (c9 csc lo) H1=some (acc,lo',H2))(h4:newList H2 rg acc=some (v,H'))
 (k:∀s' W' w C0 m',CR c f s' m lo H' W'→Le W W'→VR c.g W' v w→s'.heap.Ns C0 m'→C0≠f.env.locals→(∀h' tk,Heap.SameBut C0 s'.heap h'→CR c f {s' with heap:=h',toks:=tk} m lo H' W')→
  f.h₀.get? C0=none→(∀p∈W'.all,p.1≠C0)→compPost (model c.prog c.w) A aY use Q w C0 (.ok .next) s'):
 wpAny (model c.prog c.w) A (comprehension (.ListComp elt (⟨tg,it,ifs,0⟩::rest) csc p) csc f.env pos (PySem.newList []) false (eval it f.env) use) Q aY s:=by
 have Z:=E5 hsc;have hns:∀v,foldedSetIterable it f.env v=pure v:=S.Hi h1
 have kcell:∀x,csc.names.lookup x=some .free→f.env.kindOf x=some .cell:=fun x hx=>by
  have hm:=aR hx;rcases Z.kinds _ hm with e|e|⟨_,e⟩
  ·cases e
  ·cases e
  ·rw[O.names];rcases e with e|e<;>(refine aa (show sc.names.lookup x=_ from e) ?_;rfl)
 have hcell:∀x∈csc.names,x.2=.free→∃a,f.env.cells.lookup x.1=some a:=fun x hx e=>by
  have:=Z.look x hx;rw[e]at this;refine Gi (C.lv.2 x.1 (kcell x.1 this)) fun a o y q _=>?_;exact⟨a,q⟩
 have hcl:=mm (csc:=csc) (env:=f.env) hcell;generalize hclq:ic f.env csc.names []=cl at hcl
 have clm:∀p∈cl,f.env.cells.lookup p.1=some p.2:=by
  refine bR hclq ?_;exact jz hcell (fun p hp=>by cases hp)
 have clh:∀x,csc.names.lookup x=some .free→cl.lookup x=f.env.cells.lookup x:=fun x hx=>by
  refine xE (jy (env:=f.env) (x:=x) (ns:=csc.names) (cs:=[]) (.inl (aR hx))) fun a ha=>?_;rw[hclq]at ha;refine xE (fG ha) fun b hb=>?_;exact aa hb (aa (clm _ (aR hb)) rfl)
 refine wpAny_comprehension_free rfl hns hcl Z.kind (fun x hx e=>by exact aa (Z.look x hx) (aa e rfl)) ?_;refine ip (S.e O hA C h1) fun w1 s1 W1 C1 l1 r1=>a7 (β:=Unit) (oH KO O h2 C1 r1) fun wi s2 hp'=>?_;revert hp';refine rS fun itA o e C2 hit=>?_;refine aa e ?_;refine wpAny_newObj_type ?_ (by show([]:List Value).toArray.size≤sizeLine;refine aa sizeLine_eq ?_;decide);have ha:=gG s2.heap;have C3a:=C2.G1 (a:=s2.heap.objs.size) (o:=listOf ([]:List Value).toArray 0) (h':=s2.heap.push (listOf ([]:List Value).toArray 0)) (k:=s2.toks) ha (fun b o e=>Heap.get?_push_of_some _ e) (Heap.get?_push_size _ rfl);have h1a:1<s2.heap.objs.size:=C2.low O;generalize hs3:({s2 with heap:=s2.heap.push (listOf ([]:List Value).toArray 0),toks:=s2.toks}:Shared)=s3 at C3a;have C3:=C3a.perm (ex:=(itA,o)::(s2.heap.objs.size,listOf ([]:List Value).toArray 0)::W1.ex) (List.Perm.swap ..);generalize hW3:((W1.ux ((itA,o)::W1.ex)).ux ((s2.heap.objs.size,listOf ([]:List Value).toArray 0)::(W1.ux ((itA,o)::W1.ex)).ex)).ux ((itA,o)::(s2.heap.objs.size,listOf ([]:List Value).toArray 0)::W1.ex)=W3 at C3;generalize haq:s2.heap.objs.size=a at*;have w3:W3.rg=W1.rg∧W3.tp=W1.tp∧W3.ex=(itA,o)::(a,listOf ([]:List Value).toArray 0)::W1.ex∧W3.cl=W1.cl:=by refine bR hW3 ?_;exact⟨rfl,rfl,rfl,rfl⟩
 revert w3;refine Ck fun w31 w32 w33 w34=>?_;have l31:jc W3 W1:=by refine bR hW3 ?_;exact⟨fun _ _ _ h=>h,fun _ h=>h⟩
 have goal3:wpAny (model c.prog c.w) A (newFunctionEnv csc f.env.globals cl [] f.env.qual none .none (some f.env)) (fun cenv s₄=>
  codeAny (model c.prog c.w) A (.compStart (.ListComp elt (⟨tg,it,ifs,0⟩::rest) csc p) 0 (.ref itA) (.ref a) {cenv with scope:=relabel csc f.env}) (compPost (model c.prog c.w) A aY use Q (.ref a) cenv.locals) s₄) aY s3:=by
  refine wpAny_newFunctionEnv (fun x hx e=>?_) (by intro x hx;cases hx) (fun h4' hns4 hs4=>?_) Z.kind
  ·rcases Z.kinds x hx with q|q|⟨q,_⟩<;>rw[q]at e<;>cases e
  ·show codeAny (model c.prog c.w) A (.compStart (.ListComp elt (⟨tg,it,ifs,0⟩::rest) csc p) 0 (.ref itA) (.ref a) (compEnvC csc cl s3.heap.objs.size f.env)) (compPost (model c.prog c.w) A aY use Q (.ref a) s3.heap.objs.size) _;have hLs:f.env.locals<s3.heap.objs.size:=by obtain⟨oL,_,_,hL,_⟩:=C3.F.ns;exact Heap.lt_size hL
   generalize hLq:s3.heap.objs.size=L' at*
   have hk4:∀b o,s3.heap.get? b=some o→h4'.get? b=some o:=fun b ob e=>by
    have hb:b<L':=by refine bR hLq ?_;exact Heap.lt_size e
    exact(hs4.2 b (Oa hb)).trans (Heap.get?_push_of_some _ e)
   have sub:∀q∈[(itA,o),(a,listOf ([]:List Value).toArray 0)]++W1.cl,q∈W3.ex++W3.cl:=fun q hq=>by
    refine aa w33 (aa w34 ?_);rcases Nw.mp hq with h|h
    ·refine Nr _ ?_;rcases Nv.mp h with rfl|h
     ·exact .head _
     ·rcases Nv.mp h with rfl|h
      ·exact .tail _ (.head _)
      ·cases h
    ·exact Nm _ h
   have subl:([(itA,o),(a,listOf ([]:List Value).toArray 0)]++W1.cl).Sublist (W3.ex++W3.cl):=by
    refine aa w33 (aa w34 ?_);show((itA,o)::(a,listOf ([]:List Value).toArray 0)::W1.cl).Sublist ((itA,o)::(a,listOf ([]:List Value).toArray 0)::(W1.ex++W1.cl));exact .cons_cons _ (.cons_cons _ (List.sublist_append_right _ _))
   let f':Fm:=⟨hideAll s3.heap (vU W3 ([(itA,o),(a,listOf ([]:List Value).toArray 0)]++W1.cl)),compEnvC csc cl L' f.env⟩;have K:=C3.vV sub
   have kind':∀x,f'.env.kindOf x=(csc.names.lookup x).map K9:=fun x=>by
    show(relabel csc f.env).names.lookup x=_;unfold relabel;have:=lI (g:=fun p=>if(p.2==.free&&f.env.scope.kind==.function&&f.env.kindOf p.1==some .cell)then .cell else p.2) csc.names x
    rw[show(csc.names.map fun(n,k)=>if(k==.free&&f.env.scope.kind==.function&&f.env.kindOf n==some .cell)then(n,.cell)else(n,k))=csc.names.map (fun p=>(p.1,if(p.2==.free&&f.env.scope.kind==.function&&f.env.kindOf p.1==some .cell)then .cell else p.2))from NY fun q _=>by
     obtain⟨n,k⟩:=q;dsimp only;split<;>rfl]
    refine aa this ?_;cases hq:csc.names.lookup x with
    |none=>rfl
    |some k=>
     simp only[Option.map_some];rcases Z.kinds _ (aR hq)with e|e|⟨e,_⟩
     ·have e:k=.local:=e;refine aa e ?_;rfl
     ·have e:k=.globalImplicit:=e;refine aa e ?_;rfl
     ·have e:k=.free:=e;subst e;refine aa (kcell x hq) (aa O.kd ?_);rfl
   have O':bW c f' csc:=⟨O.KX.keeps K.base,O.top.keeps K.base,O.glob,O.blt,Z.kind,kind',fun x k hx=>Z.debug _ (aR hx),fun x y b hx hy=>O.IQ x y b (clm _ (aR hx)) (clm _ (aR hy))⟩
   have kfree:∀x,f'.env.kindOf x=some .cell→csc.names.lookup x=some .free:=fun x hx=>by
    rw[kind']at hx;cases hq:csc.names.lookup x with
    |none=>rw[hq]at hx;cases hx
    |some k=>
     rcases Z.kinds _ (aR hq)with e|e|⟨e,_⟩
     ·have e:k=.local:=e;subst e;rw[hq]at hx;cases hx
     ·have e:k=.globalImplicit:=e;subst e;rw[hq]at hx;cases hx
     ·have e:k=.free:=e;exact aa e rfl
   have hlv:LV c f' (fun x=>([]:List (Str×Value)).reverse.lookup x) (c9 csc lo) ⟨W3.rg,W3.tp,[(itA,o),(a,listOf ([]:List Value).toArray 0)],W1.cl++[]⟩:=by
    have l01:jc W1 ⟨W3.rg,W3.tp,[(itA,o),(a,listOf ([]:List Value).toArray 0)],W1.cl++[]⟩:=by
     refine aa w31 (aa w32 ?_);exact⟨fun _ _ _ h=>h,fun _ h=>h⟩
    refine⟨fun x u hx=>?_,fun x hx=>?_⟩
    ·refine jb (zb hx) fun q1 v' q2 q3=>?_;rw[←q3];refine⟨fun z=>?_,fun z=>?_⟩
     ·rw[kind',q1]at z;cases z
     ·refine dh ((C1.lv.1 x v' q2).2 (kcell x q1)) fun b ob y b1 b2 hr'=>?_;revert hr';refine rA fun b3 b4=>?_;exact⟨b,ob,y,(clh x q1).trans b1,Nr _ b2,b3,b4.mono l01⟩
    ·have q1:=kfree x hx;refine dh (C1.lv.2 x (kcell x q1)) fun b ob y b1 b2 b3=>?_;exact⟨b,ob,y,(clh x q1).trans b1,Nr _ b2,b3⟩
   have C4:=rz (f':=f') (s1:={s3 with heap:=h4',toks:=s3.toks+([]:List (Str×Value)).length}) (exO:=[(itA,o),(a,listOf ([]:List Value).toArray 0)]) (clO:=W1.cl) (cs:=[]) C3 rfl sub (jH (subl.append_left W3.tp) C3.ap.nd) hns4 hk4 (Ny hLq) (fun q hq=>by cases hq) (by decide) C3.gens C3.os hlv;rw[N7]at C4;have e4:(⟨W3.rg,W3.tp,[(itA,o),(a,listOf ([]:List Value).toArray 0)],W1.cl⟩:Wd)=⟨W1.rg,W1.tp,[(itA,o),(a,listOf ([]:List Value).toArray 0)],W1.cl⟩:=by exact aa w31 (aa w32 rfl)
   rw[e4]at C4;generalize hW4:(⟨W1.rg,W1.tp,[(itA,o),(a,listOf ([]:List Value).toArray 0)],W1.cl⟩:Wd)=W4 at C4;have l14:jc W1 W4:=by rw[←hW4];exact⟨fun _ _ _ h=>h,fun _ h=>h⟩
   have Kz:∀p,W1.pt 0 0=some p→W4.pt 0 0=some p:=by rw[←hW4];exact fun _ h=>h
   have e4x:W4.ex=[(itA,o),(a,listOf ([]:List Value).toArray 0)]:=by rw[←hW4]
   have e4c:W4.cl=W1.cl:=by rw[←hW4]
   have hit4:gm c.g W4 itA o I 0:=hit.mono l14;have gI:=(C4.oz e4x).1;refine iR (W:=W4) rfl rfl gI hit4 ?_;refine rj (E0:=[]) KO S O' hA _ 0 rfl hgs (by simp) (ps:=[]) h3 C4 ⟨[],0,e4x,.nil⟩ hit4 fun s5 m5 W5 C5 a5 l5=>?_;refine eB (a5.is) fun ys nn ex5 hys=>?_;have cl5:W5.cl=W1.cl:=l5.cl.trans e4c
   have Cout:=mX (own:=[(itA,o),(a,listOf ([]:List Value).toArray 0)]++W1.cl) (kept:=W1.ex) (own1:=(a,listOf ys.toArray nn)::W1.cl) (exN:=(a,listOf ys.toArray nn)::W1.ex) C3 C5 sub rfl
    (by refine aa w33 (aa w34 ?_);exact((List.perm_append_comm).cons _).cons _) (by refine aa w34 ?_;exact(List.perm_append_comm).cons _) (by refine aa ex5 (aa cl5 ?_);exact NW _)
    (l31.trans (l14.trans l5.eR))
   revert h4;refine dD fun hl h4=>?_;have l5o:jc W5 ⟨W5.rg,W5.tp,(a,listOf ys.toArray nn)::W1.ex,W3.cl⟩:=⟨fun _ _ _ h=>h,fun _ h=>h⟩
   have mv:∀{s':Shared},CR c f s' m lo H2 ⟨W5.rg,W5.tp,(a,listOf ys.toArray nn)::W1.ex,W3.cl⟩→CR c f s' m lo H' (((⟨W5.rg,W5.tp,(a,listOf ys.toArray nn)::W1.ex,W3.cl⟩:Wd).ux W1.ex).add rg a (listOf ys.toArray nn))∧VR c.g (((⟨W5.rg,W5.tp,(a,listOf ys.toArray nn)::W1.ex,W3.cl⟩:Wd).ux W1.ex).add rg a (listOf ys.toArray nn)) v (.ref a):=
    fun Cx=>Cx.Bl rfl h4 h1a ⟨ys,nn,rfl,hys.mono l5o⟩
   have hbL:f.h₀.get? L'=none:=by
    cases q:f.h₀.get? L' with
    |none=>rfl
    |some ob=>
     have:=Heap.lt_size (K.base _ _ q);rw[K.size,hLq]at this;exact absurd this (Oc _)
   have hall:∀q∈(⟨W5.rg,W5.tp,(a,listOf ys.toArray nn)::W1.ex,W3.cl⟩:Wd).all,q.1≠L':=fun q hq=>by
    have Di:∀z∈W5.all,z.1≠L':=fun z hz=>(C5.N z hz).2.1;have inx:(a,listOf ys.toArray nn)∈W5.all:=Nm _ (Nm _ (Nr _ (by refine aa ex5 ?_;exact .head _)));rcases Nw.mp hq with h|h
    ·exact Di q (Nr _ h)
    ·rcases Nw.mp h with h|h
     ·exact Di q (Nm _ (Nr _ h))
     ·rcases Nw.mp h with h|h
      ·rcases Nv.mp h with rfl|h
       ·exact Di _ inx
       ·have:=(C3.N q (Nm _ (Nm _ (Nr _ (by refine aa w33 ?_;exact .tail _ (.tail _ h)))))).1;have:=Heap.lt_size this;rw[hLq]at this;exact Oa this
      ·refine Di q (Nm _ (Nm _ (Nm _ ?_)));refine aa cl5 ?_;rw[←w34];exact h
   refine xA (mv Cout) fun Cm rv=>?_
   have lf:Le W1 (((⟨W5.rg,W5.tp,(a,listOf ys.toArray nn)::W1.ex,W3.cl⟩:Wd).ux W1.ex).add rg a (listOf ys.toArray nn)):=
    Le.trans (B:=(⟨W5.rg,W5.tp,(a,listOf ys.toArray nn)::W1.ex,W3.cl⟩:Wd).ux W1.ex) ⟨(l14.trans l5.eR).ad,(l14.trans l5.eR).tp,fun p h=>l5.z p (Kz p h),rfl,w34⟩ (jC ..)
   refine k s5 _ (.ref a) L' m5 Cm (l1.trans lf) rv C5.F.ns (OY hLs) (fun h' tk hs=>(mv (Cout.other (k:=tk) (OY hLs) hbL hall hs)).1) hbL fun q hq=>?_;rcases DV hq with rfl|hq
   ·exact hall (a,listOf ys.toArray nn) (Nm _ (Nm _ (Nr _ (.head _))))
   ·refine hall q ?_;rcases Nw.mp hq with h|h
    ·exact Nr _ h
    ·rcases Nw.mp h with h|h
     ·exact Nm _ (Nr _ h)
     ·rcases Nw.mp h with h|h
      ·exact Nm _ (Nm _ (Nr _ (.tail _ h)))
      ·exact Nm _ (Nm _ (Nm _ h))
 refine aa hs3 ?_;exact goal3
theorem yY(KO:eO c)(S:e_ c n d r):zO c n d r:=fun O hA C hsc hgs h1 h2 h3 h4=>by
 rename_i f sc csc s m lo H W A elt it tg ifs rest p xs v I acc lo' H1 H2 H' rg;have hA':cU n d A:=hA.less (NQ _) (Oe _);refine mP KO S O hA' C hsc hgs h1 h2 h3 h4 fun s' W' w C0 m' C1 l1 r1 hns hne hk _ _=>?_;exact⟨m',hns,fun h' hs=>⟨W',hk h' s'.toks hs,l1,r1⟩⟩
theorem CX(KO:eO c)(S:e_ c n d r){x:Str}{px ps p:Pos}{csc:Scope}{elt it tg:Expr}{ifs:List Expr}{rest:List Comprehension}{xs v:AV}{I:It}{acc:List AV}{lo':Lo}{H1 H2 H':AH}{rg:Nat}
 (O:bW c f sc)(hA:cU n d A)(C:CR c f s m lo H W)(hsc:rP sc csc=true)(hgs:fo (⟨tg,it,ifs,0⟩::rest)=true)(h1:r.e sc lo it H=some (xs,H1))(h2:fj H1 xs=some I)
 (h3:mO (compTurn r csc elt (⟨tg,it,ifs,0⟩::rest)) I [] (c9 csc lo) H1=some (acc,lo',H2))(h4:newList H2 rg acc=some (v,H'))(hx:f.env.kindOf x=some .local)
 (hsw:swapsWith (.ListComp elt (⟨tg,it,ifs,0⟩::rest) csc p) (some (.Name x px)) ps.line f.env=pure true):
 wpAny (model c.prog c.w) A (exec (.Assign [.Name x px] (.ListComp elt (⟨tg,it,ifs,0⟩::rest) csc p) ps) f.env) (XP c f W .next (pt x v lo) H') aY s:=by
 refine aa (exec_Assign_Name_used _ _ _ _ hsw) ?_;refine wpAny_bind (wpAny_standAt (wpAny_bind ?_));refine wpAny_bind (wpAny_mono (mP (Q:=fun _ s'=>XP c f W .next (pt x v lo) H' .next s') KO S O hA C hsc hgs h1 h2 h3 h4 fun s' W' w C0 m' C1 l1 r1 hns hne hk hb hall=>?_) (fun _ s' hq=>wpAny_pure (wpAny_pure hq)) fun _ _ e=>e);refine wpAny_assign_Name (wpAny_storeName_local hx C1.F.ns (fun h' hn' hs'=>?_) (by exact aa O.kd rfl));exact⟨m',hns.sameBut hs' hne,fun h2 hs2=>⟨_,W',(C1.store (k:=s'.toks+1) r1 hx hn' hs').other (k:=s'.toks+1) hne hb hall hs2,l1.lex,rfl⟩⟩
end
end Hx
namespace Hx
open PySem PySem.W PyProof.Rows PySem.Calls
section
variable{c:Cx}{f f':Fm}{sc:Scope}{s s1:Shared}{m m1:Str→Option Value}{lo lo1:Lo}{H H1:AH}{W W1:Wd}{A:Around}{n d:Nat}{r:EV}{cal:je}{own:NL}
theorem vb(KO:eO c)(K:kN c n cal):∀d,e_ c n d (Ek c.P cal d)
 |0=>⟨fun _ _ _ _ _=>rfl,fun _ _ _ _ _ _ _=>rfl,fun _ _ _ _ _ _=>rfl,fun _ _ _ h=>(nomatch h),fun _ _ _ h=>(nomatch h),fun _ _ _ h=>(nomatch h),fun _ _ _ h=>(nomatch h)⟩
 |d+1=>by
  have S:=vb KO K d;refine⟨fun _ _ _ _ _=>rfl,fun _ _ _ _ _ _ _=>rfl,fun _ _ _ _ _ _=>rfl,fun O hA C h=>GX KO S K (yY KO S) O hA h C,fun O hA C h=>GZ KO S O hA h C,fun O hA C h=>G0 KO S O hA h C,?_⟩;intro f sc csc s m lo H W A elt gens p px ps x v H' O hA C h hx hsw;have hA':cU n d A:=hA.less (NQ _) (Oe _);refine iF ((rp h).is) fun tg it ifs rest t hr'=>?_;revert hr';refine iB fun I u e'2 g1 g2 hr'=>?_;refine aa e'2 ?_;revert hr';refine Ck fun g3 g4 g5 g6=>?_;exact CX KO S O hA' C g1 g2 (xs:=t.1) (H1:=t.2) (acc:=u.1) (lo':=u.2.1) (H2:=u.2.2) g3 g4 g5 g6 hx hsw
inductive BR (g:Gm) (W:Wd):Lo→List (Str×Value)→Prop
 |nil:BR g W [] []
 |cons {x v w l bs}:VR g W v w→BR g W l bs→BR g W ((x,v)::l) ((x,w)::bs)
theorem BR.keys{g:Gm}:∀{l:Lo}{bs:List (Str×Value)},BR g W l bs→bs.map (·.1)=l.map (·.1):=fun H=>by
 induction H with
 |nil=>rfl
 |cons _ _ ih=>simp[ih]
noncomputable def rx(sc:Scope):Bool:=sc.kind==.function&&!sc.isGenerator&&!sc.isCoroutine&&sc.names.all (fun p=>!(p.1==("__debug__":Str))&&sc.names.lookup p.1==some p.2&&
 (p.2==.local||(p.2==.globalImplicit||p.2==.cell)))&&decide ((sc.names.map (·.1)).Nodup)
theorem rf{sc:Scope}(h:rx sc=true)(n:Nat):((cellsFrom n sc.names []).map (·.1)).Nodup:=by
 unfold rx at h;simp only[ND]at h
 have key:∀(ns:List (Str×NameKind))(n:Nat)(acc:List (Str×Addr)),((acc.map (·.1))++(ns.map (·.1))).Nodup→((cellsFrom n ns acc).map (·.1)).Nodup:=by
  intro ns
  induction ns with
  |nil=>intro n acc h;simpa[cellsFrom]using h
  |cons p r ih=>
   intro n acc h;obtain⟨y,k⟩:=p;have h2:(y::((acc.map (·.1))++(r.map (·.1)))).Nodup:=(OE List.perm_middle).mp (by exact h);unfold cellsFrom;split
   ·exact ih _ _ (by exact h2)
   ·exact ih _ _ (NZ.mp h2).2
 exact key _ n [] (by simpa using h.2)
structure DA (c:Cx) (k:Nat) (fi:zK):Prop where
 sc:rx fi.scope=true
 ps:fi.params.all (fun x=>d4 fi.scope x)=true
 nd:fi.params.Nodup
 fn:∃oc od osl params dV kV doc pm an cdv ct,c.K.lookup (c.g.ga k)=some ⟨oc,od,.func (fnX fi.name fi.qual params fi.body fi.scope [] dV kV doc pm an cdv ct),osl⟩∧codeIn c.K cdv fi.qual=true∧
  ∀{args:List AV}{lo:Lo}{W:Wd}{ws:List Value}{s:Shared},gy fi.params fi.defs args=some lo→bh c.g W args ws→c.K.In s.heap→
   ∃bs,BindsTo s (fnX fi.name fi.qual params fi.body fi.scope [] dV kV doc pm an cdv ct) ⟨ws,[]⟩ bs∧BR c.g W lo bs
theorem um{ps:List Str}{ds as:List AV}{lo:Lo}(h:gy ps ds as=some lo):lo.map (·.1)=ps:=by
 induction ps generalizing as lo with
 |nil=>obtain⟨_,_,rfl⟩:=om h;rfl
 |cons p ps ih=>
  cases as with
  |cons a as=>
   refine ar (om h) fun l h1 e'2=>?_;refine bR e'2 ?_;simp[ih h1]
  |nil=>
   refine xA (oi h) fun _ h=>?_;refine ar (ob h) fun d _ h=>?_;refine ar (om h) fun l h1 e'2=>?_;refine bR e'2 ?_;simp[ih h1]
theorem mL{kd:Str→Option NameKind}{x:Str}:∀{bs:List (Str×Value)}{m:Str→Option Value},x∉bs.map (·.1)→bindL kd bs m x=m x
 |[],m=>fun h=>rfl
 |(y,w)::r,m=>fun h=>by
  unfold bindL;refine aa (mL (fun q=>h (by refine aa Of ?_;exact .tail _ q))) ?_;split
  ·show(if x=y then some w else m x)=m x;exact aa (if_neg fun e=>h (by refine aa e ?_;exact .head _)) rfl
  ·rfl
theorem mK{kd:Str→Option NameKind}{x:Str}:∀{bs:List (Str×Value)}{m:Str→Option Value},x∉bs.map (·.1)→bindC kd bs m x=m x
 |[],m=>fun h=>rfl
 |(y,w)::r,m=>fun h=>by
  unfold bindC;refine aa (mK (fun q=>h (by refine aa Of ?_;exact .tail _ q))) ?_;split
  ·rfl
  ·show(if x=y then some w else m x)=m x;exact aa (if_neg fun e=>h (by refine aa e ?_;exact .head _)) rfl
theorem BR.MW{g:Gm}{kd:Str→Option NameKind}{x:Str}{v:AV}:∀{l:Lo}{bs:List (Str×Value)}{m:Str→Option Value},BR g W l bs→(l.map (·.1)).Nodup→lk x l=some v→kd x=some .local→∃y,bindL kd bs m x=some y∧VR g W v y:=@fun _ _ m H nd h hk=>by
 induction H generalizing m with
 |nil=>exact ns h
 |@cons z u w l bs hv r ih=>
  refine xA (NZ.mp nd) fun n1 n2=>?_;unfold bindL;rw[Km]at h;split at h
  ·rename_i e;have e:=beq_iff_eq.mp e;clear nd;subst e;revert h;refine aJ fun h=>?_;refine bR h ?_;refine aa (if_pos hk) (aa (mL (by refine aa r.keys ?_;exact n1)) (aa (if_pos rfl) ?_));exact⟨w,rfl,hv⟩
  ·exact ih _ n2 h
theorem BR.atC{g:Gm}{kd:Str→Option NameKind}{x:Str}{v:AV}:∀{l:Lo}{bs:List (Str×Value)}{m:Str→Option Value},BR g W l bs→(l.map (·.1)).Nodup→lk x l=some v→kd x=some .cell→∃y,bindC kd bs m x=some y∧VR g W v y:=@fun _ _ m H nd h hk=>by
 induction H generalizing m with
 |nil=>exact ns h
 |@cons z u w l bs hv r ih=>
  refine xA (NZ.mp nd) fun n1 n2=>?_;unfold bindC;rw[Km]at h;split at h
  ·rename_i e;have e:=beq_iff_eq.mp e;clear nd;subst e;revert h;refine aJ fun h=>?_;refine bR h ?_;refine aa (if_neg (by refine aa hk ?_;simp)) (aa (mK (by refine aa r.keys ?_;exact n1)) (aa (if_pos rfl) ?_));exact⟨w,rfl,hv⟩
  ·exact ih _ n2 h
theorem CellsAre.at_{cm:Str→Option Value}{x:Str}{a:Addr}:∀{cs:List (Str×Addr)}{cells:List (Addr×Obj)},CellsAre cm cs cells→(x,a)∈cs→∃o,(a,o)∈cells∧o.data=.cell (cm x):=fun H q=>by
 induction H with
 |nil=>cases q
 |cons h r ih=>
  rcases Nv.mp q with e|q
  ·revert e;refine du fun e q1=>?_;subst e q1;exact⟨_,.head _,h⟩
  ·exact ar (ih q) fun o h1 h2=>⟨o,.tail _ h1,h2⟩
theorem CellsAre.keys{cm:Str→Option Value}:∀{cs:List (Str×Addr)}{cells:List (Addr×Obj)},CellsAre cm cs cells→cells.map (·.1)=cs.map (·.2):=fun H=>by
 induction H with
 |nil=>rfl
 |cons _ _ ih=>simp[ih]
theorem ff{x:Str}:∀{ns:List (Str×NameKind)}{n:Nat}{acc:List (Str×Addr)},((x,NameKind.cell)∈ns∨∃a,(x,a)∈acc)→∃a,(x,a)∈cellsFrom n ns acc
 |[],n,acc=>fun h=>by
  refine Or.elim h (fun h=>?_) fun h=>?_
  ·cases h
  ·exact h
 |(y,k)::r,n,acc=>fun h=>by
  unfold cellsFrom;split
  ·rename_i q;refine ff ?_;rcases h with h|⟨a,h⟩
   ·rcases Nv.mp h with e|h
    ·revert e;refine du fun e q1=>?_;subst e q1;exact .inr ⟨_,.head _⟩
    ·exact .inl h
   ·exact .inr ⟨a,.tail _ h⟩
  ·rename_i q;refine ff ?_;rcases h with h|h
   ·rcases Nv.mp h with e|h
    ·revert e;refine du fun e q1=>?_;subst e q1;exact absurd rfl q
    ·exact .inl h
   ·exact .inr h
theorem lM{x y:Str}{a:Addr}:∀{l:List (Str×Addr)},l.Pairwise (fun x y=>x.2≠y.2)→(x,a)∈l→(y,a)∈l→x=y
 |p::l,h,h1,h2=>by
  refine xA (OC.mp h) fun q1 q2=>?_;rcases Nv.mp h1 with e1|e1<;>rcases Nv.mp h2 with e2|e2
  ·exact congrArg Prod.fst (e1.trans e2.symm)
  ·subst e1;exact absurd rfl (q1 (y,a) e2)
  ·subst e2;exact absurd rfl (q1 (x,a) e1)
  ·exact lM q2 e1 e2
theorem lO:∀{l:List (Str×Addr)},l.Pairwise (fun x y=>x.2≠y.2)→(l.map (·.2)).Nodup
 |[]=>fun _=>List.nodup_nil
 |p::l=>fun h=>by
  refine xA (OC.mp h) fun q1 q2=>?_;refine NZ.mpr ⟨fun e=>?_,lO q2⟩;refine ar (NU.mp e) fun z hz e=>?_;exact q1 z hz e.symm
structure Ij (sc:Scope):Prop where
 kind:sc.kind=.function
 gen:sc.isGenerator=false
 co:sc.isCoroutine=false
 debug:∀p∈sc.names,(p.1==("__debug__":Str))=false
 look:∀p∈sc.names,sc.names.lookup p.1=some p.2
 kinds:∀p∈sc.names,p.2=.local∨p.2=.globalImplicit∨p.2=.cell
theorem vR{sc:Scope}(h:rx sc=true):Ij sc:=by
 unfold rx at h;simp only[ND,N5,Pc,decide_eq_true_eq]at h;obtain⟨⟨⟨⟨h1,h2⟩,h3⟩,h4⟩,h5⟩:=h;refine⟨beq_iff_eq.mp h1,h2,h3,fun p hp=>(h4 p hp).1.1,fun p hp=>beq_iff_eq.mp (h4 p hp).1.2,fun p hp=>?_⟩;exact(Bool.or_eq_true_iff.mp (h4 p hp).2).imp beq_iff_eq.mp fun e=>(Bool.or_eq_true_iff.mp e).imp beq_iff_eq.mp beq_iff_eq.mp
theorem rV{t:AF×Lo×AH}{v:AV}{H':AH}(h:wB t=some (v,H')):(∃lo,t=(.ret v,lo,H'))∨(v=.none∧∃lo,t=(.next,lo,H')):=by
 obtain⟨af,lo,H1⟩:=t;cases af with
 |next=>revert h;refine nv fun h q1=>?_;subst h q1;exact .inr ⟨rfl,_,rfl⟩
 |brk=>first|exact ns h|cases h
 |ret w=>revert h;refine nv fun h q1=>?_;subst h q1;exact .inl ⟨_,rfl⟩
theorem D7(KO:eO c){k:Nat}{fi:zK}(Y:DA c k fi)(S:e_ c n iw r)(O:bW c f sc)(hA:cU (n+1) 0 A)(C:CR c f s m lo H W){args:List AV}{ws:List Value}{lo0:Lo}{v:AV}{H':AH}
 (hb:gy fi.params fi.defs args=some lo0){tr:AF×Lo×AH}(hx:ru (r.x fi.scope) fi.body lo0 H=some tr)(h:wB tr=some (v,H'))(hv:bh c.g W args ws):
 codeAny (model c.prog c.w) A (.call (.ref (c.g.ga k)) ⟨ws,[]⟩) (RP (EP c f m lo W v H')) s:=by
 refine iF (Y.fn) fun oc od osl params dV hr'=>?_;revert hr';refine oT fun kV doc pm an cdv hr'=>?_;revert hr';refine zu fun ct q1 q2 q3=>?_;have KX:=O.KX.keeps C.F.keep;refine ar (q3 hb hv KX) fun bs b1 b2=>?_;have Z:=vR Y.sc;have keys:lo0.map (·.1)=fi.params:=um hb;have hnd:(lo0.map (·.1)).Nodup:=by refine aa keys ?_;exact Y.nd
 have stored:∀x∈bs,fi.scope.names.lookup x.1=some .local∨fi.scope.names.lookup x.1=some .cell:=fun x hx=>by
  have:x.1∈fi.params:=by refine bR keys (bR b2.keys ?_);exact List.mem_map_of_mem hx
  have:=N5.mp Y.ps _ this;unfold d4 at this;rw[Bool.or_eq_true]at this;exact this.imp beq_iff_eq.mp beq_iff_eq.mp
 have hcells:∀x nn,fi.scope.names.lookup x=some .cell→∃a,(cellsFrom nn fi.scope.names []).lookup x=some a:=fun x nn hx=>by
  refine xE (ff (n:=nn) (acc:=[]) (.inl (aR hx))) fun a ha=>?_;exact fG ha
 refine codeAny_call_function (hA.room) (KX _ _ q1) rfl Z.co Z.gen rfl (codeRec_of KX q2) (b1 _ _ _ _ ?_);refine wpAny_newFunctionEnv_cells Z.kind (fun x hx=>(stored x hx).imp id fun e=>⟨e,by obtain⟨a,ha⟩:=hcells x.1 _ e;exact aa ha rfl⟩) fun env' he s' x=>?_;refine⟨((O.top.keeps C.F.keep).keeps x.toInCall.keep).nolimit,codeAny_func ?_⟩;refine eB (x.done) fun h₁ tk es hk1=>?_;have hloc:env'.locals=s.heap.objs.size:=by refine aa he ?_;rfl
 obtain⟨cells,NC,Ycells⟩:=Cl.news (h₀:=s.heap) (h:=s'.heap) (L:=env'.locals) (cm:=bindC env'.kindOf bs fun _=>none) (Ny hloc.symm) (cs:=env'.cells) fun nm ca hm=>by
  refine xE (fG hm) fun b hbl=>?_
  have hnames:(env'.cells.map (·.1)).Nodup:=by
   refine aa he ?_;exact rf Y.sc _
  exact⟨x.cell nm ca (lookup_of_mem_nodup hnames hm),x.above nm ca hm⟩
 let f':Fm:=⟨hideAll s.heap (vU W ([]++[])),env'⟩;have sub:∀q∈([]++[]:NL),q∈W.ex++W.cl:=fun q hq=>by cases hq
 have Kh:=C.vV sub
 have kind':∀y,env'.kindOf y=(fi.scope.names.lookup y).map K9:=fun y=>by
  have e1:env'.kindOf y=fi.scope.names.lookup y:=by refine aa he ?_;rfl
  refine aa e1 ?_;cases hq:fi.scope.names.lookup y with
  |none=>rfl
  |some k=>
   rcases Z.kinds _ (aR hq)with e|e|e<;>(have e:k=_:=e;refine aa e ?_;rfl)
 have O':bW c f' fi.scope:=⟨O.KX.keeps Kh.base,O.top.keeps Kh.base,by show env'.globals=_;refine aa he ?_;rfl,by show env'.builtins=_;refine aa he ?_;rfl,by show env'.scope.kind=_;refine aa he ?_;exact Z.kind,kind',
  fun y k hy=>Z.debug _ (aR hy),fun y z b hy hz=>lM x.apart (aR hy) (aR hz)⟩
 have l0:jc W ⟨W.rg,W.tp,[],[]++cells⟩:=⟨fun _ _ _ h=>h,fun _ h=>h⟩
 have kc:∀y,env'.kindOf y=some .cell→fi.scope.names.lookup y=some .cell:=fun y hy=>by
  have e1:env'.kindOf y=fi.scope.names.lookup y:=by refine aa he ?_;rfl
  refine bR e1 ?_;exact hy
 have hlv:LV c f' (bindL env'.kindOf bs fun _=>none) lo0 ⟨W.rg,W.tp,[],[]++cells⟩:=by
  refine⟨fun y u hy=>⟨fun z=>?_,fun z=>?_⟩,fun y z=>?_⟩
  ·refine ar (b2.MW (m:=fun _=>none) hnd hy (show env'.kindOf y=_ from z)) fun w w1 w2=>?_;exact⟨w,w1,w2.mono l0⟩
  ·refine ar (b2.atC (m:=fun _=>none) hnd hy (show env'.kindOf y=_ from z)) fun w w1 w2=>?_;refine xE (hcells y (s.heap.objs.size+1) (kc y z)) fun a ha=>?_;have ha':env'.cells.lookup y=some a:=by refine aa he ?_;exact ha
   refine ar (CellsAre.at_ Ycells (aR ha')) fun o o1 o2=>?_;exact⟨a,o,w,ha',o1,by exact aa o2 (aa w1 rfl),w2.mono l0⟩
  ·refine xE (hcells y (s.heap.objs.size+1) (kc y z)) fun a ha=>?_;have ha':env'.cells.lookup y=some a:=by refine aa he ?_;exact ha
   refine ar (CellsAre.at_ Ycells (aR ha')) fun o o1 o2=>?_;exact⟨a,o,_,ha',o1,o2⟩
 have C1:=rz (f':=f') (s1:=s') (exO:=[]) (clO:=[]) (cs:=cells) C rfl sub (jH ((List.nil_sublist _).append_left W.tp) C.ap.nd) (x.toInCall.ns) (x.toInCall.keep) (Ny hloc.symm)
  (fun p hp=>⟨(NC p hp).1,(NC p hp).2.1,(NC p hp).2.2⟩) (by refine aa (CellsAre.keys Ycells) ?_;exact lO x.apart) (by refine aa es ?_;exact C.gens) (by refine aa es ?_;exact C.os) hlv
 have hA1:cU n iw (A.deeper env'):=⟨hA.hh,by have:=hA.depth;show A.depth+1+_+5<690;lia,by have:=hA.units;show A.units+3+150*n+3*iw+120<cLine;unfold iw;lia⟩
 have back:∀{s2:Shared}{m2:Str→Option Value}{lo2:Lo}{H2:AH}{W2:Wd}{u:AV}{w:Value},CR c f' s2 m2 lo2 H2 W2→kA ⟨W.rg,W.tp,[],[]++cells⟩ W2→VR c.g W2 u w→EP c f m lo W u H2 w s2:=fun{s2 m2 lo2 H2 W2 u w}C2 l2 r2=>by
  have Cout:=mX (own:=[]++[]) (kept:=W.ex++W.cl) (own1:=[]) (exN:=W.ex) C C2 sub rfl (List.Perm.refl _) (List.Perm.refl _) (List.nil_sublist _) (l0.trans l2.eR);exact⟨_,Cout,⟨(l0.trans l2.eR).ad,(l0.trans l2.eR).tp,fun p h=>l2.z p h,rfl,rfl⟩,r2.mono (W:=W2) (W':=⟨W2.rg,W2.tp,W.ex,W.cl⟩) ⟨fun _ _ _ h=>h,fun _ h=>h⟩⟩
 rcases rV h with⟨lo2,rfl⟩|⟨rfl,lo2,rfl⟩
 ·refine wpAny_mono (iy S O' hA1 hx C1) (fun fl s2 hp'=>?_) fun _ _ e=>e.elim;revert hp';refine Cp fun m2 W2 C2 l2 w hr'=>?_;revert hr';refine rA fun e r2=>?_;refine aa e ?_;exact back C2 l2 r2
 ·refine KR (iy S O' hA1 hx C1) fun fl s2 m2 W2 C2 l2 e=>?_;refine aa e ?_;exact back C2 l2 .none
end
end Hx
namespace Hx
open PySem PySem.W PyProof.Rows PySem.Calls
section
variable{c:Cx}{f f':Fm}{sc:Scope}{s s1:Shared}{m m1:Str→Option Value}{lo lo1:Lo}{H H1:AH}{W W1:Wd}{A:Around}{n d:Nat}{r:EV}{cal:je}{own:NL}
theorem CT{C:Addr}{rest:List Value}(hA:cU (n+1) 0 A):cU n 0 (A.under (.builtin "type.__call__" ⟨.ref C::rest,[]⟩)):=by
 refine⟨hA.hh,?_,?_⟩
 ·have:=hA.depth;refine(?_:A.depth+1+_+5<690);exact(LA [_,_,_,_] (.a (.a (.a (Sx V0) (.m 3 V1)) V2) (.k 1)) V3 (.a (.a (.a V0 (.m 3 (Sx V1))) V2) (.k 1)) V3 rfl this)
 ·have:=hA.units
  have hu:(A.under (.builtin "type.__call__" ⟨.ref C::rest,[]⟩)).units≤A.units+100:=by
   exact O3 (show 1+3*0≤100 by decide) _
  exact Ml hu this
theorem AX(KO:eO c){k i:Nat}{ci:jf}(h0:c.P.cls k=some ci)(hi:BL ("__init__":Str) ci.meths=some i)(K:kN c n cal)(O:bW c f sc)(hA:cU (n+1) 0 A)(C:CR c f s m lo H W){args:List AV}{ws:List Value}
 {dr di:Nat}{o:AV}{H1 H2 H':AH}(e1:cP H 0 (.dZ k [])=some (.loc dr di,H1))(e2:cP H1 0 (.inst k dr di)=some (o,H2))(e3:cal i (o::args) H2=some (.none,H'))(hv:bh c.g W args ws):
 codeAny (model c.prog c.w) A (.call (.ref (c.g.ga k)) ⟨ws,[]⟩) (RP (EP c f m lo W o H')) s:=by
 have Y:=KO.cls k ci h0;have KX:=O.KX.keeps C.F.keep;refine gS (Y.me _ i hi) fun y1 y2 y3=>?_;have C1':=C.new e1 (a:=s.heap.objs.size) (o:=emptyDict) (h':=s.heap.push emptyDict) (k:=s.toks) (gG _) (C.low O) (fun b o e=>Heap.get?_push_of_some _ e) (Heap.get?_push_size _ rfl) ⟨[],_,rfl,.nil,fun x v h=>(nomatch h)⟩;revert C1';refine ML fun C1 l1 r1=>?_
 have ha1:(W.add 0 s.heap.objs.size emptyDict).ad dr di=some s.heap.objs.size:=by
  refine ar (r1.addr) fun a q1 q2=>?_;cases q1;exact q2
 refine gS (C1.new e2 (a:=(s.heap.push emptyDict).objs.size) (o:=instObj (c.g.ga k) s.heap.objs.size) (h':=(s.heap.push emptyDict).push (instObj (c.g.ga k) s.heap.objs.size)) (k:=s.toks) (gG _) (C1.low O) (fun b o e=>Heap.get?_push_of_some _ e) (Heap.get?_push_size _ rfl) ⟨_,rfl,ha1⟩) fun C2 l2 r2=>?_;obtain⟨hh,g,dd,t,os⟩:=s;refine make_core (makes_of KX Y.EU) (looks_findIn KX y1) (fun self=>bind_fn KX self (beq_iff_eq.mp y2)) (.inl rfl) ?_;have hx:(Heap.push hh emptyDict).objs.size=hh.objs.size+1:=Heap.size_push ..;refine bR hx ?_;refine codeAny_mono (K.ok O (CT (C:=c.g.ga k) (rest:=ws) hA) C2 e3 (.cons r2 (hv.mono (l1.trans l2).eR))) fun r s' p=>?_;cases r with
 |error e=>exact p.elim
 |ok fl=>
 cases fl with
 |next=>exact p.elim
 |brk=>exact p.elim
 |cont=>exact p.elim
 |ret w=>
 revert p;refine zu fun W' C' l' r'=>?_;cases r';refine⟨rfl,W',C',(l1.trans l2).trans l',?_⟩;exact r2.mono l'.eR
structure KP (c:Cx):Prop extends eO c where
 fns:∀k fi,c.P.at_ k=some (.fn fi)→DA c k fi
theorem k_(T:KP c):∀n,kN c n (ib c.P n)
 |0=>⟨fun h=>(nomatch h),fun _ _ _ h _=>(nomatch h)⟩
 |n+1=>by
  have KO:=T.toeO;refine⟨fun h=>?_,fun{f sc s m lo H W A k args v H' ws}O hA C h hv=>?_⟩
  ·revert h;refine aO fun gi hg _=>?_;exact T.kp _ gi hg
  ·revert h;refine aO fun gi hg h=>?_;cases gi with
   |fn fi=>
    revert h;refine aO fun lo0 hb h=>?_;revert h;refine aO fun tr hx h=>?_;exact D7 KO (T.fns _ fi hg) (vb KO (k_ T n) iw) O hA C hb hx h hv
   |cls ci=>
    revert h;refine aO fun i hi h=>?_;revert h;refine aO fun dd e1 h=>?_;revert h;refine aO fun w e2 h=>?_;revert h;refine aO fun o e3 h=>?_;revert h;refine aO fun t e4 h=>?_;revert h;refine fQ fun _ e5 h=>?_;revert h;refine du fun h q1=>?_;subst h q1
    have hn:t.1=.none:=by
     obtain⟨t1,t2⟩:=t;cases t1 with
     |none=>rfl
     |_=>first|exact ns e5|cases e5
    have hc:c.P.cls k=some ci:=by unfold PT.cls;exact aa hg rfl
    refine AX KO hc hi (k_ T n) O hA C (dr:=w.1) (di:=w.2) (H1:=dd.2) (o:=o.1) (H2:=o.2) ?_ e3 (by refine aa e4 ?_;exact bR hn rfl) hv;refine aa e1 ?_;exact bR (AV.sx e2) rfl
end
noncomputable def aD(i:Nat):Option Stmt:=PySem.Challenge.pw_nz0106_01.main.body[i]?
noncomputable def IU:Const→AV
 |.str s=>.str s
 |.int i=>.int i
 |.bool b=>.bool b
 |_=>.none
def dflt:Expr→AV
 |.Constant c _ _=>IU c
 |.UnaryOp _ a _=>(match a with
  |.Constant (.int i) _ _=>.int (-i)
  |_=>.none)
 |.Tuple _ _ _=>.tup []
 |_=>.none
def aF(q:Str):Option Stmt→Option GI
 |some (.FunctionDef name args body _ _ _ scope _ _ _)=>some (.fn ⟨name,q++name,args.args.map (·.arg),args.defaults.map dflt,body,scope⟩)
 |_=>.none
noncomputable def D_:Option Stmt→List Stmt
 |some (.ClassDef _ _ _ body _ _ _ _ _ _ _)=>body
 |_=>[]
def aC(i j:Nat):Option Stmt:=(D_ (aD i))[j]?
noncomputable def nk(n:Str)(k:Nat):Str×Nat:=(n,k)
noncomputable def na(n:Str)(v:AV):Str×AV:=(n,v)
noncomputable def M0:List Nat:=[21,0,28,35,42,0,49,56,63,70,77,84,91,0,98,106,113,121,130,137,144,151,0,252,263,271,279,287,0,294,301,308,315,322,329,336,0,343,350,357,364,371,378,0,0,0,0,490,501,0,614,625,0,692,703,0,710,717,724,731,738,0,746,0,753,760,767,774,779,786,791,798,803,810,815,822,827,832,837,842,849,854,859,165,172,179,186,193,200,207,214,221,228,235,242,249,424,431,438,445,452,459,466,473,480,487,515,524,533,540,547,554,562,569,576,583,590,597,604,611,640,647,654,661,668,675,682,689]
def MG:List (Str×AV):=[na "_wall" (.gl 0),na "is_upper" (.gl 2),na "lower" (.gl 3),na "lower_text" (.gl 4),na "is_special" (.gl 6),na "is_formatting" (.gl 7),na "is_heading" (.gl 8),na "is_table_part" (.gl 9),na "is_math_point" (.gl 10),na "is_html_point" (.gl 11),na "implied_names" (.gl 12),na "foster_place" (.gl 14),na "place_for" (.gl 15),na "insert_sign" (.gl 16),na "make" (.gl 17),na "insert_element" (.gl 18),na "insert_token" (.gl 19),na "associate" (.gl 20),na "reconstruct" (.gl 21),na "OpenStack" (.gl 23),na "stops_scope" (.gl 24),na "in_scope" (.gl 25),na "node_in_scope" (.gl 26),na "pop_implied" (.gl 27),na "pop_with" (.gl 29),na "any_other_end" (.gl 30),na "furthest_block" (.gl 31),na "find_subject" (.gl 32),na "inner_loop" (.gl 33),na "move_last" (.gl 34),na "adopt" (.gl 35),na "is_marked" (.gl 37),na "end_open_link" (.gl 38),na "start_format" (.gl 39),na "start_marked" (.gl 40),na "end_marked" (.gl 41),na "body_formats" (.gl 42),na "Formatting" (.gl 47),na "alike" (.gl 48),na "Tree" (.gl 50),na "above" (.gl 51),na "Builder" (.gl 53),na "is_html_turn" (.gl 54),na "is_block_name" (.gl 56),na "named_part" (.gl 57),na "start_part" (.gl 58),na "end_part" (.gl 59),na "body_part" (.gl 60),na "ready" (.gl 62),na "_law_body" (.gl 64),na "_law_digit" (.gl 65),na "_law_names" (.gl 66),na "_law_attrs" (.gl 67),na "_law_last" (.gl 68),na "_law_last_stop" (.gl 69),na "_law_behind" (.gl 70),na "_law_open" (.gl 71),na "_law_again" (.gl 72),na "_law_sign" (.gl 73),na "_law_close" (.gl 74),na "_law_any" (.gl 75),na "_law_found" (.gl 76),na "_law_adopt" (.gl 77),na "_law_push" (.gl 78),na "_law_start" (.gl 79),na "_law_end" (.gl 80),na "_law_is_tree" (.gl 81),na "law" (.gl 82),na "len" (.bi "len"),na "max" (.bi "max"),na "sum" (.bi "sum"),na "sorted" (.bi "sorted"),na "chr" (.bi "chr"),na "isinstance" (.bi "isinstance"),na "range" (.ty "range"),na "list" (.ty "list"),na "tuple" (.ty "tuple"),na "str" (.ty "str")]
noncomputable def src(q:Str)(st:Option Stmt):Option (Str×Option Stmt):=some (q,st)
def rZ:List (Option (Str×Option Stmt)):=[
 src "" (aD 0),
 none,
 src "" (aD 2),
 src "" (aD 3),
 src "" (aD 4),
 none,
 src "" (aD 6),
 src "" (aD 7),
 src "" (aD 8),
 src "" (aD 9),
 src "" (aD 10),
 src "" (aD 11),
 src "" (aD 12),
 none,
 src "" (aD 14),
 src "" (aD 15),
 src "" (aD 16),
 src "" (aD 17),
 src "" (aD 18),
 src "" (aD 19),
 src "" (aD 20),
 src "" (aD 21),
 none,
 none,
 src "" (aD 24),
 src "" (aD 25),
 src "" (aD 26),
 src "" (aD 27),
 none,
 src "" (aD 29),
 src "" (aD 30),
 src "" (aD 31),
 src "" (aD 32),
 src "" (aD 33),
 src "" (aD 34),
 src "" (aD 35),
 none,
 src "" (aD 37),
 src "" (aD 38),
 src "" (aD 39),
 src "" (aD 40),
 src "" (aD 41),
 src "" (aD 42),
 none,
 none,
 none,
 none,
 none,
 src "" (aD 48),
 none,
 none,
 src "" (aD 51),
 none,
 none,
 src "" (aD 54),
 none,
 src "" (aD 56),
 src "" (aD 57),
 src "" (aD 58),
 src "" (aD 59),
 src "" (aD 60),
 none,
 src "" (aD 62),
 none,
 src "" (aD 64),
 src "" (aD 65),
 src "" (aD 66),
 src "" (aD 67),
 src "" (aD 68),
 src "" (aD 69),
 src "" (aD 70),
 src "" (aD 71),
 src "" (aD 72),
 src "" (aD 73),
 src "" (aD 74),
 src "" (aD 75),
 src "" (aD 76),
 src "" (aD 77),
 src "" (aD 78),
 src "" (aD 79),
 src "" (aD 80),
 src "" (aD 81),
 src "" (aD 82),
 src "OpenStack." (aC 23 0),
 src "OpenStack." (aC 23 1),
 src "OpenStack." (aC 23 2),
 src "OpenStack." (aC 23 3),
 src "OpenStack." (aC 23 4),
 src "OpenStack." (aC 23 5),
 src "OpenStack." (aC 23 6),
 src "OpenStack." (aC 23 7),
 src "OpenStack." (aC 23 8),
 src "OpenStack." (aC 23 9),
 src "OpenStack." (aC 23 10),
 src "OpenStack." (aC 23 11),
 src "OpenStack." (aC 23 12),
 src "Formatting." (aC 47 0),
 src "Formatting." (aC 47 1),
 src "Formatting." (aC 47 2),
 src "Formatting." (aC 47 3),
 src "Formatting." (aC 47 4),
 src "Formatting." (aC 47 5),
 src "Formatting." (aC 47 6),
 src "Formatting." (aC 47 7),
 src "Formatting." (aC 47 8),
 src "Formatting." (aC 47 9),
 src "Tree." (aC 50 0),
 src "Tree." (aC 50 1),
 src "Tree." (aC 50 2),
 src "Tree." (aC 50 3),
 src "Tree." (aC 50 4),
 src "Tree." (aC 50 5),
 src "Tree." (aC 50 6),
 src "Tree." (aC 50 7),
 src "Tree." (aC 50 8),
 src "Tree." (aC 50 9),
 src "Tree." (aC 50 10),
 src "Tree." (aC 50 11),
 src "Tree." (aC 50 12),
 src "Tree." (aC 50 13),
 src "Builder." (aC 53 0),
 src "Builder." (aC 53 1),
 src "Builder." (aC 53 2),
 src "Builder." (aC 53 3),
 src "Builder." (aC 53 4),
 src "Builder." (aC 53 5),
 src "Builder." (aC 53 6),
 src "Builder." (aC 53 7)]
def K5:List (Option GI):=[
 aF "" (aD 0),
 none,
 aF "" (aD 2),
 aF "" (aD 3),
 aF "" (aD 4),
 none,
 aF "" (aD 6),
 aF "" (aD 7),
 aF "" (aD 8),
 aF "" (aD 9),
 aF "" (aD 10),
 aF "" (aD 11),
 aF "" (aD 12),
 none,
 aF "" (aD 14),
 aF "" (aD 15),
 aF "" (aD 16),
 aF "" (aD 17),
 aF "" (aD 18),
 aF "" (aD 19),
 aF "" (aD 20),
 aF "" (aD 21),
 none,
 some (.cls ⟨[nk "__init__" 83,nk "push" 84,nk "pop" 85,nk "current" 86,nk "many" 87,nk "has" 88,nk "remove" 89,nk "place" 90,nk "put_at" 91,nk "name" 92,nk "has_name" 93,nk "pop_until" 94,nk "pop_to" 95],["tree","items"]⟩),
 aF "" (aD 24),
 aF "" (aD 25),
 aF "" (aD 26),
 aF "" (aD 27),
 none,
 aF "" (aD 29),
 aF "" (aD 30),
 aF "" (aD 31),
 aF "" (aD 32),
 aF "" (aD 33),
 aF "" (aD 34),
 aF "" (aD 35),
 none,
 aF "" (aD 37),
 aF "" (aD 38),
 aF "" (aD 39),
 aF "" (aD 40),
 aF "" (aD 41),
 aF "" (aD 42),
 none,
 none,
 none,
 none,
 some (.cls ⟨[nk "__init__" 96,nk "push" 97,nk "mark" 98,nk "clear_to_mark" 99,nk "find" 100,nk "has" 101,nk "place" 102,nk "remove" 103,nk "replace" 104,nk "put_at" 105],["tree","items"]⟩),
 aF "" (aD 48),
 none,
 some (.cls ⟨[nk "__init__" 106,nk "add" 107,nk "element" 108,nk "text" 109,nk "comment" 110,nk "doctype" 111,nk "insert" 112,nk "append" 113,nk "remove" 114,nk "move_children" 115,nk "place" 116,nk "last" 117,nk "value" 118,nk "is_html" 119],["kinds","spaces","names","attrs","texts","parents","children","contents"]⟩),
 aF "" (aD 51),
 none,
 some (.cls ⟨[nk "__init__" 120,nk "error" 121,nk "to" 122,nk "use" 123,nk "process" 124,nk "feed" 125,nk "adjusted" 126,nk "is_foreign" 127],["rules","tree","stack","formatting","mode","original","modes","head","form","owners","is_frameset_ok","is_scripting","is_foster","context","quirks","errors","pending","wish","is_skipping","is_acknowledged","is_done"]⟩),
 aF "" (aD 54),
 none,
 aF "" (aD 56),
 aF "" (aD 57),
 aF "" (aD 58),
 aF "" (aD 59),
 aF "" (aD 60),
 none,
 aF "" (aD 62),
 none,
 aF "" (aD 64),
 aF "" (aD 65),
 aF "" (aD 66),
 aF "" (aD 67),
 aF "" (aD 68),
 aF "" (aD 69),
 aF "" (aD 70),
 aF "" (aD 71),
 aF "" (aD 72),
 aF "" (aD 73),
 aF "" (aD 74),
 aF "" (aD 75),
 aF "" (aD 76),
 aF "" (aD 77),
 aF "" (aD 78),
 aF "" (aD 79),
 aF "" (aD 80),
 aF "" (aD 81),
 aF "" (aD 82),
 aF "OpenStack." (aC 23 0),
 aF "OpenStack." (aC 23 1),
 aF "OpenStack." (aC 23 2),
 aF "OpenStack." (aC 23 3),
 aF "OpenStack." (aC 23 4),
 aF "OpenStack." (aC 23 5),
 aF "OpenStack." (aC 23 6),
 aF "OpenStack." (aC 23 7),
 aF "OpenStack." (aC 23 8),
 aF "OpenStack." (aC 23 9),
 aF "OpenStack." (aC 23 10),
 aF "OpenStack." (aC 23 11),
 aF "OpenStack." (aC 23 12),
 aF "Formatting." (aC 47 0),
 aF "Formatting." (aC 47 1),
 aF "Formatting." (aC 47 2),
 aF "Formatting." (aC 47 3),
 aF "Formatting." (aC 47 4),
 aF "Formatting." (aC 47 5),
 aF "Formatting." (aC 47 6),
 aF "Formatting." (aC 47 7),
 aF "Formatting." (aC 47 8),
 aF "Formatting." (aC 47 9),
 aF "Tree." (aC 50 0),
 aF "Tree." (aC 50 1),
 aF "Tree." (aC 50 2),
 aF "Tree." (aC 50 3),
 aF "Tree." (aC 50 4),
 aF "Tree." (aC 50 5),
 aF "Tree." (aC 50 6),
 aF "Tree." (aC 50 7),
 aF "Tree." (aC 50 8),
 aF "Tree." (aC 50 9),
 aF "Tree." (aC 50 10),
 aF "Tree." (aC 50 11),
 aF "Tree." (aC 50 12),
 aF "Tree." (aC 50 13),
 aF "Builder." (aC 53 0),
 aF "Builder." (aC 53 1),
 aF "Builder." (aC 53 2),
 aF "Builder." (aC 53 3),
 aF "Builder." (aC 53 4),
 aF "Builder." (aC 53 5),
 aF "Builder." (aC 53 6),
 aF "Builder." (aC 53 7)]
noncomputable def JR:List (Nat×Nat):=[(384021,0),(447021,0),(448022,0),(449021,0),(450021,0),(451021,0),(452023,0),(453024,0),(454024,0),(545021,0),(548022,0),(554022,0),(555023,0),(121021,0),(769022,0),(771008,0),(771018,0),(771053,0),(771075,0),(771131,0),(461026,1),(464029,2),(678022,3),(771054,3),(771058,3),(771062,3),(679021,4),(771076,4),(771084,4),(771088,4),(771101,5),(698016,5),(711020,5),(720024,5),(735020,5),(771117,6),(721020,6),(727020,6),(734020,6),(757020,6),(706012,6),(725016,6),(787014,6),(764040,6)]
noncomputable def Cw(k:Nat):List (Nat×Nat)→Nat
 |[]=>7
 |(a,r)::l=>cond (Nat.beq a k) r (Cw k l)
def HA(p:Pos):Nat:=Cw (p.line*1000+p.col) JR
def PP:PT:=⟨MG,K5,HA⟩
end Hx
namespace Hx
open PySem PySem.W PyProof.Rows PySem.Calls
theorem lB{α β:Type}{f:α→β→Sem (ForInStep β)}(g:α→β→β)(h:∀x r,f x r=pure (.yield (g x r))):∀(l:List α)(b:β),forIn l b f=pure (l.foldl (fun r x=>g x r) b)
 |[]=>fun b=>rfl
 |x::l=>fun b=>by rw[List.forIn_cons,h,pure_bind];exact lB g h l _
noncomputable def jU(x:Str×Value)(r:List (Str×Value)):List (Str×Value):=if(r.lookup x.1).isNone then r++[x]else r
theorem ke{l l':List (Str×Value)}{x:Str}(h:x∉l.map (·.1)):(l++l').lookup x=l'.lookup x:=by
 induction l with
 |nil=>rfl
 |cons p l ih=>
  rw[Of,Nv,not_or]at h;refine aa Oy (aa O6 (aa (show(x==p.1)=false from beq_eq_false_iff_ne.mpr h.1) ?_));exact ih h.2
theorem oO{l:List (Str×Value)}{x:Str}(h:x∉l.map (·.1)):l.lookup x=none:=by
 have:=ke (l':=[]) h;simpa using this
theorem mh{ps:List Str}{ws:List Value}(h:ws.length≤ps.length):(ps.zip ws).map (·.1)=ps.take ws.length:=by
 induction ps generalizing ws with
 |nil=>cases ws<;>first|rfl|simp at h
 |cons p ps ih=>
  cases ws with
  |nil=>rfl
  |cons w ws=>simp only[List.zip_cons_cons,Of,Od,List.take_succ_cons];exact aa (ih (by simpa using h)) rfl
theorem eK{l:List (Str×Value)}{x:Str}(h:x∈l.map (·.1)):(l.lookup x).isNone=false:=by
 refine ar (NU.mp h) fun p hp e=>?_;refine xE (fG (x:=p.1) (b:=p.2) hp) fun v hv=>?_;refine bR e ?_;exact aa hv rfl
theorem oC:∀(qs:List Str)(D:List Value)(r:List (Str×Value))(k:Nat),qs.length=D.length→k≤qs.length→qs.Nodup→(∀x∈qs.take k,x∈r.map (·.1))→(∀x∈qs.drop k,x∉r.map (·.1))→
 (qs.zip D).foldl (fun r x=>jU x r) r=r++(qs.drop k).zip (D.drop k)
 |[],D,r,k=>fun h hk nd h1 h2=>by simp
 |q::qs,[],r,k=>fun h hk nd h1 h2=>by cases h
 |q::qs,d::D,r,0=>fun h hk nd h1 h2=>by
  refine xA (NZ.mp nd) fun n1 n2=>?_;refine aa List.zip_cons_cons (aa List.foldl_cons ?_);have hq:(r.lookup q).isNone=true:=by exact aa (oO (h2 q (.head _))) rfl
  have e:jU (q,d) r=r++[(q,d)]:=by unfold jU;exact aa (if_pos hq) rfl
  have h9:∀x∈qs.drop 0,x∉(r++[(q,d)]).map (·.1):=fun x hx hm=>by
   rw[Nu,Nw]at hm;rcases hm with hm|hm
   ·exact h2 x (.tail _ hx) hm
   ·have:x=q:=by simpa using hm
    clear hm hq;subst this;exact n1 hx
  refine aa e (aa (oC qs D _ 0 (by simpa using h) (Ov _) n2 (fun x hx=>by cases hx) h9) ?_);simp
 |q::qs,d::D,r,k+1=>fun h hk nd h1 h2=>by
  refine xA (NZ.mp nd) fun n1 n2=>?_;refine aa List.zip_cons_cons (aa List.foldl_cons ?_);have e:jU (q,d) r=r:=by unfold jU;rw[if_neg];refine aa (eK (h1 q (.head _))) ?_;simp
  refine aa e (aa (oC qs D r k (by simpa using h) (by simpa using hk) n2 (fun x hx=>h1 x (.tail _ hx)) h2) ?_);simp
theorem lu:∀{ps:List Str}{vs:List Value}{S:List (Str×Value)},ps.length=vs.length→ps.Nodup→(∀i(h:i<ps.length)(h':i<vs.length),S.lookup ps[i]=some vs[i])→ps.filterMap (fun n=>(S.lookup n).map (n,·))=ps.zip vs
 |[],vs,S=>fun h nd k=>by simp
 |p::ps,[],S=>fun h nd k=>by cases h
 |p::ps,v::vs,S=>fun h nd k=>by
  refine xA (NZ.mp nd) fun n1 n2=>?_;have k0:=k 0 (by simp) (by simp);simp only[List.getElem_cons_zero]at k0;refine aa List.filterMap_cons (aa k0 ?_);exact aa (lu (by simpa using h) n2 fun i hi hi'=>k (i+1) (OA hi) (OA hi')) rfl
theorem uT{ps:List Str}{vs:List Value}(nd:ps.Nodup)(i:Nat)(h:i<ps.length)(h':i<vs.length):(ps.zip vs).lookup ps[i]=some vs[i]:=by
 induction ps generalizing vs i with
 |nil=>first|exact ns h|cases h
 |cons p ps ih=>
  refine xA (NZ.mp nd) fun n1 n2=>?_;cases vs with
  |nil=>first|exact ns h'|cases h'
  |cons v vs=>
   cases i with
   |zero=>simp[O6]
   |succ i=>
    have hne:(ps[i]'(by simpa using h))≠p:=fun e=>n1 (e▸List.getElem_mem _);refine aa O6 (aa (beq_eq_false_iff_ne.mpr hne) ?_);exact ih n2 i (by simpa using h) (by simpa using h')
theorem A7{D:List Value}{n:Nat}(h:D.length≤n):D.drop (D.length-n)=D:=by refine aa (Nat.sub_eq_zero_of_le h) ?_;rfl
theorem yR{ps:List Str}{ws:List Value}{n:Nat}(h1:ws.length≤ps.length)(h2:n≤ws.length):List.filter (fun n=>(List.lookup n (ps.zip ws)).isNone) (List.take n ps)=[]:=by
 rw[List.filter_eq_nil_iff];intro x hx;refine aa (eK (mh h1▸List.take_subset_take_left ps h2 hx)) ?_;exact NG
theorem AQ{ps:List Str}{ws D:List Value}{a k:Nat}(e1:a+D.length=ps.length)(e2:a+k=ws.length):ps.zip ws++(List.drop k (List.drop a ps)).zip (List.drop k D)=ps.zip (ws++D.drop k):=by
 refine aa List.drop_drop (aa e2 ?_)
 have h:ws.length≤ps.length∨D.drop k=[]:=by
  by_cases q:k≤D.length
  ·left;exact(LA [_,_,_,_,_] V0 V1 (.a (.a V0 (.a V2 V4)) V3) (.a (.a (.a V2 V3) V1) V4) rfl (Nq (Nq (Ny e2.symm) (Ny e1)) q))
  ·right;exact Oz (Nat.le_of_not_ge q)
 rcases h with h|h
 ·have e:=List.zip_append (l₁:=ps.take ws.length) (r₁:=ps.drop ws.length) (l₂:=ws) (r₂:=D.drop k) (by refine aa List.length_take ?_;exact Nat.min_eq_left h);rw[List.take_append_drop]at e;have e':=List.zip_append (l₁:=ps.take ws.length) (r₁:=ps.drop ws.length) (l₂:=ws) (r₂:=[]) (by refine aa List.length_take ?_;exact Nat.min_eq_left h);rw[List.take_append_drop,N7,List.zip_nil_right,N7]at e';exact aa e (aa e' rfl)
 ·refine aa h (aa List.zip_nil_right ?_);rw[N7,N7]
theorem yQ{ps:List Str}{ws D:List Value}{a k:Nat}(nd:ps.Nodup)(e1:a+D.length=ps.length)(e2:a+k=ws.length)(h1:ws.length≤ps.length):
 List.foldl (fun r x=>jU x r) (ps.zip ws) ((List.drop a ps).zip D)=ps.zip (ws++D.drop k):=by
 have l:(ps.drop a).length=D.length:=by refine aa Oj ?_;exact Eq.symm (Nat.eq_sub_of_add_eq' e1)
 refine(oC (ps.drop a) D (ps.zip ws) k l (Me l e2 e1 h1) (nd.sublist (List.drop_sublist _ _)) (fun x hx=>?_) (fun x hx hm=>?_)).trans (AQ e1 e2)
 ·refine aa (mh h1) ?_;rw[List.take_drop,e2]at hx;exact Ob hx
 ·rw[mh h1]at hm;rw[List.drop_drop,e2]at hx;exact(Oh.mp ((List.take_append_drop ws.length ps).symm▸nd)).2.2 x hm x hx rfl
theorem Lx{α:Type}{M:Model}{A:Around}{Q:α→Shared→Prop}{E:Value→Shared→Prop}{s:Shared}{c:Prop} [Decidable c]{x y:Sem α}(h:¬c)(k:wpAny M A y Q E s):wpAny M A (if c then x else y) Q E s:=by refine aa (if_neg h) ?_;exact k
theorem Bm{c:Prop} [Decidable c]{x y:List (Str×Value)}:(if c then pure (.yield x)else pure (.yield y):Sem (ForInStep (List (Str×Value))))=pure (.yield (if c then x else y)):=by split<;>rfl
theorem yS{M:Model}{A:Around}{Q:List (Str×Value)→Shared→Prop}{E:Value→Shared→Prop}{s:Shared}{ps:List Str}{ws D:List Value}{it:Option (Array Value)}{dv:Value}{a k:Nat}
 {g0:Str×Value→List (Str×Value)×List (Str×Value)→Sem (ForInStep (List (Str×Value)×List (Str×Value)))}{g1:Str→List (Str×Value)×List Str→Sem (ForInStep (List (Str×Value)×List Str))}{f:Str×Value→List (Str×Value)→Sem (ForInStep (List (Str×Value)))}
 {bad1 bad2:List (Str×Value)×List (Str×Value)→Option (Array Value)→Sem (List (Str×Value))}{bad3:List (Str×Value)×List (Str×Value)→Option (Array Value)→List (Str×Value)→List (Str×Value)×List Str→Sem (List (Str×Value))}
 (hdef:∀(Q:Option (Array Value)→Shared→Prop),Q it s→wpAny M A (seqItems? dv) Q E s) (hD:(it.getD #[]).toList=D) (hf:∀x r,f x r=pure (.yield (jU x r)))
 (nd:ps.Nodup) (h1:ws.length≤ps.length) (h3:D.length≤ps.length) (e1:a+D.length=ps.length) (e2:a+k=ws.length) (hq:Q (ps.zip (ws++D.drop k)) s):
 wpAny M A (do
  let s0←forIn [] (ps.zip ws,[]) g0;let o←seqItems? dv
  if(decide (ws.length>ps.length)&&true)=true then bad1 s0 o else
  if(!(List.filter (fun n=>(List.lookup n s0.1).isNone) (List.take (ps.length-(List.drop ((o.getD #[]).toList.length-ps.length) (o.getD #[]).toList).length) ps)).isEmpty)=true then bad2 s0 o else do
  let s1←forIn ((List.drop (ps.length-(List.drop ((o.getD #[]).toList.length-ps.length) (o.getD #[]).toList).length) ps).zip (List.drop ((o.getD #[]).toList.length-ps.length) (o.getD #[]).toList)) s0.1 f;let s2←forIn [] (s1,[]) g1
  if(!s2.2.isEmpty)=true then bad3 s0 o s1 s2 else
  pure (List.filterMap (fun n=>Option.map (fun x=>(n,x)) (List.lookup n s2.1)) (ps++[]))) Q E s:=by
 refine wpAny_bind (wpAny_pure (wpAny_bind (hdef _ ?_)));have ha:ps.length-D.length=a:=Eq.symm (Nat.eq_sub_of_add_eq e1);refine aa hD (aa (A7 h3) (aa ha ?_));refine Lx (by simp;assumption) (Lx (by refine aa (yR h1 (Nat.le.intro e2)) ?_;simp) (wpAny_bind (wpAny_of_eq (lB jU hf _ _) ?_)));refine wpAny_bind (wpAny_pure (Lx NG ?_));refine aa (yQ nd e1 e2 h1) ?_;rw[N7];refine aa (lu (by refine aa NH (aa Oj ?_);exact Mc h1 e1 e2) nd fun i hi hi'=>uT nd i hi hi') ?_;exact wpAny_pure hq
theorem yT{as:List Arg}{dk:List Expr}{ws D:List Value}{it:Option (Array Value)}{s:Shared}{fd:FuncData}(hp:fd.params=⟨[],as,none,[],[],none,dk⟩)
 (hdef:∀(M:Model)(A:Around)(E:Value→Shared→Prop)(Q:Option (Array Value)→Shared→Prop),Q it s→wpAny M A (seqItems? fd.defaults) Q E s) (hD:(it.getD #[]).toList=D)
 (nd:(as.map (·.arg)).Nodup) (h1:ws.length≤as.length) (h2:as.length≤ws.length+D.length) (h3:D.length≤as.length):
 BindsTo s fd ⟨ws,[]⟩ ((as.map (·.arg)).zip (ws++D.drop (ws.length+D.length-as.length))):=by
 intro M A E Q hq;have l:(as.map (·.arg)).length=as.length:=Nn ..;obtain⟨_,_,pa,_,_,_,_,_,_,_,_,_,_,_,_⟩:=fd;dsimp only at hp hdef;refine aa hp ?_;exact yS (a:=as.length-D.length) (k:=ws.length+D.length-as.length) (hdef M A E) hD (fun _ _=>Bm) nd (by refine aa l ?_;exact h1) (by refine aa l ?_;exact h3) (by refine aa l ?_;exact Nat.sub_add_cancel h3) (L6 h2 h3) hq
set_option tactic.hygienic true in
theorem yP{W:Wd}{g:Gm}{ps:List Str}{ds as:List AV}{lo:Lo}{ws D:List Value}(h:gy ps ds as=some lo)(hv:bh g W as ws)(hD:bh g W ds D):
 ws.length≤ps.length∧ps.length-ws.length≤D.length∧BR g W lo (ps.zip (ws++D.drop (D.length-(ps.length-ws.length)))):=by
 have eD:=hD.length
 induction ps generalizing as lo ws with
 |nil=>
  refine ar (om h) fun _ hn e'2=>?_;subst e'2;rw[ik hn]at hv;cases hv;exact⟨NQ _,Ov _,.nil⟩
 |cons p ps ih=>
  cases as with
  |cons a as=>
   refine ar (om h) fun l h1 e'2=>?_;subst e'2;cases hv with
   |cons ha hv=>
    rename_i w ws;refine gS (ih h1 hv) fun i1 i2 i3=>?_;refine⟨Nat.succ_le_succ i1,by simp only[Od];exact LS i2,?_⟩;refine aa Oy (aa List.zip_cons_cons (aa (show(p::ps).length-(w::ws).length=ps.length-ws.length by simp only[Od];exact Nat.add_sub_add_right _ 1 _) ?_));exact .cons ha i3
  |nil=>
   cases hv;refine xA (oi h) fun hlt h=>?_;refine ar (ob h) fun d h1 h=>?_;refine ar (om h) fun l h2 e'2=>?_;refine bR e'2 ?_;refine gS (ih h2 .nil) fun i1 i2 i3=>?_;rw[List.head?_drop]at h1;refine ar (hD.get h1) fun w w1 w2=>?_;obtain⟨hk,w3⟩:=N4.mp w1;refine⟨Ov _,by simp only[Od,List.length_nil];exact le_of_le_of_eq hlt (id (Eq.symm eD)),?_⟩;rw[eD]at i3⊢;refine aa (OG hk) (aa List.zip_cons_cons (aa w3 (aa (show ds.length-(ps.length+1)+1=ds.length-ps.length by exact C_ hlt) ?_)));exact .cons w2 i3
end Hx
namespace Hx
open PySem PySem.W PyProof.Rows PySem.Calls
def mY(k:Nat):Nat:=(M0[k]?).getD 0
noncomputable def Jb:List Addr:=[122,516,525]
def GB(k:Nat):List Str:=((PP.cls k).map (·.attrs)).getD []
def rC(prog:Program)(w:World):Gm:=⟨prog,w,mY,Jb,GB⟩
noncomputable def Mx(d:Data):Option FuncData:=d.casesOn none (fun _=>none) (fun _ _=>none) (fun _ _=>none) (fun _ _ _=>none) (fun _ _=>none) (fun _=>none) (fun f=>some f) (fun _=>none) (fun _=>none) none
noncomputable def My(d:Data):Option (Array Value):=d.casesOn none (fun _=>none) (fun x _=>some x) (fun _ _=>none) (fun _ _ _=>none) (fun _ _=>none) (fun _=>none) (fun _=>none) (fun _=>none) (fun _=>none) none
theorem IS{d:Data}{f:FuncData}(h:Mx d=some f):d=.func f:=by cases d<;>first|exact cZ h|exact congrArg _ (NF h)
theorem IT{d:Data}{x:Array Value}(h:My d=some x):∃n,d=.seq x n:=by cases d<;>first|exact cZ h|exact⟨_,congrArg (Data.seq · _) (NF h)⟩
noncomputable def Bo(K:Frag)(a:Nat):Option FuncData:=(K.lookup a).bind fun o=>Mx o.data
abbrev FV:=Str×Str×FuncBody×Scope×Addr×List (Str×Addr)×Addr×Arguments
noncomputable def oE(fd:FuncData):FV:=(fd.name,fd.qualname,fd.body,fd.scope,fd.globals,fd.closure,fd.builtins,fd.params)
noncomputable def CG(q:Str):Option Stmt→Option FV
 |some (.FunctionDef name args body _ _ _ scope _ _ _)=>some (name,q++name,.stmts body,scope,mainGlobals,[],builtinsNs,args)
 |_=>.none
def IY(v:AV)(w:Value):Bool:=match v with
 |.str s=>(match w with|.str x _=>s==x|_=>false)
 |.int i=>(match w with|.int x _=>decide (i=x)|_=>false)
 |.bool b=>(match w with|.bool x=>b==x|_=>false)
 |.tup l=>l.isEmpty&&(match w with|.ref a=>Jb.contains a|_=>false)
 |_=>false
noncomputable def A8:List AV→List Value→Bool
 |[],[]=>true
 |v::vs,w::ws=>IY v w&&A8 vs ws
 |_,_=>false
def A3(K:Frag)(ds:List AV)(d:Value):Bool:=match d with
 |.none=>ds.isEmpty
 |.ref T=>((K.lookup T).bind fun o=>My o.data).any fun xs=>A8 ds xs.toList
 |_=>false
def CE:Option Stmt→List AV
 |some (.FunctionDef _ args _ _ _ _ _ _ _ _)=>args.defaults.map dflt
 |_=>[]
def vQ(K:Frag)(k:Nat):Bool:=match(rZ[k]?).bind id with
 |some (_,st)=>(Bo K (mY k)).any (fun fd=>codeIn K fd.code fd.qualname&&A3 K (CE st) fd.defaults)&&keepIn K (.ref (mY k))
 |.none=>true
def CY(K:Frag)(k:Nat):Option FV:=match(rZ[k]?).bind id with
 |some _=>(Bo K (mY k)).map oE
 |.none=>.none
def CZ(k:Nat):Option FV:=match(rZ[k]?).bind id with
 |some (q,st)=>CG q st
 |.none=>.none
def HC:Option Stmt→Bool
 |some (.FunctionDef _ args _ _ _ _ scope _ _ _)=>rx scope&&(args.args.map (·.arg)).all (fun x=>d4 scope x)&&decide ((args.args.map (·.arg)).Nodup)&&args.posonlyargs.isEmpty&&args.vararg.isNone&&args.kwonlyargs.isEmpty&&
  args.kw_defaults.isEmpty&&args.kwarg.isNone&&decide (args.defaults.length≤args.args.length)
 |_=>false
def CD(k:Nat):Bool:=match(rZ[k]?).bind id with
 |some (_,st)=>HC st
 |.none=>true
def G7(k:Nat):Option GI:=match(rZ[k]?).bind id with
 |some (q,st)=>aF q st
 |.none=>.none
noncomputable def ou:List Nat:=[23,47,50,53]
def ot(K:Frag)(k:Nat):Bool:=match PP.cls k with
 |some ci=>plainGet K (mY k) ""&&hasDictIn K (mY k)&&(findIn K (.ref (mY k)) "__setattr__"==some (some (.builtin "object.__setattr__")))&&plainOver K (mY k)&&makesIn K (mY k)&&keepIn K (.ref (mY k))&&
  ci.attrs.all (fun x=>findIn K (.ref (mY k)) x==some .none)&&ci.meths.all (fun p=>(findIn K (.ref (mY k)) p.1==some (some (.ref (mY p.2))))&&isFn K (.ref (mY p.2))&&!(mem p.1 ci.attrs))
 |.none=>false
def By(K:Frag)(p:Str×AV):Bool:=match p.2 with
 |.gl k=>nsIn K mainGlobals p.1==some (some (.ref (mY k)))
 |.bi id=>(nsIn K mainGlobals p.1==some .none)&&(bootBuiltins p.1==some (.builtin id))&&!(p.1==("__name__":Str))&&handedIn (.builtin id)
 |.ty n=>(nsIn K mainGlobals p.1==some .none)&&(bootBuiltins p.1==some (.type n))&&!(p.1==("__name__":Str))
 |_=>false
structure vq (K:Frag):Prop where
 view:(List.range 128).map (CY K)=(List.range 128).map CZ
 fn:(List.range 128).all (vQ K)=true
 st:(List.range 128).all CD=true
 gi:(List.range 128).map (fun k=>if ou.contains k then none else PP.at_ k)=(List.range 128).map G7
 cls:ou.all (ot K)=true
 gl:MG.all (By K)=true
 em:Jb.map (fun a=>K.lookup a)=Jb.map fun _=>some (⟨.type "tuple",none,.seq #[] 0,#[]⟩:Obj)
theorem F9{x:Str}{v:AV}:∀{l:Lo},lk x l=some v→(x,v)∈l
 |[]=>fun h=>by exact cZ h
 |(y,u)::l=>fun h=>by
  rw[Km]at h;split at h
  ·rename_i q;revert h;refine aJ fun h=>?_;subst h;refine aa (beq_iff_eq.mp q) ?_;exact .head _
  ·exact .tail _ (F9 h)
theorem BM{x:Str}{v:Nat}:∀{l:List (Str×Nat)},BL x l=some v→(x,v)∈l
 |[]=>fun h=>by exact cZ h
 |(y,u)::l=>fun h=>by
  rw[La]at h;split at h
  ·rename_i q;revert h;refine aJ fun h=>?_;subst h;refine aa (beq_iff_eq.mp q) ?_;exact .head _
  ·exact .tail _ (BM h)
theorem BX{x:Str}:∀{l:List Str},mem x l=true→x∈l
 |[]=>fun h=>by exact gz h
 |y::l=>fun h=>by
  rw[Jv]at h;split at h
  ·rename_i q;refine aa (beq_iff_eq.mp q) ?_;exact .head _
  ·exact .tail _ (BX h)
theorem jI{p:Nat→Bool}{n k:Nat}(h:(List.range n).all p=true)(hk:k<n):p k=true:=N5.mp h k (NV.mpr hk)
theorem lU{α:Type}{f g:Nat→α}{n k:Nat}(h:(List.range n).map f=(List.range n).map g)(hk:k<n):f k=g k:=by
 have:=congrArg (·[k]?) h;simpa[hk]using this
set_option tactic.hygienic true in
theorem Ec{prog:Program}{w:World}{W:Wd}{v:AV}{u:Value}(h:IY v u=true):VR (rC prog w) W v u:=by
 cases v<;>(first|exact ns h|exact gz h|skip)
 ·cases u<;>(first|exact ns h|exact gz h|skip);have:=beq_iff_eq.mp h;refine aa this ?_;exact .bool _
 ·cases u<;>(first|exact ns h|exact gz h|skip);have:=of_decide_eq_true h;refine aa this ?_;exact .int _ _
 ·cases u<;>(first|exact ns h|exact gz h|skip);have:=beq_iff_eq.mp h;refine aa this ?_;exact .str _ _
 ·rename_i l;have h:=Nt.mp h;have:l=[]:=List.isEmpty_iff.mp h.1;refine aa this ?_;cases u with
  |ref a=>exact .l9 (List.contains_iff_mem.mp h.2)
  |_=>exact absurd h.2 NG
theorem rm{prog:Program}{w:World}{W:Wd}:∀{vs:List AV}{us:List Value},A8 vs us=true→bh (rC prog w) W vs us
 |[],[]=>fun _=>.nil
 |[],_::_=>fun h=>by exact gz h
 |_::_,[]=>fun h=>by exact gz h
 |v::vs,u::us=>fun h=>by
  exact .cons (Ec (Nt.mp h).1) (rm (Nt.mp h).2)
theorem EA:K5.length=128:=by decide+kernel
theorem AE{k:Nat}(h:¬k<128):PP.at_ k=none:=by
 unfold PT.at_;refine aa (NO (by show K5.length≤k;refine aa EA ?_;exact Nat.le_of_not_lt h)) ?_;rfl
theorem AY{k:Nat}{ci:jf}(h:PP.cls k=some ci):PP.at_ k=some (.cls ci):=by
 revert h;refine aO fun g h1 h2=>?_;cases g with
 |fn f=>first|exact ns h2|cases h2
 |cls c=>revert h2;refine aJ fun h2=>?_;subst h2;exact h1
theorem IG{K:Frag}(T:vq K){k:Nat}{fi:zK}(h:PP.at_ k=some (.fn fi)):k<128∧∃q st,(rZ[k]?).bind id=some (q,st)∧aF q st=some (.fn fi):=by
 have hk:k<128:=Classical.byContradiction fun q=>by rw[AE q]at h;exact cZ h
 refine⟨hk,?_⟩;have hg:=lU T.gi hk;by_cases hc:ou.contains k=true
 ·have:=N5.mp T.cls k (List.contains_iff_mem.mp hc);unfold ot at this;cases q:PP.cls k with
  |none=>rw[q]at this;exact gz this
  |some ci=>rw[AY q]at h;revert h;refine aJ fun h=>?_;cases h
 ·rw[if_neg hc,h]at hg;unfold G7 at hg;cases q:(rZ[k]?).bind id with
  |none=>rw[q]at hg;cases hg
  |some t=>obtain⟨q1,st⟩:=t;rw[q]at hg;exact⟨q1,st,rfl,hg.symm⟩
theorem K4{q:Str}{st:Option Stmt}{fi:zK}(h:aF q st=some (.fn fi)):∃name args body dl rt tc scope ps pk pl,st=some (.FunctionDef name args body dl rt tc scope ps pk pl)∧fi=⟨name,q++name,args.args.map (·.arg),args.defaults.map dflt,body,scope⟩:=by
 cases st with
 |none=>first|exact ns h|cases h
 |some s=>
  cases s with
  |FunctionDef=>cases h;exact⟨_,_,_,_,_,_,_,_,_,_,rfl,rfl⟩
  |_=>first|exact ns h|cases h
set_option tactic.hygienic true in
theorem Er{K:Frag}{a:Nat}{fd:FuncData}(h:Bo K a=some fd):∃oc od osl,K.lookup a=some ⟨oc,od,.func fd,osl⟩:=by
 revert h;refine aO fun o e h=>?_;exact⟨_,_,_,e.trans (congrArg (fun d=>some (⟨o.cls,o.dict,d,o.slots⟩:Obj)) (IS h))⟩
set_option tactic.hygienic true in
theorem Eb{K:Frag}{ds:List AV}{d:Value}{s:Shared}{prog:Program}{w:World}(h:A3 K ds d=true)(KX:K.In s.heap):
 ∃it D,(∀(M:Model)(A:Around)(E:Value→Shared→Prop)(Q:Option (Array Value)→Shared→Prop),Q it s→wpAny M A (seqItems? d) Q E s)∧(it.getD #[]).toList=D∧∀W,bh (rC prog w) W ds D:=by
 cases d with
 |none=>
  have:ds=[]:=List.isEmpty_iff.mp h;exact⟨none,[],fun M A E Q h=>wpAny_pure h,rfl,fun W=>by refine aa this ?_;exact .nil⟩
 |ref T0=>
  obtain⟨xs,e,h⟩:=anyI h;revert e;refine aO fun o e g=>?_;obtain⟨n,g⟩:=IT g;exact⟨some xs,xs.toList,fun M A E Q h=>wpAny_seqItems (KX _ _ e) g h,rfl,fun W=>rm h⟩
 |_=>first|exact ns h|exact gz h
theorem y_{fd:FuncData}{name q:Str}{b:FuncBody}{sc:Scope}{g bu:Addr}{cl:List (Str×Addr)}{args:Arguments}(h:oE fd=(name,q,b,sc,g,cl,bu,args)):∃de kw dc pm an cd ct,fd=⟨name,q,args,b,sc,g,cl,de,kw,dc,pm,an,cd,ct,bu⟩:=by
 cases fd;cases h;exact⟨_,_,_,_,_,_,_,rfl⟩
theorem G2{c:Cx}{as:List Arg}{dk:List Expr}{fd:FuncData}(hm:c.g=rC c.g.prog c.g.w)(hp:fd.params=⟨[],as,none,[],[],none,dk⟩)(f2:A3 c.K (dk.map dflt) fd.defaults=true)(s3:(as.map (·.arg)).Nodup)(s9:dk.length≤as.length)
 {args:List AV}{lo:Lo}{W:Wd}{ws:List Value}{s:Shared}(hb:gy (as.map (·.arg)) (dk.map dflt) args=some lo)(hv:bh c.g W args ws)(KX:c.K.In s.heap):∃bs,BindsTo s fd ⟨ws,[]⟩ bs∧BR c.g W lo bs:=by
 refine bx (Eb (prog:=c.g.prog) (w:=c.g.w) f2 KX) fun it D d1 d2 d3=>?_;have d3:=d3 W;rw[←hm]at d3;refine gS (yP hb hv d3) fun z1 z2 z3=>?_;have eD:=d3.length;have hn:(as.map (·.arg)).length=as.length:=Nn ..;rw[Nn]at eD;rw[hn]at z1 z2 z3;refine⟨_,yT hp d1 d2 s3 z1 (Nat.sub_le_iff_le_add'.mp z2) (H7 eD s9),?_⟩;refine aa (show ws.length+D.length-as.length=D.length-(as.length-ws.length) by exact(congrArg _ (O4 z1)).symm.trans (Nat.add_sub_add_left _ _ _)) ?_;exact z3
theorem y9{c:Cx}{k:Nat}{fd:FuncData}{name qual:Str}{as:List Arg}{dk:List Expr}{body:List Stmt}{scope:Scope}(hm:c.g=rC c.g.prog c.g.w)(hl:∃oc od osl,c.K.lookup (c.g.ga k)=some ⟨oc,od,.func fd,osl⟩)
 (hv:oE fd=(name,qual,.stmts body,scope,mainGlobals,[],builtinsNs,⟨[],as,none,[],[],none,dk⟩)) (f1:codeIn c.K fd.code fd.qualname=true) (f2:A3 c.K (dk.map dflt) fd.defaults=true)
 (s1:rx scope=true) (s2:(as.map (·.arg)).all (fun x=>d4 scope x)=true) (s3:(as.map (·.arg)).Nodup) (s9:dk.length≤as.length):
 DA c k ⟨name,qual,as.map (·.arg),dk.map dflt,body,scope⟩:=by
 obtain⟨de,kw,dc,pm,an,cd,ct,rfl⟩:=y_ hv;refine HX hl fun oc od osl hl=>?_;exact⟨s1,s2,s3,oc,od,osl,_,de,kw,dc,pm,an,cd,ct,hl,f1,fun hb hv KX=>G2 hm rfl f2 s3 s9 hb hv KX⟩
theorem E_{name args body dl rt tc scope ps pk pl}(h:HC (some (.FunctionDef name args body dl rt tc scope ps pk pl))=true):
 ∃as dk,rx scope=true∧(as.map (·.arg)).all (fun x=>d4 scope x)=true∧(as.map (·.arg)).Nodup∧dk.length≤as.length∧args=⟨[],as,none,[],[],none,dk⟩:=by
 obtain⟨p1,as,p3,p4,p5,p6,dk⟩:=args;have h5:=Nt.mp (Nt.mp (Nt.mp (Nt.mp (Nt.mp (Nt.mp h).1).1).1).1).1;refine aa (show p1=[]from List.isEmpty_iff.mp h5.2) (aa (show p3=none from Option.isNone_iff_eq_none.mp (Nt.mp (Nt.mp (Nt.mp (Nt.mp (Nt.mp h).1).1).1).1).2) (aa (show p4=[]from List.isEmpty_iff.mp (Nt.mp (Nt.mp (Nt.mp (Nt.mp h).1).1).1).2) (aa (show p5=[]from List.isEmpty_iff.mp (Nt.mp (Nt.mp (Nt.mp h).1).1).2) (aa (show p6=none from Option.isNone_iff_eq_none.mp (Nt.mp (Nt.mp h).1).2) ?_))));exact⟨as,dk,(Nt.mp (Nt.mp h5.1).1).1,(Nt.mp (Nt.mp h5.1).1).2,of_decide_eq_true (Nt.mp h5.1).2,of_decide_eq_true (Nt.mp h).2,rfl⟩
theorem JN{K:Frag}{k:Nat}{q:Str}{st:Option Stmt}(h1:(rZ[k]?).bind id=some (q,st)):CY K k=(Bo K (mY k)).map oE∧CZ k=CG q st∧CD k=HC st∧
 vQ K k=((Bo K (mY k)).any (fun fd=>codeIn K fd.code fd.qualname&&A3 K (CE st) fd.defaults)&&keepIn K (.ref (mY k))):=by
 unfold CY CZ CD vQ;refine aa h1 ?_;exact⟨rfl,rfl,rfl,rfl⟩
theorem Es{c:Cx}(hg:c.g.ga=mY)(hm:c.g=rC c.g.prog c.g.w)(T:vq c.K){k:Nat}{fi:zK}(h:PP.at_ k=some (.fn fi)):DA c k fi:=by
 refine Gh (IG T h) fun hk q st h1 h2=>?_;obtain⟨name,args,body,dl,rt,tc,scope,ps,pk,pl,e1,e2⟩:=K4 h2;have hv:=lU T.view hk;have hf:=jI T.fn hk;have hs:=jI T.st hk;refine ja (JN (K:=c.K) h1) fun r1 r2 r3 r4=>?_;rw[r1,r2]at hv;rw[r4]at hf;rw[r3]at hs;clear h h1 h2 r2 r3 r4;subst e1 e2;obtain⟨as,dk,s1,s2,s3,s9,rfl⟩:=E_ hs;revert hv;refine fQ fun fd v1 v2=>?_;rw[v1,Option.any_some,ND,ND]at hf;exact y9 hm (by refine aa hg ?_;exact Er v1) v2 hf.1.1 hf.1.2 s1 s2 s3 s9
set_option tactic.hygienic true in
theorem HJ{c:Cx}(hP:c.P=PP)(hm:c.g=rC c.g.prog c.g.w)(T:vq c.K):KP c:=by
 have hg:c.g.ga=mY:=by exact aa hm rfl
 have he:c.g.em=Jb:=by exact aa hm rfl
 have ha:c.g.attrs=GB:=by exact aa hm rfl
 have clsK:∀{k:Nat}{ci:jf},PP.cls k=some ci→ou.contains k=true:=fun{k ci}h=>by
  have hk:k<128:=Classical.byContradiction fun q=>by
   have:=AY h;rw[AE q]at this;exact cZ this
  refine Classical.byContradiction fun hc=>?_;have hgi:=lU T.gi hk;rw[if_neg hc,AY h]at hgi;unfold G7 at hgi;split at hgi
  ·rename_i q st _;cases st with
   |none=>first|exact ns hgi|cases hgi
   |some s=>cases s<;>cases hgi
  ·cases hgi
 refine⟨⟨fun x v h=>?_,fun k gi h=>?_,fun k ci h=>?_,fun a h=>?_⟩,fun k fi h=>Es hg hm T (by refine bR hP ?_;exact h)⟩
 ·rw[hP]at h;have:=N5.mp T.gl _ (F9 h);cases v with
  |gl k=>exact .inl ⟨k,rfl,by refine aa hg ?_;exact beq_iff_eq.mp this⟩
  |bi id=>
   simp only[By,ND,Pc]at this;obtain⟨⟨⟨t1,t2⟩,t3⟩,t4⟩:=this;exact .inr ⟨_,beq_iff_eq.mp t1,beq_iff_eq.mp t2,beq_eq_false_iff_ne.mp t3,fun W=>.bi _ t4⟩
  |ty n=>
   simp only[By,ND,Pc]at this;obtain⟨⟨t1,t2⟩,t3⟩:=this;exact .inr ⟨_,beq_iff_eq.mp t1,beq_iff_eq.mp t2,beq_eq_false_iff_ne.mp t3,fun W=>.ty _⟩
  |_=>first|exact ns this|exact gz this
 ·rw[hP]at h;refine aa hg ?_;cases gi with
  |fn fi=>
   refine Gh (IG T h) fun hk q st h1 _=>?_;have hf:=jI T.fn hk;unfold vQ at hf;rw[h1]at hf;exact(Nt.mp hf).2
  |cls ci=>
   have hc:PP.cls k=some ci:=by unfold PT.cls;exact aa h rfl
   have:=N5.mp T.cls k (List.contains_iff_mem.mp (clsK hc));unfold ot at this;rw[hc]at this;simp only[ND]at this;exact this.1.1.2
 ·rw[hP]at h;have:=N5.mp T.cls k (List.contains_iff_mem.mp (clsK h));unfold ot at this;rw[h]at this;simp only[ND,N5]at this;obtain⟨⟨⟨⟨⟨⟨⟨t1,t2⟩,t3⟩,t4⟩,t5⟩,t6⟩,t7⟩,t8⟩:=this;refine⟨?_,fun x=>by refine aa hg ?_;exact t1,by refine aa hg ?_;exact t2,by refine aa hg ?_;exact beq_iff_eq.mp t3,by refine aa hg ?_;exact t4,fun x hx=>by refine aa hg ?_;exact beq_iff_eq.mp (t7 x (BX hx)),fun x k' hx=>?_,by refine aa hg ?_;exact t5⟩
  ·refine aa ha ?_;unfold GB;exact aa h rfl
  ·have:=t8 _ (BM hx);simp only[ND,Pc]at this;refine aa hg ?_;exact⟨beq_iff_eq.mp this.1.1,this.1.2,this.2⟩
 ·rw[he]at h;exact⟨_,_,_,List.map_inj_left.mp T.em a h⟩
end Hx
namespace Hx
open PySem PySem.W PyProof.Rows PySem.Calls
noncomputable def Nk(o:Obj):Bool:=match o.data with
 |.seq .. =>true
 |_=>false
theorem DO{K:Frag}{h:Heap}{l:Addr}{x:Array Value}{n:Nat}(i:K.In h)(hl:h.get? l=some (listOf x n))(hn:∀a o,K.lookup a=some o→o.cls≠.type "list"):K.In (hideAll h [l]):=fun a o e=>
 hideAll_get [l] (i a o e) fun hm=>by
  obtain rfl:=NX.mp hm;rw[i a o e]at hl;revert hl;refine aJ fun hl=>?_;subst hl;exact hn a _ e rfl
theorem nW{h:Heap}{l a:Addr}{x:Array Value}{n:Nat}{m:Str→Option Value}(i:h.Ns a m)(hl:h.get? l=some (listOf x n)):(hideAll h [l]).Ns a m:=by
 revert i;refine Cq fun o es ep ho hd r=>?_;refine⟨o,es,ep,hideAll_get [l] ho fun hm=>?_,hd,r⟩;obtain rfl:=NX.mp hm;rw[ho]at hl;clear ho;revert hl;refine aJ fun hl=>?_;subst hl;cases hd
theorem Ay{p:Program}{loose:List Str}{mg mb:Str→Option Value}{h:Heap}{l:Addr}{x:Array Value}{n:Nat}(T:TopRead p loose mg mb h)(hl:h.get? l=some (listOf x n)):TopRead p loose mg mb (hideAll h [l]):=
 ⟨nW T.g hl,nW T.b hl,let⟨mc,a,r⟩:=T.nolimit;⟨mc,nW a hl,r⟩,T.builtins,T.free⟩
noncomputable def H0(ns:List Int):AH:=[[.list (ns.map .int)],[],[],[],[],[],[],[]]
noncomputable def W0(l a1 a2:Addr)(o1 o2:Obj)(vs:List Value):Wd:=⟨[[(l,listOf vs.toArray 0)],[],[],[],[],[],[],[]],[],[],[(a1,o1),(a2,o2)]⟩
theorem Cg{α:Type}{x p:α}{n r i:Nat}(h:(([x]::List.replicate n [])[r]?).bind (fun l=>l[i]?)=some p):r=0∧i=0∧p=x:=by
 cases r with
 |zero=>cases i with
  |zero=>exact⟨rfl,rfl,(NF h).symm⟩
  |succ i=>exact cZ h
 |succ r=>
  revert h;refine aO fun l e h=>?_;cases(List.mem_replicate.mp (Oo e)).2;exact cZ h
theorem vA{l a1 a2:Addr}{o1 o2:Obj}{vs:List Value}{r i:Nat}{p:Addr×Obj}(h:(W0 l a1 a2 o1 o2 vs).pt r i=some p):r=0∧i=0∧p=(l,listOf vs.toArray 0):=Cg (n:=7) h
theorem CH{c:Cx}{f:Fm}{s:Shared}{m:Str→Option Value}{h₁:Heap}{l a1 a2:Addr}{o1 o2:Obj}{vs:List Value}{ns:List Int}(hf:f.h₀=hideAll h₁ [l])(hl:h₁.get? l=some (listOf vs.toArray 0))
 (hI:IntsAre vs ns)(F:Fr h₁ f.env.locals s.heap m)(N:News h₁ f.env.locals s.heap [(a1,o1),(a2,o2)])(hne:a1≠a2)(d1:o1.data=.cell none)(d2:o2.data=.cell none)
 (hc:∀x,f.env.kindOf x=some .cell→f.env.cells.lookup x=some a1∨f.env.cells.lookup x=some a2) (hg:s.gens=#[]) (ho:s.os=c.os) (hk:f.env.kindOf ("script":Str)=some .local) (hm:m ("script":Str)=some (.ref l)):
 CR c f s m [(("script":Str),.loc 0 0)] (H0 ns) (W0 l a1 a2 o1 o2 vs):=by
 have hlL:l≠f.env.locals:=fun e=>absurd (Heap.lt_size hl) (Nat.not_lt.mpr (by refine aa e ?_;exact F.above));have n1:=N (a1,o1) (.head _);have n2:=N (a2,o2) (.tail _ (.head _));have l1:l≠a1:=fun e=>by rw[e,n1.2.2]at hl;cases hl
 have l2:l≠a2:=fun e=>by rw[e,n2.2.2]at hl;cases hl
 have vU:∀a,h₁.get? a=none→f.h₀.get? a=none:=fun a e=>by
  cases q:f.h₀.get? a with
  |none=>rfl
  |some o=>rw[hf]at q;rw[of_hideAll _ q]at e;cases e
 have iv:∀{vs:List Value}{ns:List Int},IntsAre vs ns→∀W:Wd,bh c.g W (ns.map .int) vs:=by
  intro vs ns h W
  induction h with
  |nil=>exact .nil
  |cons t k _ ih=>exact .cons (.int _ _) ih
 refine⟨⟨F.ns,fun b o e=>F.keep b o (by rw[hf]at e;exact of_hideAll _ e),by rw[hf,hideAll_size];exact F.above⟩,?_,⟨?_,?_,?_⟩,?_,⟨?_,?_⟩,⟨?_,?_⟩,hg,ho⟩
 ·intro p hp;rcases Nv.mp hp with rfl|hp
  ·exact⟨F.keep _ _ hl,hlL,by refine aa hf ?_;exact hideAll_none [l] (.head _)⟩
  rcases Nv.mp hp with rfl|hp
  ·exact⟨n1.1,n1.2.1,vU _ n1.2.2⟩
  rcases Nv.mp hp with rfl|hp
  ·exact⟨n2.1,n2.2.1,vU _ n2.2.2⟩
  ·cases hp
 ·intro r i r' i' a h h';refine ar (om h) fun p hp _=>?_;refine ar (om h') fun p' hp' _=>?_;refine gS (vA hp) fun e'0 e'1 _=>?_;refine aa e'0 ?_;rw[e'1];refine gS (vA hp') fun e'0 e'1 _=>?_;rw[e'0];rw[e'1];exact⟨rfl,rfl⟩
 ·intro r i a h q hq;refine ar (om h) fun p hp e'2=>?_;rw[←e'2];refine gS (vA hp) fun e'0 e'1 e'2=>?_;rw[e'2];rcases Nv.mp hq with rfl|hq
  ·exact l1.symm
  rcases Nv.mp hq with rfl|hq
  ·exact l2.symm
  ·cases hq
 ·show[a1,a2].Nodup;simp[hne]
 ·intro r i a h hz;refine ar (om h) fun p hp e'2=>?_;refine gS (vA hp) fun e'0 e'1 _=>?_;clear hp;subst e'0;subst e'1;exact absurd hz (Oc _)
 ·intro r
  match r with
  |0=>rfl
  |1=>rfl
  |2=>rfl
  |3=>rfl
  |4=>rfl
  |5=>rfl
  |6=>rfl
  |7=>rfl
  |r+8=>simp[H0,W0]
 ·intro r i ao h;obtain⟨rfl,rfl,rfl⟩:=Cg (n:=7) h;exact⟨l,_,rfl,vs,0,rfl,iv hI _⟩
 ·intro x v e;rw[Km]at e;split at e
  ·rename_i z;have z:=eq_of_beq z;rw[z];cases e;refine⟨fun _=>⟨_,hm,.loc rfl⟩,fun k=>?_⟩;rw[hk]at k;cases k
  ·cases e
 ·intro x k;rcases hc x k with e|e
  ·exact⟨a1,o1,none,e,.head _,d1⟩
  ·exact⟨a2,o2,none,e,.tail _ (.head _),d2⟩
end Hx
namespace Hx
open PySem
abbrev KV (ρ:Type):=AV→AH→Option ρ
abbrev KB (ρ:Type):=Bool→AH→Option ρ
abbrev KX (ρ:Type):=Lo→AH→Option ρ
structure iG where
 c:{ρ:Type}→Nat→List AV→AH→KV ρ→Option ρ
structure EK where
 e:{ρ:Type}→Scope→Lo→Expr→AH→KV ρ→Option ρ
 t:{ρ:Type}→Scope→Lo→Expr→AH→KB ρ→Option ρ
 x:{ρ:Type}→Scope→Lo→Stmt→AH→KX ρ→KX ρ→(AV→KX ρ)→Option ρ
inductive Ty where
 |raw|int|str|loc (r:Nat)|pair|tup
abbrev zL:=Nat→Nat→Ty
section
variable{ρ:Type}
noncomputable def JP(kn kb:KX ρ)(kr:AV→KX ρ)(a:AF)(lo:Lo)(H:AH):Option ρ:=match a with
 |.next=>kn lo H
 |.brk=>kb lo H
 |.ret v=>kr v lo H
noncomputable def sel(kn kb:KX ρ)(kr:AV→KX ρ)(t:AF×Lo×AH):Option ρ:=JP kn kb kr t.1 t.2.1 t.2.2
def Fi(t:Ty)(v:AV)(k:AV→Option ρ):Option ρ:=match t with
 |.raw=>k v
 |.int=>v.i?.bind fun n=>k (.int n)
 |.str=>v.s?.bind fun s=>k (.str s)
 |.loc r=>v.l?.bind fun l=>cond (Nat.beq l.1 r) (k (.loc r l.2)) .none
 |.pair=>(jX v).bind fun p=>k (.tup [.str p.1,.str p.2])
 |.tup=>v.t?.bind fun l=>k (.tup l)
noncomputable def HO(T:zL):AV→Ty
 |.loc r i=>T r i
 |.kf _ _ _=>.int
 |_=>.raw
theorem bd{α β:Type}{a:Option α}{f:α→Option β}{b:Option β}{t:α}(h:a=some t)(h':f t=b):a.bind f=b:=by refine aa h ?_;exact h'
theorem md{α β:Type}{a:Option α}{f:α→β}{t:α}(h:a=some t):a.map f=some (f t):=by refine aa h ?_;rfl
theorem ub{α β:Type}{a:Option α}{f:α→Option β}{b:β}(h:a.bind f=some b):∃t,a=some t∧f t=some b:=by
 cases a with
 |none=>first|exact ns h|cases h
 |some t=>exact⟨t,rfl,h⟩
theorem ui{c:Prop} [Decidable c]{a:Option ρ}{b:ρ}(h:(if c then a else .none)=some b):c∧a=some b:=by
 split at h
 ·exact⟨‹_›,h⟩
 ·exact cZ h
theorem uc{c:Bool}{a:Option ρ}{b:ρ}(h:cond c a .none=some b):c=true∧a=some b:=by
 cases c with
 |true=>exact⟨rfl,h⟩
 |false=>first|exact ns h|cases h
theorem ci{α:Type}{c:Prop} [Decidable c]{a b:α}(h:c):(if c then a else b)=a:=if_pos h
theorem F5{v:AV}{n:Int}(h:v.i?=some n):v=.int n:=by cases v<;>cases h;rfl
theorem zw{v:AV}{n:Str}(h:v.s?=some n):v=.str n:=by cases v<;>cases h;rfl
theorem sx{v:AV}{n:Nat×Nat}(h:v.l?=some n):v=.loc n.1 n.2:=by cases v<;>cases h;rfl
theorem zM{v:AV}{n:List AV}(h:v.t?=some n):v=.tup n:=by cases v<;>cases h;rfl
theorem gR{t:Ty}{v:AV}{k:AV→Option ρ}{x:ρ}(h:Fi t v k=some x):k v=some x:=by
 cases t with
 |raw=>exact h
 |int=>obtain⟨n,e,h⟩:=ub h;refine aa (F5 e) ?_;exact h
 |str=>obtain⟨n,e,h⟩:=ub h;refine aa (zw e) ?_;exact h
 |loc r=>
  refine ar (ub h) fun n e h=>?_;refine xA (uc h) fun e2 h=>?_;refine aa (sx e) (aa (NR e2) ?_);exact h
 |pair=>
  refine ar (ub h) fun p e h=>?_;refine ar (ub e) fun l e1 e=>?_;refine ar (ub e) fun q e2 e=>?_;refine ar (ub e) fun a e3 e=>?_;refine aa (zM e1) ?_;clear e1;cases l with
  |nil=>first|exact ns e2|cases e2
  |cons y l=>
   cases l with
   |nil=>first|exact ns e2|cases e2
   |cons z l=>
    cases l with
    |cons w l=>first|exact ns e2|cases e2
    |nil=>
     revert e2;refine aJ fun e2=>?_;subst e2;cases hz:z.s? with
     |none=>rw[hz]at e;exact cZ e
     |some b=>
      rw[hz]at e;cases e;refine aa ((zw (v:=y) e3)) ?_;refine aa (zw hz) ?_;exact h
 |tup=>obtain⟨n,e,h⟩:=ub h;refine aa (zM e) ?_;exact h
noncomputable def jt(H:AH)(r:Nat)(o:AO)(k:KV ρ):Option ρ:=match H[r]? with
 |some l=>k (.loc r l.length) (H.modify r (· ++[o]))
 |.none=>.none
theorem g8{H:AH}{r:Nat}{o:AO}{k:KV ρ}{x:ρ}(h:jt H r o k=some x):∃t,cP H r o=some t∧k t.1 t.2=some x:=by
 unfold jt at h;unfold cP;cases e:H[r]? with
 |none=>rw[e]at h;exact cZ h
 |some l=>rw[e]at h;exact⟨_,rfl,h⟩
def da(H:AH)(r:Nat)(xs:List AV)(k:KV ρ):Option ρ:=if xs.length<ab then jt H r (.list xs) k else .none
theorem bU{H:AH}{r:Nat}{xs:List AV}{k:KV ρ}{x:ρ}(h:da H r xs k=some x):∃t,newList H r xs=some t∧k t.1 t.2=some x:=by
 refine xA (ui h) fun c h=>?_;refine ar (g8 h) fun t e h=>?_;exact⟨t,(if_pos c).trans e,h⟩
def JS(T:Ty)(i:AV)(o:AO)(k:AV→Option ρ):Option ρ:=match o with
 |.list vs=>(ai vs i).bind fun v=>Fi T v k
 |.dict kvs=>i.s?.bind fun s=>(lk s kvs).bind k
 |_=>.none
def CL(T:zL)(q:Nat)(H:AH)(o i:AV)(k:AV→Option ρ):Option ρ:=match o with
 |.tup vs=>(ai vs i).bind fun v=>Fi (T 100 q) v k
 |.loc r j=>match r with
  |0=>(get H 0 j).bind fun ao=>JS (T 0 j) i ao k
  |r+1=>(ae H (r+1) j).bind fun xs=>(ai xs i).bind fun v=>Fi (T (r+1) j) v fun v=>Fi (T 100 q) v k
 |_=>.none
theorem r9{T:zL}{q:Nat}{H:AH}{o i:AV}{k:AV→Option ρ}{x:ρ}(h:CL T q H o i k=some x):∃v,ve H o i=some v∧k v=some x:=by
 cases o with
 |tup vs=>obtain⟨v,e,h⟩:=ub h;exact⟨v,e,gR h⟩
 |loc r j=>
  cases r with
  |zero=>
   refine ar (ub h) fun ao e h=>?_;cases ao with
   |list vs=>obtain⟨v,e',h⟩:=ub h;exact⟨v,bd e e',gR h⟩
   |dict vs=>
    refine ar (ub h) fun s e' h=>?_;refine ar (ub h) fun v e2 h=>?_;exact⟨v,bd e (bd e' e2),h⟩
   |_=>first|exact ns h|cases h
  |succ r=>
   refine ar (ub h) fun xs e h=>?_;refine ar (ub h) fun v e' h=>?_;refine ar (ub e) fun ao e1 e2=>?_;refine⟨v,bd e1 ?_,gR (gR h)⟩;cases ao<;>cases e2;exact e'
 |_=>first|exact ns h|cases h
def JQ(i v:AV)(o:AO)(k:AO→Option ρ):Option ρ:=match o with
 |.list vs=>i.i?.bind fun j=>if small j then(idx j vs.length).bind (fun n=>k (.list (vs.set n v)))else .none
 |.dict kvs=>i.s?.bind fun s=>if kvs.length<500 then k (.dict (pt s v kvs))else .none
 |_=>.none
def Cv(H:AH)(o i v:AV)(k:AH→Option ρ):Option ρ:=o.l?.bind fun l=>match l.1 with
 |0=>cond (nz 0 l.2) ((get H 0 l.2).bind fun ao=>JQ i v ao fun ao=>k (put H 0 l.2 ao)) .none
 |r+1=>(ae H (r+1) l.2).bind fun vs=>i.i?.bind fun j=>if small j then(idx j vs.length).bind (fun n=>k (put H (r+1) l.2 (.list (vs.set n v))))else .none
theorem rW{H:AH}{o i v:AV}{k:AH→Option ρ}{x:ρ}(h:Cv H o i v k=some x):∃H',E9 H o i v=some H'∧k H'=some x:=by
 obtain⟨⟨r,j⟩,e,h⟩:=ub h;cases r with
 |zero=>
  refine xA (uc h) fun z h=>?_;refine ar (ub h) fun ao e1 h=>?_;cases ao with
  |list vs=>
   refine ar (ub h) fun n e2 h=>?_;refine xA (ui h) fun e3 h=>?_;refine ar (ub h) fun m e4 h=>?_;exact⟨_,bd e ((if_pos z).trans (bd e1 (md (bd e2 ((if_pos e3).trans (md e4)))))),h⟩
  |dict vs=>
   refine ar (ub h) fun s e2 h=>?_;refine xA (ui h) fun e3 h=>?_;exact⟨_,bd e ((if_pos z).trans (bd e1 (md (bd e2 (if_pos e3))))),h⟩
  |_=>first|exact ns h|cases h
 |succ r=>
  refine ar (ub h) fun vs e1 h=>?_;refine ar (ub h) fun n e2 h=>?_;refine xA (ui h) fun e3 h=>?_;refine ar (ub h) fun m e4 h=>?_;refine ar (ub e1) fun ao e5 e6=>?_;refine⟨_,bd e ((if_pos rfl).trans (bd e5 (md (t:=.list (vs.set m v)) ?_))),h⟩;cases ao<;>cases e6;exact bd e2 ((if_pos e3).trans (md e4))
def Gb(P:PT)(H:AH)(o:AV)(x:Str)(v:AV)(k:AH→Option ρ):Option ρ:=(lE P H o).bind fun t=>
 cond (Nat.blt t.2.2.length 500&&mem x t.2.1.attrs&&nz t.1.2.1 t.1.2.2) (k (put H t.1.2.1 t.1.2.2 (.dZ t.1.1 (pt x v t.2.2)))) .none
theorem Cu{P:PT}{H:AH}{o:AV}{x:Str}{v:AV}{k:AH→Option ρ}{y:ρ}(h:Gb P H o x v k=some y):∃H',Hz P H o x v=some H'∧k H'=some y:=by
 refine ar (ub h) fun t e h=>?_;refine xA (uc h) fun c h=>?_;rw[ND,ND]at c;exact⟨_,bd e (if_pos (by rw[ND,ND];exact⟨⟨decide_eq_true (OV c.1.1),c.1.2⟩,c.2⟩)),h⟩
def FO(H:AH)(r:Nat)(op:Operator)(a b:AV)(k:KV ρ):Option ρ:=match a with
 |.int x=>b.i?.bind fun y=>(intOp op x y).bind fun z=>k (.int z) H
 |.str x=>cond (isAdd op) (b.s?.bind fun y=>if x.length+y.length<ab then k (.str (x++y)) H else .none) .none
 |.loc r1 i1=>cond (isAdd op) (b.l?.bind fun l=>(ae H r1 i1).bind fun xs=>(ae H l.1 l.2).bind fun ys=>da H r (xs++ys) k) .none
 |_=>.none
theorem AP{H:AH}{r:Nat}{op:Operator}{a b:AV}{k:KV ρ}{x:ρ}(h:FO H r op a b k=some x):∃t,AN H r op a b=some t∧k t.1 t.2=some x:=by
 cases a with
 |int i=>
  refine ar (ub h) fun y e h=>?_;refine ar (ub h) fun z e1 h=>?_;exact⟨_,bd e (md e1),h⟩
 |str s=>
  refine xA (uc h) fun c h=>?_;refine ar (ub h) fun y e h=>?_;refine xA (ui h) fun e1 h=>?_;exact⟨_,(if_pos c).trans (bd e (if_pos e1)),h⟩
 |loc r1 i1=>
  refine xA (uc h) fun c h=>?_;refine ar (ub h) fun y e h=>?_;refine ar (ub h) fun xs e1 h=>?_;refine ar (ub h) fun ys e2 h=>?_;refine ar (bU h) fun t e3 h=>?_;exact⟨t,(if_pos c).trans (bd e (bd e1 (bd e2 e3))),h⟩
 |_=>first|exact ns h|cases h
def AK(H:AH)(r:Nat)(args:List AV)(k:KV ρ):Option ρ:=(one? args).bind fun v=>match v with
 |.tup vs=>da H r vs k
 |.loc r1 i1=>(ae H r1 i1).bind fun xs=>da H r xs k
 |_=>.none
theorem yM{H:AH}{r:Nat}{args:List AV}{k:KV ρ}{x:ρ}(h:AK H r args k=some x):∃t,AJ H r args=some t∧k t.1 t.2=some x:=by
 refine ar (ub h) fun v e h=>?_;cases v with
 |tup vs=>obtain⟨t,e1,h⟩:=bU h;exact⟨t,bd e e1,h⟩
 |loc r1 i1=>
  refine ar (ub h) fun xs e1 h=>?_;refine ar (bU h) fun t e2 h=>?_;exact⟨t,bd e (bd e1 e2),h⟩
 |_=>first|exact ns h|cases h
def ra(H:AH)(r:Nat)(args:List AV)(k:KV ρ):Option ρ:=(one? args).bind fun v=>v.l?.bind fun l=>match l.1 with
 |0=>.none
 |q+1=>(ae H (q+1) l.2).bind fun xs=>(nu xs).bind fun ys=>da H r ys k
theorem rb{H:AH}{r:Nat}{args:List AV}{k:KV ρ}{x:ρ}(h:ra H r args k=some x):∃t,n7 H r args=some t∧k t.1 t.2=some x:=by
 refine ar (ub h) fun v e h=>?_;obtain⟨⟨q,i⟩,e1,h⟩:=ub h;cases q with
 |zero=>first|exact ns h|cases h
 |succ q=>
  refine ar (ub h) fun xs e2 h=>?_;refine ar (ub h) fun ys e3 h=>?_;refine ar (bU h) fun t e4 h=>?_;exact⟨t,bd e (bd e1 ((if_pos (show 0<q+1+i by lia)).trans (bd e2 (bd e3 e4)))),h⟩
def GC(H:AH)(id:String)(args:List AV)(k:KV ρ):Option ρ:=
 cond (id=="len") ((nZ H args).bind fun xs=>if xs.length<ab then k (.int xs.length) H else .none)
 (cond (id=="max") ((nZ H args).bind fun xs=>(cQ xs).bind fun l=>(dQ l).bind fun m=>k (.int m) H)
 (cond (id=="sum") ((nZ H args).bind fun xs=>(cQ xs).bind fun l=>k (.int l.sum) H)
 (cond (id=="chr") ((one? args).bind fun v=>v.i?.bind fun c=>if 0≤c∧c<128 then k (.str ⟨#[c.toNat]⟩) H else .none)
 (cond (id=="isinstance") ((h8 args).bind fun p=>cond (vX p.2) ((isStr p.1).bind fun b=>k (.bool b) H) .none) .none))))
def vC(H:AH)(args:List AV)(k:KV ρ):Option ρ:=match args with
 |[]=>.none
 |v::l=>v.i?.bind fun a=>match l with
  |[]=>if small a=true then k (.kf 0 a 1) H else .none
  |w::l=>w.i?.bind fun b=>if(small a&&small b)=true then(match l with
   |[]=>k (.kf a b 1) H
   |u::l=>(f7 l).bind fun _=>u.i?.bind fun c=>if c=-1 then k (.kf a b (-1)) H else .none)else .none
def oh(H:AH)(r:Nat)(f:AV)(args:List AV)(k:KV ρ):Option ρ:=match f with
 |.bi id=>cond (id=="sorted") (ra H r args k) (GC H id args k)
 |.ty n=>cond (n=="list") (AK H r args k) (cond (n=="range") (vC H args k) (cond (n=="tuple") ((nZ H args).bind fun xs=>if xs.length<ab then k (.tup xs) H else .none) .none))
 |_=>.none
theorem uj{H:AH}{args:List AV}{k:KV ρ}{x:ρ}(h:vC H args k=some x):∃t,uh H args=some t∧k t.1 t.2=some x:=by
 cases args with
 |nil=>first|exact ns h|cases h
 |cons v l=>
  refine ar (ub h) fun a e h=>?_;cases l with
  |nil=>obtain⟨c,h⟩:=ui h;exact⟨_,bd e (if_pos c),h⟩
  |cons w l=>
   refine ar (ub h) fun b e1 h=>?_;refine xA (ui h) fun c h=>?_;cases l with
   |nil=>exact⟨_,bd e (bd e1 (if_pos c)),h⟩
   |cons u l=>
    refine ar (ub h) fun z e2 h=>?_;refine ar (ub h) fun d e3 h=>?_;refine xA (ui h) fun c2 h=>?_;exact⟨_,bd e (bd e1 ((if_pos c).trans (bd e2 (bd e3 (if_pos c2))))),h⟩
theorem DZ{H:AH}{r:Nat}{id:String}{args:List AV}{k:KV ρ}{x:ρ}(h:GC H id args k=some x):∃t,oj H r id args=some t∧k t.1 t.2=some x:=by
 unfold GC at h;cases c:id=="len"with
 |true=>
  obtain rfl:=eq_of_beq c;refine ar (ub h) fun xs e h=>?_;refine xA (ui h) fun c1 h=>?_;exact⟨_,bd e (if_pos c1),h⟩
 |false=>
 rw[c]at h;cases c:id=="max"with
 |true=>
  obtain rfl:=eq_of_beq c;refine ar (ub h) fun xs e h=>?_;refine ar (ub h) fun l e1 h=>?_;refine ar (ub h) fun m e2 h=>?_;exact⟨_,bd e (md (bd e1 e2)),h⟩
 |false=>
 rw[c]at h;cases c:id=="sum"with
 |true=>
  obtain rfl:=eq_of_beq c;refine ar (ub h) fun xs e h=>?_;refine ar (ub h) fun l e1 h=>?_;exact⟨_,bd e (md e1),h⟩
 |false=>
 rw[c]at h;cases c:id=="chr"with
 |true=>
  obtain rfl:=eq_of_beq c;refine ar (ub h) fun xs e h=>?_;refine ar (ub h) fun l e1 h=>?_;refine xA (ui h) fun c1 h=>?_;exact⟨_,bd e (bd e1 (if_pos c1)),h⟩
 |false=>
 rw[c]at h;cases c:id=="isinstance"with
 |true=>
  obtain rfl:=eq_of_beq c;refine ar (ub h) fun xs e h=>?_;refine xA (uc h) fun c1 h=>?_;refine ar (ub h) fun b e1 h=>?_;exact⟨_,bd e ((if_pos c1).trans (md e1)),h⟩
 |false=>rw[c]at h;exact cZ h
theorem yU{H:AH}{r:Nat}{f:AV}{args:List AV}{k:KV ρ}{x:ρ}(h:oh H r f args k=some x):∃t,vE H r f args=some t∧k t.1 t.2=some x:=by
 cases f with
 |bi id=>
  dsimp only[oh]at h;cases c:id=="sorted"with
  |false=>rw[c]at h;exact DZ h
  |true=>
   rw[c]at h;refine ar (rb h) fun t e h'=>?_;obtain rfl:=eq_of_beq c;exact⟨t,e,h'⟩
 |ty n=>
  dsimp only[oh]at h;cases c:n=="list"with
  |true=>
   rw[c]at h;refine ar (yM h) fun t e h'=>?_;obtain rfl:=eq_of_beq c;exact⟨t,e,h'⟩
  |false=>
  rw[c]at h;cases c:n=="range"with
  |true=>
   rw[c]at h;refine ar (uj h) fun t e h'=>?_;obtain rfl:=eq_of_beq c;exact⟨t,e,h'⟩
  |false=>
  rw[c]at h;cases c:n=="tuple"with
  |true=>
   rw[c]at h;refine ar (ub h) fun xs e h'=>?_;refine xA (ui h') fun c1 h'=>?_;obtain rfl:=eq_of_beq c;exact⟨_,bd e (if_pos c1),h'⟩
  |false=>rw[c]at h;exact cZ h
 |_=>first|exact ns h|cases h
def JD(T:Ty)(H:AH)(r i:Nat)(xs args:List AV)(k:KV ρ):Option ρ:=match args with
 |[]=>xs.getLast?.bind fun v=>Fi T v fun v=>k v (put H r i (.list xs.dropLast))
 |a::l=>(f7 l).bind fun _=>a.i?.bind fun j=>if small j then(idx j xs.length).bind fun n=>(xs[n]?).bind fun v=>k v (put H r i (.list (xs.eraseIdx n)))else .none
def K8(H:AH)(r i:Nat)(xs args:List AV)(k:KV ρ):Option ρ:=(h8 args).bind fun p=>p.1.i?.bind fun j=>if 0≤j∧small j=true then k .none (put H r i (.list (xs.take j.toNat++p.2::xs.drop j.toNat)))else .none
def B5(T:Ty)(H:AH)(r i:Nat)(xs:List AV)(x:Str)(args:List AV)(k:KV ρ):Option ρ:=
 if xs.length<ab then
  cond (x==("append":Str)) ((one? args).bind fun v=>k .none (put H r i (.list (xs++[v]))))
  (cond (x==("pop":Str)) (JD T H r i xs args k)
  (cond (x==("insert":Str)) (K8 H r i xs args k)
  (cond (x==("index":Str)) ((bf xs args).bind fun(n:Nat)=>k (.int (n:Int)) H)
  (cond (x==("remove":Str)) ((bf xs args).bind fun n=>k .none (put H r i (.list (xs.eraseIdx n)))) .none))))
 else .none
theorem E7{T:Ty}{H:AH}{r i:Nat}{xs args:List AV}{k:KV ρ}{y:ρ}(h:JD T H r i xs args k=some y):∃p,Hc xs args=some p∧k p.1 (put H r i (.list p.2))=some y:=by
 cases args with
 |nil=>
  refine ar (ub h) fun v e h=>?_;exact⟨_,md e,gR h⟩
 |cons a l=>
  refine ar (ub h) fun u e h=>?_;refine ar (ub h) fun j e1 h=>?_;refine xA (ui h) fun e2 h=>?_;refine ar (ub h) fun n e3 h=>?_;refine ar (ub h) fun v e4 h=>?_;exact⟨_,bd e (bd e1 ((if_pos e2).trans (bd e3 (md e4)))),h⟩
theorem zp{T:Ty}{H:AH}{r i:Nat}{xs:List AV}{x:Str}{args:List AV}{k:KV ρ}{y:ρ}(h:B5 T H r i xs x args k=some y):∃t,wk H r i xs x args=some t∧k t.1 t.2=some y:=by
 refine xA (ui h) fun c0 h=>?_;unfold wk;refine aa (if_pos c0) ?_;cases c1:x==("append":Str)with
 |true=>
  rw[c1]at h;obtain⟨p,e,h⟩:=ub h;exact⟨_,md (md e),h⟩
 |false=>
  rw[c1]at h;cases c2:x==("pop":Str)with
  |true=>rw[c2]at h;obtain⟨p,e,h⟩:=E7 h;exact⟨_,md e,h⟩
  |false=>
   rw[c2]at h;cases c3:x==("insert":Str)with
   |true=>
    rw[c3]at h;refine ar (ub h) fun p e h=>?_;refine ar (ub h) fun j e1 h=>?_;refine xA (ui h) fun c h=>?_;exact⟨_,md (bd e (bd e1 (if_pos c))),h⟩
   |false=>
    rw[c3]at h;cases c4:x==("index":Str)with
    |true=>rw[c4]at h;obtain⟨p,e,h⟩:=ub h;exact⟨_,md e,h⟩
    |false=>
     rw[c4]at h;cases c5:x==("remove":Str)with
     |true=>rw[c5]at h;obtain⟨p,e,h⟩:=ub h;exact⟨_,md e,h⟩
     |false=>rw[c5]at h;exact cZ h
def B4(P:PT)(H:AH)(o:AV)(x:Str)(k:MF→Option ρ):Option ρ:=match o with
 |.loc r i=>match r with
  |0=>(lJ P H (.loc 0 i) x).bind k
  |r+1=>(ae H (r+1) i).bind fun _=>cond (mem x kF) (k (.ls (r+1) i)) .none
 |o=>(lJ P H o x).bind k
theorem zo{P:PT}{H:AH}{o:AV}{x:Str}{k:MF→Option ρ}{y:ρ}(h:B4 P H o x k=some y):∃t,lJ P H o x=some t∧k t=some y:=by
 cases o with
 |loc r i=>
  cases r with
  |zero=>exact ub h
  |succ r=>
   refine ar (ub h) fun xs e h=>?_;refine xA (uc h) fun c h=>?_;refine ar (ub e) fun ao e1 e2=>?_;refine⟨_,bd e1 ?_,h⟩;cases ao<;>cases e2;exact if_pos c
 |_=>exact ub h
def B3(T:zL)(cal:iG)(rg:Nat)(f:MF)(x:Str)(args:List AV)(H:AH)(k:KV ρ):Option ρ:=match f with
 |.fn n r i=>cal.c n (.loc r i::args) H k
 |.ls r i=>cond (nz r i) ((ae H r i).bind fun xs=>B5 (T r i) H r i xs x args k) .none
 |.sp l=>(f7 args).bind fun _=>da H rg (l.map .str) k
def uq(cal:iG)(r:Nat)(f:AV)(args:List AV)(H:AH)(k:KV ρ):Option ρ:=match f with
 |.gl n=>cal.c n args H k
 |f=>oh H r f args k
structure kM (calK:iG) (cal:je):Prop where
 c:∀{ρ:Type}⦃n args H⦄⦃k:KV ρ⦄⦃x⦄,calK.c n args H k=some x→∃t,cal n args H=some t∧k t.1 t.2=some x
theorem zm{T:zL}{calK:iG}{cal:je}(C:kM calK cal){rg:Nat}{f:MF}{x:Str}{args:List AV}{H:AH}{k:KV ρ}{y:ρ}(h:B3 T calK rg f x args H k=some y):∃t,BZ cal rg f x args H=some t∧k t.1 t.2=some y:=by
 cases f with
 |fn n r i=>exact C.c h
 |ls r i=>
  refine xA (uc h) fun z h=>?_;refine ar (ub h) fun xs e h=>?_;refine ar (zp h) fun t e1 h=>?_;exact⟨t,(if_pos z).trans (bd e e1),h⟩
 |sp l=>
  refine ar (ub h) fun u e h=>?_;refine ar (bU h) fun t e1 h=>?_;exact⟨t,bd e e1,h⟩
theorem yV{calK:iG}{cal:je}(C:kM calK cal){r:Nat}{f:AV}{args:List AV}{H:AH}{k:KV ρ}{x:ρ}(h:uq calK r f args H k=some x):∃t,AW cal r f args H=some t∧k t.1 t.2=some x:=by
 cases f with
 |gl n=>exact C.c h
 |_=>dsimp only[uq]at h;exact yU h
def v3(H:AH)(v:AV)(k:It→Option ρ):Option ρ:=match v with
 |.loc r i=>(ae H r i).bind fun xs=>k (.live r i xs.length)
 |.tup vs=>k (.fix vs)
 |.kf a b st=>if(small a&&small b&&(decide (st=1)||decide (st=-1)))=true then k (.fix (aH a b st))else .none
 |_=>.none
theorem lG{H:AH}{v:AV}{k:It→Option ρ}{x:ρ}(h:v3 H v k=some x):∃I,fj H v=some I∧k I=some x:=by
 cases v with
 |loc r i=>obtain⟨xs,e,h⟩:=ub h;exact⟨_,md e,h⟩
 |tup vs=>exact⟨_,rfl,h⟩
 |kf a b st=>obtain⟨c,h⟩:=ui h;exact⟨_,if_pos c,h⟩
 |_=>first|exact ns h|cases h
def bk(a b:Lo):Prop:=∀x v,lk x a=some v→lk x b=some v
theorem Js{x y:Str}{v:AV}:∀{l:Lo},lk y (pt x v l)=if y==x then some v else lk y l
 |[]=>rfl
 |(z,w)::l=>by
  unfold pt;cases c:x==z with
  |true=>
   obtain rfl:=eq_of_beq c;cases d:y==x<;>simp[lk,d]
  |false=>
   cases d:y==z with
   |true=>
    obtain rfl:=eq_of_beq d;have e:(y==x)=false:=by rw[beq_eq_false_iff_ne]at c⊢;exact fun e=>c e.symm
    simp[lk,e]
   |false=>simp[lk,d,Js (l:=l)]
theorem gM{a b:Lo}{x:Str}{v:AV}(h:bk a b):bk (pt x v a) (pt x v b):=fun y w e=>by
 rw[Js]at e⊢;split
 ·rename_i c;rw[if_pos c]at e;exact e
 ·rename_i c;rw[if_neg c]at e;exact h y w e
theorem GA{c b:Lo}(k:bk b c):∀{a:Lo},(∀x v,lk x a=some v→lk x c=some v)→bk (a++b) c:=fun{a}h x v e=>by
 cases d:lk x a with
 |some u=>
  have:lk x (a++b)=some u:=by
   clear e h
   induction a with
   |nil=>first|exact ns d|cases d
   |cons p a ih=>
    unfold lk at d;refine(?_:(if x==p.1 then some p.2 else lk x (a++b))=some u);split at d
    ·exact aa (if_pos ‹_›) (aa d rfl)
    ·refine aa (if_neg ‹_›) ?_;exact ih d
  rw[this]at e;revert e;refine aJ fun e=>?_;subst e;exact h x _ d
 |none=>
  have:lk x (a++b)=lk x b:=by
   clear e h
   induction a with
   |nil=>rfl
   |cons p a ih=>
    unfold lk at d;refine(?_:(if x==p.1 then some p.2 else lk x (a++b))=_);split at d
    ·cases d
    ·refine aa (if_neg ‹_›) ?_;exact ih d
  exact k x v (this▸e)
inductive Kd where
 |int|str|bool|tup|loc (r:Nat)|any
abbrev Kd.T:Kd→Type
 |.int=>Int
 |.str=>Str
 |.bool=>Bool
 |.tup=>List AV
 |.loc _=>Nat
 |.any=>AV
noncomputable def Kd.v:(k:Kd)→k.T→AV
 |.int,n=>.int n
 |.str,n=>.str n
 |.bool,n=>.bool n
 |.tup,n=>.tup n
 |.loc r,n=>.loc r n
 |.any,v=>v
noncomputable def AV.b?:AV→Option Bool
 |.bool b=>some b
 |_=>.none
def Kd.un:(k:Kd)→AV→Option k.T
 |.int,v=>v.i?
 |.str,v=>v.s?
 |.bool,v=>v.b?
 |.tup,v=>v.t?
 |.loc r,v=>v.l?.bind fun l=>cond (Nat.beq l.1 r) (some l.2) .none
 |.any,v=>some v
noncomputable def kdOf:AV→Kd
 |.int _=>.int
 |.str _=>.str
 |.bool _=>.bool
 |.tup _=>.tup
 |.loc r _=>.loc r
 |_=>.any
theorem Kd.HP:∀{k:Kd}{v:AV}{t:k.T},k.un v=some t→v=k.v t
 |.int,v,t=>fun h=>F5 h
 |.str,v,t=>fun h=>zw h
 |.bool,v,t=>fun h=>by cases v<;>cases h;rfl
 |.tup,v,t=>fun h=>zM h
 |.loc r,v,t=>fun h=>by
  refine ar (ub h) fun n e h=>?_;refine xA (uc h) fun e2 h=>?_;revert h;refine aJ fun h=>?_;refine bR h ?_;refine aa (sx e) (aa (NR e2) ?_);rfl
 |.any,v,t=>fun h=>by revert h;refine aJ fun h=>?_;subst h;rfl
abbrev Ks:=List (Str×Kd)
noncomputable abbrev Tk:Ks→Type
 |[]=>Unit
 |p::l=>p.2.T×Tk l
abbrev Fx:=List (Str×Nat)
noncomputable def Lf:Fx→Lo
 |[]=>[]
 |(x,i)::l=>(x,.loc 0 i)::Lf l
noncomputable def Lg:(l:Ks)→Tk l→Lo
 |[],_=>[]
 |p::l,t=>(p.1,p.2.v t.1)::Lg l t.2
noncomputable def JV(lo:Lo):Fx→Bool
 |[]=>true
 |(x,i)::l=>((lk x lo).bind AV.l?).any (fun p=>Nat.beq p.1 0&&Nat.beq p.2 i)&&JV lo l
noncomputable def JW(lo:Lo):(l:Ks)→Option (Tk l)
 |[]=>some ()
 |p::l=>(lk p.1 lo).bind fun v=>(p.2.un v).bind fun a=>(JW lo l).bind fun t=>some (a,t)
noncomputable def uG:Lo→Fx
 |[]=>[]
 |(x,v)::l=>match v with
  |.loc r i=>(match r with
   |0=>(x,i)::uG l
   |_+1=>uG l)
  |_=>uG l
noncomputable def uR:Lo→Ks
 |[]=>[]
 |(x,v)::l=>match v with
  |.loc r i=>(match r with
   |0=>uR l
   |r+1=>(x,.loc (r+1))::uR l)
  |v=>(x,kdOf v)::uR l
theorem Ha{lo:Lo}{l:Fx}:JV lo l=true→bk (Lf l) lo:=by
 induction l with
 |nil=>exact fun _ x v e=>cZ e
 |cons p l ih=>
  intro h y v e;have h:=Nt.mp h;by_cases c:y=p.1
  ·subst c;cases NF (mr.symm.trans e);obtain⟨q,e1,h1⟩:=anyI h.1;revert e1;refine aO fun u e1 e2=>?_;have h1:=Nt.mp h1;exact aa e1 (aa (AV.sx e2) (aa (NR h1.1) (aa (NR h1.2) rfl)))
  ·exact ih h.2 y v ((lH (beq_eq_false_iff_ne.mpr c)).symm.trans e)
theorem BU{lo:Lo}:∀{l:Ks}{t:Tk l},JW lo l=some t→bk (Lg l t) lo
 |[],_=>fun _=>fun x v e=>by exact cZ e
 |p::l,t=>fun h=>fun y v e=>by
  refine ar (ub h) fun u e1 h=>?_;refine ar (ub h) fun a e2 h=>?_;refine ar (ub h) fun t' e3 h=>?_;revert h;refine nv fun h q1=>?_;subst h q1;by_cases c:y=p.1
  ·subst c;cases NF (mr.symm.trans e);exact aa e1 (aa (Kd.HP e2) rfl)
  ·exact BU e3 y v ((lH (beq_eq_false_iff_ne.mpr c)).symm.trans e)
structure Rp where
 σ:Type
 aw:σ→AH
 un:AH→Option σ
 ok:∀{H s},un H=some s→H=aw s
noncomputable def bK{τ σ:Type}(step:(Nat→τ→σ→Option ρ)→Nat→τ→σ→Option ρ):Nat→Nat→τ→σ→Option ρ
 |0,_,_,_=>.none
 |n+1,j,t,s=>step (bK step n) j t s
noncomputable def bz{α:Type}(o:Option α)(kn:Option ρ)(ks:α→Option ρ):Option ρ:=match o with
 |.none=>kn
 |some v=>ks v
def enter{σ:Type}(lo:Lo)(k:(F:Fx)→(l:Ks)→Tk l→Option ρ):Option ρ:=cond (JV lo (uG lo)) ((JW lo (uR lo)).bind (k (uG lo) (uR lo))) .none
def back(R:Rp)(F:Fx)(l:Ks)(lo:Lo)(H:AH)(k:Tk l→R.σ→Option ρ):Option ρ:=cond (JV lo F) ((JW lo l).bind fun t=>(R.un H).bind fun s=>k t s) .none
noncomputable def jD(F:Fx)(l:Ks)(t:Tk l):Lo:=Lf F++Lg l t
theorem wd{F:Fx}{l:Ks}{t:Tk l}{lo:Lo}(h:JV lo F=true)(k:JW lo l=some t):bk (jD F l t) lo:=GA (BU k) (Ha h)
theorem bk.trans{a b c:Lo}(h:bk a b)(k:bk b c):bk a c:=fun x v e=>k x v (h x v e)
abbrev FK (ρ:Type):=AV→Lo→AH→KX ρ→KX ρ→(AV→KX ρ)→Option ρ
abbrev CK (ρ:Type):=AV→List AV→Lo→AH→(List AV→KX ρ)→Option ρ
noncomputable def forR(ty:Ty)(f:FK ρ)(I:It)(kn:KX ρ)(kr:AV→KX ρ):Nat→Nat→Lo→AH→Option ρ
 |0,_,_,_=>.none
 |n+1,j,lo,H=>(jV H I j).bind fun o=>bz o (kn lo H) fun v=>Fi ty v fun v=>f v lo H (fun lo H=>forR ty f I kn kr n (j+1) lo H) kn kr
noncomputable def HV(t:Lo→AH→KB ρ→Option ρ)(f:Lo→AH→KX ρ→KX ρ→(AV→KX ρ)→Option ρ)(kn:KX ρ)(kr:AV→KX ρ):Nat→Lo→AH→Option ρ
 |0,_,_=>.none
 |n+1,lo,H=>t lo H fun b H=>cond b (f lo H (fun lo H=>HV t f kn kr n lo H) kn kr) (kn lo H)
def cD(n:Nat):Nat:=(Classical.choice (⟨⟨n,rfl⟩⟩:Nonempty {m:Nat//m=n})).1
theorem gJ(n:Nat):cD n=n:=(Classical.choice (⟨⟨n,rfl⟩⟩:Nonempty {m:Nat//m=n})).2
def FZ(R:Rp)(ty:Ty)(f:FK ρ)(I:It)(kn:KX ρ)(kr:AV→KX ρ)(F:Fx)(l:Ks)(go:Nat→Tk l→R.σ→Option ρ)(j:Nat)(t:Tk l)(s:R.σ):Option ρ:=
 (jV (R.aw s) I j).bind fun o=>bz o (kn (jD F l t) (R.aw s)) fun v=>Fi ty v fun v=>f v (jD F l t) (R.aw s) (fun lo H=>back R F l lo H (go (j+1))) kn kr
def uF(R:Rp)(ty:Ty)(f:FK ρ)(I:It)(kn:KX ρ)(kr:AV→KX ρ)(n:Nat)(lo:Lo)(H:AH):Option ρ:=match R.un H with
 |.none=>forR ty f I kn kr n 0 lo H
 |some s=>enter (σ:=R.σ) lo fun F l t=>bK (FZ R ty f I kn kr F l) (cD n) 0 t s
def Gg(R:Rp)(t:Lo→AH→KB ρ→Option ρ)(f:Lo→AH→KX ρ→KX ρ→(AV→KX ρ)→Option ρ)(kn:KX ρ)(kr:AV→KX ρ)(F:Fx)(l:Ks)(go:Nat→Tk l→R.σ→Option ρ)(j:Nat)(u:Tk l)(s:R.σ):Option ρ:=
 t (jD F l u) (R.aw s) fun b H=>cond b (f (jD F l u) H (fun lo H=>back R F l lo H (go (j+1))) kn kr) (kn (jD F l u) H)
def HU(R:Rp)(t:Lo→AH→KB ρ→Option ρ)(f:Lo→AH→KX ρ→KX ρ→(AV→KX ρ)→Option ρ)(kn:KX ρ)(kr:AV→KX ρ)(lo:Lo)(H:AH):Option ρ:=match R.un H with
 |.none=>HV t f kn kr 100 lo H
 |some s=>enter (σ:=R.σ) lo fun F l u=>bK (Gg R t f kn kr F l) (cD cg) 0 u s
def FP(R:Rp)(ty:Ty)(f:CK ρ)(I:It)(k:List AV→KX ρ)(F:Fx)(l:Ks)(go:Nat→List AV×Tk l→R.σ→Option ρ)(j:Nat)(t:List AV×Tk l)(s:R.σ):Option ρ:=
 (jV (R.aw s) I j).bind fun o=>bz o (k t.1 (jD F l t.2) (R.aw s)) fun v=>Fi ty v fun v=>f v t.1 (jD F l t.2) (R.aw s) (fun acc lo H=>back R F l lo H fun t s=>go (j+1) (acc,t) s)
def ur(R:Rp)(ty:Ty)(f:CK ρ)(I:It)(k:List AV→KX ρ)(n:Nat)(acc:List AV)(lo:Lo)(H:AH):Option ρ:=(R.un H).bind fun s=>
 enter (σ:=R.σ) lo fun F l t=>bK (FP R ty f I k F l) (cD n) 0 (acc,t) s
def Sel(kn kb:KX ρ)(kr:AV→KX ρ)(t:AF×Lo×AH)(x:ρ):Prop:=∃l,bk l t.2.1∧JP kn kb kr t.1 l t.2.2=some x
theorem lp{σ:Type}{lo:Lo}{k:(F:Fx)→(l:Ks)→Tk l→Option ρ}{x:ρ}(h:enter (σ:=σ) lo k=some x):∃t,bk (jD (uG lo) (uR lo) t) lo∧k (uG lo) (uR lo) t=some x:=by
 refine xA (uc h) fun c h=>?_;refine ar (ub h) fun t e h=>?_;exact⟨t,wd c e,h⟩
theorem n8{R:Rp}{F:Fx}{l:Ks}{lo:Lo}{H:AH}{k:Tk l→R.σ→Option ρ}{x:ρ}(h:back R F l lo H k=some x):∃t s,bk (jD F l t) lo∧H=R.aw s∧k t s=some x:=by
 refine xA (uc h) fun c h=>?_;refine ar (ub h) fun t e h=>?_;refine ar (ub h) fun s e1 h=>?_;exact⟨t,s,wd c e,R.ok e1,h⟩
section
variable{R:Rp}{ty:Ty}{fK:FK ρ}{f:AV→Lo→AH→Option (AF×Lo×AH)}{x:ρ}{I:It}{kn kb:KX ρ}{kr:AV→KX ρ}
theorem vT(hf:∀⦃v lo lo' H kn kb kr⦄,bk lo lo'→fK v lo H kn kb kr=some x→∃t,f v lo' H=some t∧Sel kn kb kr t x):
 ∀{n j lo lo' H},bk lo lo'→forR ty fK I kn kr n j lo H=some x→∃t,mW f I n j lo' H=some t∧Sel kn kb kr t x
 |0,_,_,_,_=>fun _ h=>by cases h
 |n+1,j,lo,lo',H=>fun q h=>by
  refine ar (ub h) fun o e h=>?_;cases o with
  |none=>exact⟨_,bd e rfl,lo,q,h⟩
  |some v=>
   dsimp only[bz]at h;obtain⟨⟨a,lo1,H1⟩,e1,l1,q1,h⟩:=hf q (gR h);cases a with
   |next=>
    refine ar (vT hf (n:=n) q1 h) fun t e2 h=>?_;exact⟨t,bd e (bd e1 e2),h⟩
   |brk=>exact⟨_,bd e (bd e1 rfl),l1,q1,h⟩
   |ret w=>exact⟨_,bd e (bd e1 rfl),l1,q1,h⟩
theorem ry(hf:∀⦃v lo lo' H kn kb kr⦄,bk lo lo'→fK v lo H kn kb kr=some x→∃t,f v lo' H=some t∧Sel kn kb kr t x) {F:Fx} {l:Ks}:
 ∀{n j t s lo'},bk (jD F l t) lo'→bK (FZ R ty fK I kn kr F l) n j t s=some x→∃t,mW f I n j lo' (R.aw s)=some t∧Sel kn kb kr t x
 |0,_,_,_,_=>fun _ h=>by cases h
 |n+1,j,t,s,lo'=>fun q h=>by
  refine ar (ub h) fun o e h=>?_;cases o with
  |none=>exact⟨_,bd e rfl,_,q,h⟩
  |some v=>
   dsimp only[bz]at h;obtain⟨⟨a,lo1,H1⟩,e1,l1,q1,h⟩:=hf q (gR h);cases a with
   |next=>
    refine bx (n8 h) fun t' s' q2 e'3 h'=>?_;subst e'3;refine ar (ry hf (n:=n) (q2.trans q1) h') fun t e2 h=>?_;exact⟨t,bd e (bd e1 e2),h⟩
   |brk=>exact⟨_,bd e (bd e1 rfl),l1,q1,h⟩
   |ret w=>exact⟨_,bd e (bd e1 rfl),l1,q1,h⟩
theorem za(hf:∀⦃v lo lo' H kn kb kr⦄,bk lo lo'→fK v lo H kn kb kr=some x→∃t,f v lo' H=some t∧Sel kn kb kr t x) {n:Nat} {lo lo':Lo} {H:AH} (q:bk lo lo')
 (h:uF R ty fK I kn kr n lo H=some x):∃t,mW f I n 0 lo' H=some t∧Sel kn kb kr t x:=by
 unfold uF at h;cases hs:R.un H with
 |none=>rw[hs]at h;exact vT hf q h
 |some s=>
  rw[hs]at h;refine ar (lp h) fun t q0 h'=>?_;obtain rfl:=R.ok hs;rw[gJ]at h';exact ry hf (q0.trans q) h'
end
section
variable{R:Rp}{x:ρ}{kn kb:KX ρ}{kr:AV→KX ρ}{tK:Lo→AH→KB ρ→Option ρ}{t:Lo→AH→Option (Bool×AH)}{fK:Lo→AH→KX ρ→KX ρ→(AV→KX ρ)→Option ρ}{f:Lo→AH→Option (AF×Lo×AH)}
theorem wL(ht:∀⦃lo lo' H k⦄,bk lo lo'→tK lo H k=some x→∃u,t lo' H=some u∧k u.1 u.2=some x)
 (hf:∀⦃lo lo' H kn kb kr⦄,bk lo lo'→fK lo H kn kb kr=some x→∃t,f lo' H=some t∧Sel kn kb kr t x):
 ∀{n lo lo' H},bk lo lo'→HV tK fK kn kr n lo H=some x→∃u,Fq t f n lo' H=some u∧Sel kn kb kr u x
 |0,_,_,_=>fun _ h=>by cases h
 |n+1,lo,lo',H=>fun q h=>by
  obtain⟨⟨b,H1⟩,e,h⟩:=ht q h;cases b with
  |false=>exact⟨_,bd e rfl,lo,q,h⟩
  |true=>
   obtain⟨⟨a,lo1,H1⟩,e1,l1,q1,h⟩:=hf q h;cases a with
   |next=>
    refine ar (wL ht hf (n:=n) q1 h) fun u e2 h=>?_;exact⟨u,bd e ((if_pos rfl).trans (bd e1 e2)),h⟩
   |brk=>exact⟨_,bd e ((if_pos rfl).trans (bd e1 rfl)),l1,q1,h⟩
   |ret w=>exact⟨_,bd e ((if_pos rfl).trans (bd e1 rfl)),l1,q1,h⟩
theorem sf(ht:∀⦃lo lo' H k⦄,bk lo lo'→tK lo H k=some x→∃u,t lo' H=some u∧k u.1 u.2=some x)
 (hf:∀⦃lo lo' H kn kb kr⦄,bk lo lo'→fK lo H kn kb kr=some x→∃t,f lo' H=some t∧Sel kn kb kr t x) {F:Fx} {l:Ks}:
 ∀{n j u s lo'},bk (jD F l u) lo'→bK (Gg R tK fK kn kr F l) n j u s=some x→∃u,Fq t f n lo' (R.aw s)=some u∧Sel kn kb kr u x
 |0,_,_,_,_=>fun _ h=>by cases h
 |n+1,j,u,s,lo'=>fun q h=>by
  obtain⟨⟨b,H1⟩,e,h⟩:=ht q h;cases b with
  |false=>exact⟨_,bd e rfl,_,q,h⟩
  |true=>
   obtain⟨⟨a,lo1,H1⟩,e1,l1,q1,h⟩:=hf q h;cases a with
   |next=>
    refine bx (n8 h) fun t' s' q2 e'3 h'=>?_;subst e'3;refine ar (sf ht hf (n:=n) (q2.trans q1) h') fun t e2 h=>?_;exact⟨t,bd e ((if_pos rfl).trans (bd e1 e2)),h⟩
   |brk=>exact⟨_,bd e ((if_pos rfl).trans (bd e1 rfl)),l1,q1,h⟩
   |ret w=>exact⟨_,bd e ((if_pos rfl).trans (bd e1 rfl)),l1,q1,h⟩
theorem sj{x:AF×Lo×AH}{m:Nat}:∀{n lo H},Fq t f n lo H=some x→Fq t f (n+m) lo H=some x
 |0,_,_=>fun h=>by cases h
 |n+1,lo,H=>fun h=>by
  rw[Ot];obtain⟨⟨b,H1⟩,e,h⟩:=ub h;cases b with
  |false=>exact bd e h
  |true=>
   obtain⟨⟨a,l,H2⟩,e1,h⟩:=ub h;cases a with
   |next=>exact bd e (bd e1 (sj (n:=n) h))
   |brk=>exact bd e (bd e1 h)
   |ret v=>exact bd e (bd e1 h)
theorem Fs(ht:∀⦃lo lo' H k⦄,bk lo lo'→tK lo H k=some x→∃u,t lo' H=some u∧k u.1 u.2=some x)
 (hf:∀⦃lo lo' H kn kb kr⦄,bk lo lo'→fK lo H kn kb kr=some x→∃t,f lo' H=some t∧Sel kn kb kr t x) {lo lo':Lo} {H:AH} (q:bk lo lo')
 (h:HU R tK fK kn kr lo H=some x):∃u,Fq t f cg lo' H=some u∧Sel kn kb kr u x:=by
 unfold HU at h;cases hs:R.un H with
 |none=>
  rw[hs]at h;refine ar (wL (kb:=kb) ht hf q h) fun u e h=>?_;exact⟨u,sj (n:=100) (m:=999900) e,h⟩
 |some s=>
  rw[hs]at h;refine ar (lp h) fun u q0 h'=>?_;obtain rfl:=R.ok hs;rw[gJ]at h';exact sf ht hf (q0.trans q) h'
end
theorem ri{R:Rp}{ty:Ty}{fK:CK ρ}{f:AV→List AV→Lo→AH→Option (List AV×Lo×AH)}{x:ρ}{I:It}{k:List AV→KX ρ}
 (hf:∀⦃v acc lo lo' H k⦄,bk lo lo'→fK v acc lo H k=some x→∃t,f v acc lo' H=some t∧∃l,bk l t.2.1∧k t.1 l t.2.2=some x) {F:Fx} {l:Ks}:
 ∀{n j t s lo'},bk (jD F l t.2) lo'→bK (FP R ty fK I k F l) n j t s=some x→∃u,mM f I n j t.1 lo' (R.aw s)=some u∧∃l,bk l u.2.1∧k u.1 l u.2.2=some x
 |0,_,_,_,_=>fun _ h=>by cases h
 |n+1,j,t,s,lo'=>fun q h=>by
  refine ar (ub h) fun o e h=>?_;cases o with
  |none=>exact⟨_,bd e rfl,_,q,h⟩
  |some v=>
   dsimp only[bz]at h;obtain⟨⟨a,lo1,H1⟩,e1,l1,q1,h⟩:=hf q (gR h);refine bx (n8 h) fun t' s' q2 e'3 h'=>?_;subst e'3;refine ar (ri hf (n:=n) (t:=(a,t')) (q2.trans q1) h') fun t e2 h=>?_;exact⟨t,bd e (bd e1 e2),h⟩
theorem mN{R:Rp}{ty:Ty}{fK:CK ρ}{f:AV→List AV→Lo→AH→Option (List AV×Lo×AH)}{x:ρ}{I:It}{k:List AV→KX ρ}
 (hf:∀⦃v acc lo lo' H k⦄,bk lo lo'→fK v acc lo H k=some x→∃t,f v acc lo' H=some t∧∃l,bk l t.2.1∧k t.1 l t.2.2=some x) {n:Nat} {acc:List AV} {lo lo':Lo} {H:AH} (q:bk lo lo')
 (h:ur R ty fK I k n acc lo H=some x):∃t,mM f I n 0 acc lo' H=some t∧∃l,bk l t.2.1∧k t.1 l t.2.2=some x:=by
 refine ar (ub h) fun s hs h=>?_;refine ar (lp h) fun t q0 h'=>?_;obtain rfl:=R.ok hs;rw[gJ]at h';exact ri hf (t:=(acc,t)) (q0.trans q) h'
end
structure Ii (R:EK) (r:EV):Prop where
 e:∀{ρ:Type}⦃sc lo lo' e H⦄⦃k:KV ρ⦄⦃x⦄,bk lo lo'→R.e sc lo e H k=some x→∃t,r.e sc lo' e H=some t∧k t.1 t.2=some x
 t:∀{ρ:Type}⦃sc lo lo' e H⦄⦃k:KB ρ⦄⦃x⦄,bk lo lo'→R.t sc lo e H k=some x→∃t,r.t sc lo' e H=some t∧k t.1 t.2=some x
 x:∀{ρ:Type}⦃sc lo lo' s H⦄⦃kn kb:KX ρ⦄⦃kr:AV→KX ρ⦄⦃x⦄,bk lo lo'→R.x sc lo s H kn kb kr=some x→∃t,r.x sc lo' s H=some t∧Sel kn kb kr t x
section
variable{ρ:Type}
noncomputable def uB(g:Expr→AH→KV ρ→Option ρ):List Expr→AH→(List AV→AH→Option ρ)→Option ρ
 |[],H,k=>k [] H
 |a::l,H,k=>g a H fun v H=>uB g l H fun vs H=>k (v::vs) H
def GY(g:Expr→AH→KV ρ→Option ρ)(e:Option Expr)(H:AH)(k:Option Int→AH→Option ρ):Option ρ:=match e with
 |.none=>k .none H
 |some a=>g a H fun v H=>v.i?.bind fun i=>if small i then k (some i) H else .none
noncomputable def mq(g:Lo→Stmt→AH→KX ρ→KX ρ→(AV→KX ρ)→Option ρ)(kb:KX ρ)(kr:AV→KX ρ):List Stmt→Lo→AH→KX ρ→Option ρ
 |[],lo,H,kn=>kn lo H
 |s::l,lo,H,kn=>g lo s H (fun lo H=>mq g kb kr l lo H kn) kb kr
noncomputable def Gd(op:BoolOp)(b:Bool)(ks:Option ρ)(kg:Option ρ):Option ρ:=match op with
 |.And=>cond b kg ks
 |.Or=>cond b ks kg
noncomputable def vB(g:Expr→AH→KB ρ→Option ρ)(op:BoolOp):List Expr→AH→KB ρ→Option ρ
 |[],H,k=>k (op==.And) H
 |x::l,H,k=>match l with
  |[]=>g x H k
  |_::_=>g x H fun b H=>Gd op b (k (op==.Or) H) (vB g op l H k)
noncomputable def Hq(g:Expr→AH→KV ρ→Option ρ)(op:BoolOp):List Expr→AH→KV ρ→Option ρ
 |[],_,_=>.none
 |x::l,H,k=>match l with
  |[]=>g x H k
  |_::_=>g x H fun v H=>(dG H v).bind fun b=>Gd op b (k v H) (Hq g op l H k)
theorem hC{gK:Expr→AH→KV ρ→Option ρ}{g:Expr→AH→Option (AV×AH)}{x:ρ}(hg:∀⦃a H k⦄,gK a H k=some x→∃t,g a H=some t∧k t.1 t.2=some x):
 ∀{l H k},uB gK l H k=some x→∃t,uA g l H=some t∧k t.1 t.2=some x
 |[],H,k=>fun h=>⟨_,rfl,h⟩
 |a::l,H,k=>fun h=>by
  refine ar (hg h) fun v e h=>?_;refine ar (hC hg h) fun t e1 h=>?_;exact⟨_,bd e (md e1),h⟩
theorem vO{gK:Expr→AH→KV ρ→Option ρ}{g:Expr→AH→Option (AV×AH)}{x:ρ}(hg:∀⦃a H k⦄,gK a H k=some x→∃t,g a H=some t∧k t.1 t.2=some x) {e:Option Expr} {H:AH} {k:Option Int→AH→Option ρ}
 (h:GY gK e H k=some x):∃t,Ib g e H=some t∧k t.1 t.2=some x:=by
 cases e with
 |none=>exact⟨_,rfl,h⟩
 |some a=>
  refine ar (hg h) fun v e h=>?_;refine ar (ub h) fun i e1 h=>?_;refine xA (ui h) fun c h=>?_;exact⟨_,bd e (bd e1 (if_pos c)),h⟩
theorem hE{gK:Lo→Stmt→AH→KX ρ→KX ρ→(AV→KX ρ)→Option ρ}{g:Lo→Stmt→AH→Option (AF×Lo×AH)}{x:ρ}(hg:∀⦃lo lo' s H kn kb kr⦄,bk lo lo'→gK lo s H kn kb kr=some x→∃t,g lo' s H=some t∧Sel kn kb kr t x) {kb:KX ρ} {kr:AV→KX ρ}:
 ∀{l lo lo' H kn},bk lo lo'→mq gK kb kr l lo H kn=some x→∃t,ru g l lo' H=some t∧Sel kn kb kr t x
 |[],lo,lo',H,kn=>fun q h=>⟨_,rfl,lo,q,h⟩
 |s::l,lo,lo',H,kn=>fun q h=>by
  obtain⟨⟨a,lo1,H1⟩,e,l1,q1,h⟩:=hg q h;cases a with
  |next=>
   refine ar (hE hg (l:=l) q1 h) fun t e1 h=>?_;exact⟨t,bd e e1,h⟩
  |brk=>exact⟨_,bd e rfl,l1,q1,h⟩
  |ret v=>exact⟨_,bd e rfl,l1,q1,h⟩
theorem k9{gK:Expr→AH→KB ρ→Option ρ}{g:Expr→AH→Option (Bool×AH)}{op:BoolOp}{x:ρ}(hg:∀⦃a H k⦄,gK a H k=some x→∃t,g a H=some t∧k t.1 t.2=some x):
 ∀{l H k},vB gK op l H k=some x→∃t,yL g op l H=some t∧k t.1 t.2=some x
 |[],H,k=>fun h=>⟨_,rfl,h⟩
 |[a],H,k=>fun h=>by
  obtain⟨⟨b,H1⟩,e,h⟩:=hg h;refine⟨(b,H1),bd e ?_,h⟩;cases op<;>cases b<;>rfl
 |a::b::l,H,k=>fun h=>by
  obtain⟨⟨c,H1⟩,e,h⟩:=hg h
  cases op<;>cases c<;>first
   |(obtain⟨t,e1,h⟩:=k9 hg (l:=b::l) h;exact⟨t,bd e e1,h⟩)
   |exact⟨_,bd e rfl,h⟩
theorem wt{gK:Expr→AH→KV ρ→Option ρ}{g:Expr→AH→Option (AV×AH)}{op:BoolOp}{x:ρ}(hg:∀⦃a H k⦄,gK a H k=some x→∃t,g a H=some t∧k t.1 t.2=some x):
 ∀{l H k},Hq gK op l H k=some x→∃t,Kq g op l H=some t∧k t.1 t.2=some x
 |[],H,k=>fun h=>by cases h
 |[a],H,k=>fun h=>by
  refine ar (hg h) fun t e h=>?_;exact⟨t,bd e rfl,h⟩
 |a::b::l,H,k=>fun h=>by
  refine ar (hg h) fun v e h=>?_;refine ar (ub h) fun c e1 h=>?_
  cases op<;>cases c<;>first
   |(obtain⟨t,e2,h⟩:=wt hg (l:=b::l) h;exact⟨t,bd e (bd e1 e2),h⟩)
   |exact⟨_,bd e (bd e1 rfl),h⟩
end
theorem wc{sc:Scope}{x:Str}:∀{l:Lo},lk x (c9 sc l)=if sc.names.lookup x==some .free then lk x l else none
 |[]=>by unfold c9;split<;>rfl
 |(y,v)::l=>by
  have ih:=wc (sc:=sc) (x:=x) (l:=l);unfold c9 at ih⊢;refine aa ON ?_;cases c:x==y with
  |true=>
   obtain rfl:=eq_of_beq c;cases d:sc.names.lookup x==some .free with
   |true=>simp[lk]
   |false=>rw[d]at ih;exact ih
  |false=>
   cases d:sc.names.lookup y==some .free with
   |true=>simp[lk,c,ih]
   |false=>simp only[Bool.false_eq_true,if_false,ih,lk,c]
theorem Et{sc:Scope}{a b:Lo}(h:bk a b):bk (c9 sc a) (c9 sc b):=fun x v e=>by
 rw[wc]at e⊢;split
 ·rename_i c;rw[if_pos c]at e;exact h x v e
 ·rename_i c;rw[if_neg c]at e;exact cZ e
theorem EW{P:PT}{sc:Scope}{a b:Lo}(h:bk a b){x:Str}{v:AV}(e:lK P sc a x=some v):lK P sc b x=some v:=by
 unfold lK at e⊢;revert e;cases sc.names.lookup x with
 |none=>exact cZ
 |some k=>cases k with
  |globalExplicit=>exact cZ
  |globalImplicit=>exact id
  |_=>exact h x v
section
variable{ρ:Type}(W:Rp)(T:zL)(P:PT)(cal:iG)(R:EK)(sc:Scope)(lo:Lo)
noncomputable def jv(elt:Expr):List Comprehension→AV→List AV→Lo→AH→(List AV→KX ρ)→Option ρ
 |[],_,_,_,_,_=>.none
 |g::rest,v,acc,lo,H,k=>(ey g.target).bind fun x=>cond (cM sc x)
   (vB (R.t sc (pt x v lo)) .And g.ifs H fun b H=>cond b (match rest with
    |[]=>R.e sc (pt x v lo) elt H fun y H=>if acc.length<ab then k (acc++[y]) (pt x v lo) H else .none
    |g'::_=>R.e sc (pt x v lo) g'.iter H fun xs H=>v3 H xs fun I=>ur W (HO T xs) (jv elt rest) I k (I.len+1) acc (pt x v lo) H)
    (k acc (pt x v lo) H)) .none
def KZ(op:UnaryOp)(a:Expr)(H:AH)(k:KV ρ):Option ρ:=match op with
 |.USub=>R.e sc lo a H fun v H=>v.i?.bind fun i=>k (.int (-i)) H
 |.Not=>R.e sc lo a H fun v H=>(dG H v).bind fun b=>k (.bool (!b)) H
 |_=>.none
noncomputable def KU(c a b:Expr)(H:AH)(k:KV ρ):Option ρ:=R.t sc lo c H fun t H=>cond t (R.e sc lo a H k) (R.e sc lo b H k)
def I0(a:Expr)(op:Operator)(b:Expr)(p:Pos)(H:AH)(k:KV ρ):Option ρ:=R.e sc lo a H fun v H=>R.e sc lo b H fun w H=>FO H (P.site p) op v w k
def Ba(a:Expr)(ops:List CmpOp)(bs:List Expr)(H:AH)(k:KB ρ):Option ρ:=(one? ops).bind fun op=>(one? bs).bind fun b=>cond (behindInMarks op b) .none
    (R.e sc lo a H fun v H=>R.e sc lo b H fun w H=>(yX H op v w).bind fun c=>k c H)
def GJ(a:Expr)(x:Str)(H:AH)(k:KV ρ):Option ρ:=cond (f9 a) (R.e sc lo a H fun v H=>(Ex P H v x).bind fun w=>k w H) .none
def vK(a:Expr)(l u:Option Expr)(p:Pos)(H:AH)(k:KV ρ):Option ρ:=
 R.e sc lo a H fun v H=>v.l?.bind fun w=>GY (R.e sc lo) l H fun x H=>GY (R.e sc lo) u H fun y H=>(ae H w.1 w.2).bind fun xs=>
  if xs.length<ab then da H (P.site p) (ax xs x y) k else .none
def I_(a i:Expr)(p:Pos)(H:AH)(k:KV ρ):Option ρ:=cond (isSlice i) ((slice? i).bind fun s=>vK P R sc lo a s.1 s.2 p H k)
 (R.e sc lo a H fun v H=>R.e sc lo i H fun w H=>CL T (p.line*1000+p.col) H v w fun u=>k u H)
def Ja(es:List Expr)(H:AH)(k:KV ρ):Option ρ:=uB (R.e sc lo) es H fun vs H=>cond (Nat.blt vs.length ab) (k (.tup vs) H) .none
def GP(es:List Expr)(p:Pos)(H:AH)(k:KV ρ):Option ρ:=uB (R.e sc lo) es H fun vs H=>da H (P.site p) vs k
def GN(ks:List (Option Expr))(es:List Expr)(p:Pos)(H:AH)(k:KV ρ):Option ρ:=
 (fz ks).bind fun xs=>uB (R.e sc lo) es H fun vs H=>if xs.length=vs.length∧xs.length<16∧xs.Nodup then jt H (P.site p) (.dict (xs.zip vs)) k else .none
def GQ(o:Expr)(x:Str)(ap:Pos)(args:List Expr)(p:Pos)(H:AH)(k:KV ρ):Option ρ:=cond (f9 o&&Nat.beq ap.endLine p.line&&Nat.blt args.length 30)
    (R.e sc lo o H fun v H=>B4 P H v x fun mf=>uB (R.e sc lo) args H fun vs H=>B3 T cal (P.site p) mf x vs H k) .none
def I7(f:Expr)(args:List Expr)(p:Pos)(H:AH)(k:KV ρ):Option ρ:=R.e sc lo f H fun v H=>uB (R.e sc lo) args H fun vs H=>uq cal (P.site p) v vs H k
def GK(f:Expr)(args:List Expr)(ks:List Keyword)(p:Pos)(H:AH)(k:KV ρ):Option ρ:=(f7 ks).bind fun _=>match AI f with
    |some a=>GQ T P cal R sc lo a.1 a.2.1 a.2.2 args p H k
    |.none=>I7 P cal R sc lo f args p H k
def GL(elt:Expr)(gens:List Comprehension)(csc:Scope)(p:Pos)(H:AH)(k:KV ρ):Option ρ:=cond (rP sc csc&&fo gens)
 (gens.head?.bind fun g=>R.e sc lo g.iter H fun v H=>v3 H v fun I=>ur W (HO T v) (jv W T R csc elt gens) I (fun acc _ H=>da H (P.site p) acc k) (I.len+1) [] (c9 csc lo) H) .none
def Jc(e:Expr)(H:AH)(k:KV ρ):Option ρ:=match e with
 |.Constant c _ _=>(cst c).bind fun v=>k v H
 |.Name x _=>(lK P sc lo x).bind fun v=>k v H
 |.UnaryOp op a _=>KZ R sc lo op a H k
 |.BoolOp op es _=>Hq (R.e sc lo) op es H k
 |.IfExp c a b _=>KU R sc lo c a b H k
 |.BinOp a op b p=>I0 P R sc lo a op b p H k
 |.Compare a ops bs _=>Ba R sc lo a ops bs H fun b H=>k (.bool b) H
 |.Attribute a x _=>GJ P R sc lo a x H k
 |.Subscript a i p=>I_ T P R sc lo a i p H k
 |.Tuple es _ _=>Ja R sc lo es H k
 |.List es p=>GP P R sc lo es p H k
 |.Dict ks es p=>GN P R sc lo ks es p H k
 |.Call f args ks p=>GK T P cal R sc lo f args ks p H k
 |.ListComp elt gens csc p=>GL W T P R sc lo elt gens csc p H k
 |_=>.none
def mQ(e:Expr)(H:AH)(k:KB ρ):Option ρ:=R.e sc lo e H fun v H=>(dG H v).bind fun b=>k b H
def Jd(e:Expr)(H:AH)(k:KB ρ):Option ρ:=match e with
 |.UnaryOp op a _=>(match op with
  |.Not=>R.t sc lo a H fun b H=>k (!b) H
  |_=>.none)
 |.BoolOp op es _=>vB (R.t sc lo) op es H k
 |.Compare a ops bs _=>Ba R sc lo a ops bs H k
 |.Name x p=>mQ R sc lo (.Name x p) H k
 |.Call f as ks p=>mQ R sc lo (.Call f as ks p) H k
 |.Attribute a x p=>mQ R sc lo (.Attribute a x p) H k
 |.Subscript a i p=>mQ R sc lo (.Subscript a i p) H k
 |.Constant c j p=>mQ R sc lo (.Constant c j p) H k
 |_=>.none
def Gx(x:Str)(e:Expr)(H:AH)(kn:KX ρ):Option ρ:=cond (n_ e||!d4 sc x) .none (R.e sc lo e H fun v H=>kn (pt x v lo) H)
def IF(ts:List Expr)(e:Expr)(H:AH)(kn:KX ρ):Option ρ:=
 (h8 ts).bind fun xy=>(ey xy.1).bind fun x=>(ey xy.2).bind fun y=>cond (isTup e||!(cM sc x&&cM sc y)) .none
  (R.e sc lo e H fun v H=>v.t?.bind fun l=>(h8 l).bind fun vw=>kn (pt y vw.2 (pt x vw.1 lo)) H)
def Gw(o:Expr)(x:Str)(e:Expr)(H:AH)(kn:KX ρ):Option ρ:=R.e sc lo e H fun v H=>R.e sc lo o H fun u H=>Gb P H u x v fun H=>kn lo H
def IC(o i:Expr)(e:Expr)(H:AH)(kn:KX ρ):Option ρ:=R.e sc lo e H fun v H=>R.e sc lo o H fun u H=>R.e sc lo i H fun w H=>Cv H u w v fun H=>kn lo H
def ID(tg e:Expr)(H:AH)(kn:KX ρ):Option ρ:=match tg with
 |.Name x _=>Gx R sc lo x e H kn
 |.Tuple ts _ _=>IF R sc lo ts e H kn
 |.Attribute o x _=>Gw P R sc lo o x e H kn
 |.Subscript o i _=>IC R sc lo o i e H kn
 |_=>.none
def G4(x:Str)(op:Operator)(e:Expr)(H:AH)(kn:KX ρ):Option ρ:=cond (cM sc x)
 ((lk x lo).bind fun a=>a.i?.bind fun i=>R.e sc lo e H fun v H=>v.i?.bind fun j=>(IH op i j).bind fun n=>kn (pt x (.int n) lo) H) .none
def Ji(o i:Expr)(op:Operator)(e:Expr)(H:AH)(kn:KX ρ):Option ρ:=cond (isSlice i||!isAdd op) .none
 (R.e sc lo o H fun u H=>R.e sc lo i H fun w H=>CL T 0 H u w fun a=>a.s?.bind fun y=>R.e sc lo e H fun t H=>t.s?.bind fun z=>if y.length+z.length<ab then Cv H u w (.str (y++z)) fun H=>kn lo H else .none)
def Jj(tg:Expr)(op:Operator)(e:Expr)(H:AH)(kn:KX ρ):Option ρ:=match tg with
 |.Name x _=>G4 R sc lo x op e H kn
 |.Subscript o i _=>Ji T R sc lo o i op e H kn
 |_=>.none
def JY(tg it:Expr)(body:List Stmt)(H:AH)(kn:KX ρ)(kr:AV→KX ρ):Option ρ:=
 (ey tg).bind fun x=>cond (cM sc x) (R.e sc lo it H fun v H=>v3 H v fun I=>
  uF W (HO T v) (fun v lo H kn kb kr=>mq (R.x sc) kb kr body (pt x v lo) H kn) I kn kr (I.len+1) lo H) .none
def Je(s:Stmt)(H:AH)(kn kb:KX ρ)(kr:AV→KX ρ):Option ρ:=match s with
 |.Pass _=>kn lo H
 |.Break _=>kb lo H
 |.Return e _=>(match e with
  |.none=>kr .none lo H
  |some e=>R.e sc lo e H fun v H=>kr v lo H)
 |.Expr e _=>cond (uM e) .none (R.e sc lo e H fun _ H=>kn lo H)
 |.Assign ts e _=>(one? ts).bind fun tg=>ID P R sc lo tg e H kn
 |.AugAssign tg op e _=>Jj T R sc lo tg op e H kn
 |.If c a b _=>R.t sc lo c H fun t H=>cond t (mq (R.x sc) kb kr a lo H kn) (mq (R.x sc) kb kr b lo H kn)
 |.While c body els _=>(f7 els).bind fun _=>HU W (fun lo H k=>R.t sc lo c H k) (fun lo H kn kb kr=>mq (R.x sc) kb kr body lo H kn) kn kr lo H
 |.For tg it body els _=>(f7 els).bind fun _=>JY W T R sc lo tg it body H kn kr
 |_=>.none
end
noncomputable def uD(W:Rp)(T:zL)(P:PT)(cal:iG):Nat→EK
 |0=>⟨fun _ _ _ _ _=>.none,fun _ _ _ _ _=>.none,fun _ _ _ _ _ _ _=>.none⟩
 |d+1=>⟨fun sc lo=>Jc W T P cal (uD W T P cal d) sc lo,fun sc lo=>Jd (uD W T P cal d) sc lo,fun sc lo=>Je W T P (uD W T P cal d) sc lo⟩
section
variable{ρ:Type}
def Hd(cal:iG)(k:Nat)(ci:jf)(args:List AV)(H:AH)(K:KV ρ):Option ρ:=
 (BL ("__init__":Str) ci.meths).bind fun i=>jt H 0 (.dZ k []) fun d H=>d.l?.bind fun w=>jt H 0 (.inst k w.1 w.2) fun o H=>cal.c i (o::args) H fun v H=>(isNone v).bind fun _=>K o H
def JO(R:EK)(f:zK)(args:List AV)(H:AH)(K:KV ρ):Option ρ:=(gy f.params f.defs args).bind fun lo=>mq (R.x f.scope) (fun _ _=>.none) (fun v _ H=>K v H) f.body lo H fun _ H=>K .none H
def dy(W:Rp)(T:zL)(P:PT)(cal:iG)(k:Nat)(args:List AV)(H:AH)(K:KV ρ):Option ρ:=(P.at_ k).bind fun g=>match g with
    |.fn f=>JO (uD W T P cal iw) f args H K
    |.cls c=>Hd cal k c args H K
end
theorem un{ρ:Type}{c:Bool}{a:Option ρ}{b:ρ}(h:cond c .none a=some b):c=false∧a=some b:=by
 cases c with
 |false=>exact⟨rfl,h⟩
 |true=>first|exact ns h|cases h
theorem cb{α:Type}{c:Bool}{a b:α}(h:c=true):(if c then a else b)=a:=if_pos h
theorem cf{α:Type}{c:Bool}{a b:α}(h:c=false):(if c then a else b)=b:=if_neg (by refine aa h ?_;exact NG)
section
variable{ρ:Type}{W:Rp}{T:zL}{P:PT}{calK:iG}{cal:je}{R:EK}{r:EV}{sc:Scope}{lo lo':Lo}{H:AH}{x:ρ}(ok:Ii R r)(C:kM calK cal)
include ok
theorem iS{elt:Expr}:∀{gs:List Comprehension}{v:AV}{acc:List AV}{lo lo':Lo}{H:AH}{k:List AV→KX ρ},bk lo lo'→jv W T R sc elt gs v acc lo H k=some x→
 ∃t,compTurn r sc elt gs v acc lo' H=some t∧∃l,bk l t.2.1∧k t.1 l t.2.2=some x
 |[],_,_,_,_,_,_=>fun _ h=>by cases h
 |g::rest,v,acc,lo,lo',H,k=>fun q h=>by
  refine ar (ub h) fun y e h=>?_;refine xA (uc h) fun c h=>?_;obtain⟨⟨b,H1⟩,e1,h⟩:=k9 (fun{a H k}h=>ok.t (gM q) h) h;cases b with
  |false=>exact⟨_,bd e ((cb c).trans (bd e1 rfl)),_,gM q,h⟩
  |true=>
   cases rest with
   |nil=>
    refine ar (ok.e (gM q) h) fun z e2 h=>?_;refine xA (ui h) fun c2 h=>?_;exact⟨_,bd e ((cb c).trans (bd e1 (bd e2 (if_pos c2)))),_,gM q,h⟩
   |cons g' rest=>
    refine ar (ok.e (gM q) h) fun z e2 h=>?_;refine ar (lG h) fun I e3 h=>?_;refine ar (mN (f:=compTurn r sc elt (g'::rest)) (fun{v acc lo lo' H k}q h=>iS (gs:=g'::rest) q h) (gM q) h) fun t e4 h=>?_;exact⟨t,bd e ((cb c).trans (bd e1 (bd e2 (bd e3 e4)))),h⟩
theorem rn(q:bk lo lo'){a:Expr}{ops:List CmpOp}{bs:List Expr}{k:KB ρ}(h:Ba R sc lo a ops bs H k=some x):∃t,Ed r sc lo' a ops bs H=some t∧k t.1 t.2=some x:=by
 refine ar (ub h) fun op e h=>?_;refine ar (ub h) fun b e1 h=>?_;refine xA (un h) fun c h=>?_;refine ar (ok.e q h) fun t e2 h=>?_;refine ar (ok.e q h) fun u e3 h=>?_;refine ar (ub h) fun w e4 h=>?_;exact⟨_,bd e (bd e1 ((cf c).trans (bd e2 (bd e3 (md e4))))),h⟩
theorem uw(q:bk lo lo'){a:Expr}{l u:Option Expr}{p:Pos}{k:KV ρ}(h:vK P R sc lo a l u p H k=some x):∃t,uv P r sc lo' a l u p H=some t∧k t.1 t.2=some x:=by
 refine ar (ok.e q h) fun t e h=>?_;refine ar (ub h) fun w e1 h=>?_;refine ar (vO (fun{a H k}h=>ok.e q h) h) fun y e2 h=>?_;refine ar (vO (fun{a H k}h=>ok.e q h) h) fun z e3 h=>?_;refine ar (ub h) fun xs e4 h=>?_;refine xA (ui h) fun c h=>?_;refine ar (bU h) fun v e5 h=>?_;exact⟨v,bd e (bd e1 (bd e2 (bd e3 (bd e4 ((if_pos c).trans e5))))),h⟩
include C
theorem Ej(q:bk lo lo'){e:Expr}{k:KV ρ}(h:Jc W T P calK R sc lo e H k=some x):∃t,K0 P cal r sc lo' e H=some t∧k t.1 t.2=some x:=by
 have okE:∀⦃a H⦄⦃k:KV ρ⦄,R.e sc lo a H k=some x→∃t,r.e sc lo' a H=some t∧k t.1 t.2=some x:=fun{a H k}h=>ok.e q h;cases e with
 |Constant c _ _=>obtain⟨v,e,h⟩:=ub h;exact⟨_,md e,h⟩
 |Name y _=>obtain⟨v,e,h⟩:=ub h;exact⟨_,md (EW q e),h⟩
 |UnaryOp op a _=>
  cases op with
  |USub=>
   refine ar (ok.e q h) fun t e h=>?_;refine ar (ub h) fun i e1 h=>?_;exact⟨_,bd e (md e1),h⟩
  |Not=>
   refine ar (ok.e q h) fun t e h=>?_;refine ar (ub h) fun i e1 h=>?_;exact⟨_,bd e (md e1),h⟩
  |_=>first|exact ns h|cases h
 |BoolOp op es _=>exact wt okE h
 |IfExp c a b _=>
  obtain⟨⟨t,H1⟩,e,h⟩:=ok.t q h;cases t with
  |true=>obtain⟨u,e1,h⟩:=ok.e q h;exact⟨u,bd e ((if_pos rfl).trans e1),h⟩
  |false=>obtain⟨u,e1,h⟩:=ok.e q h;exact⟨u,bd e ((if_neg NG).trans e1),h⟩
 |BinOp a op b p=>
  refine ar (ok.e q h) fun t e h=>?_;refine ar (ok.e q h) fun u e1 h=>?_;refine ar (AP h) fun v e2 h=>?_;exact⟨v,bd e (bd e1 e2),h⟩
 |Compare a ops bs _=>obtain⟨t,e,h⟩:=rn ok q h;exact⟨_,md e,h⟩
 |Attribute a y _=>
  refine xA (uc h) fun c h=>?_;refine ar (ok.e q h) fun t e h=>?_;refine ar (ub h) fun v e1 h=>?_;exact⟨_,(cb c).trans (bd e (md e1)),h⟩
 |Subscript a i p=>
  change cond _ _ _=_ at h
  cases c:isSlice i with
  |true=>
   rw[c]at h;refine ar (ub h) fun s e h=>?_;refine ar (uw ok q h) fun t e1 h=>?_;exact⟨t,(cb c).trans (bd e e1),h⟩
  |false=>
   rw[c]at h;refine ar (ok.e q h) fun t e h=>?_;refine ar (ok.e q h) fun u e1 h=>?_;refine ar (r9 h) fun v e2 h=>?_;exact⟨_,(cf c).trans (bd e (bd e1 (md e2))),h⟩
 |Tuple es _ _=>
  refine ar (hC okE h) fun t e h=>?_;refine xA (uc h) fun c h=>?_;exact⟨_,bd e (if_pos (OV c)),h⟩
 |List es p=>
  refine ar (hC okE h) fun t e h=>?_;refine ar (bU h) fun v e1 h=>?_;exact⟨v,bd e e1,h⟩
 |Dict ks es p=>
  refine ar (ub h) fun xs e h=>?_;refine ar (hC okE h) fun t e1 h=>?_;refine xA (ui h) fun c h=>?_;refine ar (g8 h) fun v e2 h=>?_;exact⟨v,bd e (bd e1 ((if_pos c).trans e2)),h⟩
 |Call f args ks p=>
  refine ar (ub h) fun u e h=>?_;cases c:AI f with
  |none=>
   rw[c]at h;refine ar (ok.e q h) fun t e1 h=>?_;refine ar (hC okE h) fun u e2 h=>?_;refine ar (yV C h) fun v e3 h=>?_;exact⟨v,bd e (by refine aa c ?_;exact bd e1 (bd e2 e3)),h⟩
  |some a=>
   rw[c]at h;refine xA (uc h) fun c1 h=>?_;refine ar (ok.e q h) fun t e1 h=>?_;refine ar (zo h) fun mf e2 h=>?_;refine ar (hC okE h) fun u e3 h=>?_;refine ar (zm C h) fun v e4 h=>?_;exact⟨v,bd e (by refine aa c ?_;exact(cb c1).trans (bd e1 (bd e2 (bd e3 e4)))),h⟩
 |ListComp elt gens csc p=>
  refine xA (uc h) fun c h=>?_;refine ar (ub h) fun g e h=>?_;refine ar (ok.e q h) fun t e1 h=>?_;refine ar (lG h) fun I e2 h=>?_;refine JX (mN (f:=compTurn r csc elt gens) (fun{v acc lo lo' H k}q h=>iS ok q h) (Et q) h) fun u e3 _ _ h=>?_;refine ar (bU h) fun v e4 h=>?_;exact⟨v,(cb c).trans (bd e (bd e1 (bd e2 (bd e3 e4)))),h⟩
 |_=>first|exact ns h|cases h
omit C
theorem Em(q:bk lo lo'){e:Expr}{k:KB ρ}(h:Jd R sc lo e H k=some x):∃t,K1 r sc lo' e H=some t∧k t.1 t.2=some x:=by
 have val:∀{e:Expr},mQ R sc lo e H k=some x→∃t,uy r sc lo' e H=some t∧k t.1 t.2=some x:=fun{e}h=>by
  refine ar (ok.e q h) fun t e1 h=>?_;refine ar (ub h) fun b e2 h=>?_;exact⟨_,bd e1 (md e2),h⟩
 cases e with
 |UnaryOp op a _=>
  cases op with
  |Not=>obtain⟨t,e,h⟩:=ok.t q h;exact⟨_,md e,h⟩
  |_=>first|exact ns h|cases h
 |BoolOp op es _=>exact k9 (fun{a H k}h=>ok.t q h) h
 |Compare a ops bs _=>exact rn ok q h
 |Name y p=>exact val h
 |Call f as ks p=>exact val h
 |Attribute a y p=>exact val h
 |Subscript a i p=>exact val h
 |Constant c j p=>exact val h
 |_=>first|exact ns h|cases h
theorem Ew(q:bk lo lo'){tg:Expr}{op:Operator}{e:Expr}{kn kb:KX ρ}{kr:AV→KX ρ}(h:Jj T R sc lo tg op e H kn=some x):∃t,ME P r sc lo' tg op e H=some t∧Sel kn kb kr t x:=by
 cases tg with
 |Name y _=>
  refine xA (uc h) fun c h=>?_;refine ar (ub h) fun a e1 h=>?_
  replace e1:=q _ _ e1
  refine ar (ub h) fun i e2 h=>?_;refine ar (ok.e q h) fun t e3 h=>?_;refine ar (ub h) fun j e4 h=>?_;refine ar (ub h) fun n e5 h=>?_;exact⟨_,(cb c).trans (bd e1 (bd e2 (bd e3 (bd e4 (md e5))))),_,gM q,h⟩
 |Subscript o i _=>
  refine xA (un h) fun c h=>?_;refine ar (ok.e q h) fun u e1 h=>?_;refine ar (ok.e q h) fun w e2 h=>?_;refine ar (r9 h) fun a e3 h=>?_;refine ar (ub h) fun y e4 h=>?_;refine ar (ok.e q h) fun t e5 h=>?_;refine ar (ub h) fun z e6 h=>?_;refine xA (ui h) fun c2 h=>?_;refine ar (rW h) fun H' e7 h=>?_;exact⟨_,(cf c).trans (bd e1 (bd e2 (bd e3 (bd e4 (bd e5 (bd e6 ((if_pos c2).trans (md e7)))))))),_,q,h⟩
 |_=>first|exact ns h|cases h
theorem DS(q:bk lo lo'){tg e:Expr}{kn kb:KX ρ}{kr:AV→KX ρ}(h:ID P R sc lo tg e H kn=some x):∃t,Mv P r sc lo' tg e H=some t∧Sel kn kb kr t x:=by
 cases tg with
 |Name y _=>
  refine xA (un h) fun c h=>?_;refine ar (ok.e q h) fun t e1 h=>?_;rw[Bool.or_eq_false_iff,Bool.not_eq_false']at c;exact⟨_,(cf c.1).trans (bd e1 (md (if_pos c.2))),_,gM q,h⟩
 |Tuple ts _ _=>
  refine ar (ub h) fun xy e1 h=>?_;refine ar (ub h) fun y e2 h=>?_;refine ar (ub h) fun z e3 h=>?_;refine xA (un h) fun c h=>?_;refine ar (ok.e q h) fun t e4 h=>?_;refine ar (ub h) fun l e5 h=>?_;refine ar (ub h) fun vw e6 h=>?_;rw[Bool.or_eq_false_iff,Bool.not_eq_false']at c;exact⟨_,bd e1 (bd e2 (bd e3 ((cf c.1).trans (bd e4 (bd e5 (bd e6 (if_pos c.2))))))),_,gM (gM q),h⟩
 |Attribute o y _=>
  refine ar (ok.e q h) fun t e1 h=>?_;refine ar (ok.e q h) fun u e2 h=>?_;refine ar (Cu h) fun H' e3 h=>?_;exact⟨_,bd e1 (bd e2 (md e3)),_,q,h⟩
 |Subscript o i _=>
  refine ar (ok.e q h) fun t e1 h=>?_;refine ar (ok.e q h) fun u e2 h=>?_;refine ar (ok.e q h) fun w e3 h=>?_;refine ar (rW h) fun H' e4 h=>?_;exact⟨_,bd e1 (bd e2 (bd e3 (md e4))),_,q,h⟩
 |_=>first|exact ns h|cases h
theorem En(q:bk lo lo'){s:Stmt}{kn kb:KX ρ}{kr:AV→KX ρ}(h:Je W T P R sc lo s H kn kb kr=some x):∃t,K2 P r sc lo' s H=some t∧Sel kn kb kr t x:=by
 cases s with
 |Pass _=>exact⟨_,rfl,_,q,h⟩
 |Break _=>exact⟨_,rfl,_,q,h⟩
 |Return e _=>
  cases e with
  |none=>exact⟨_,rfl,_,q,h⟩
  |some e=>obtain⟨t,e1,h⟩:=ok.e q h;exact⟨_,md e1,_,q,h⟩
 |Expr e _=>
  refine xA (un h) fun c h=>?_;refine ar (ok.e q h) fun t e1 h=>?_;exact⟨_,(cf c).trans (md e1),_,q,h⟩
 |Assign ts e _=>
  refine ar (ub h) fun tg e1 h=>?_;obtain⟨t,e2,h⟩:=DS ok q h;exact⟨t,bd e1 e2,h⟩
 |AugAssign tg op e _=>exact Ew ok q h
 |If c a b _=>
  obtain⟨⟨t,H1⟩,e1,h⟩:=ok.t q h;cases t with
  |true=>obtain⟨u,e2,h⟩:=hE (gK:=R.x sc) (g:=r.x sc) (fun{lo lo' s H kn kb kr}q h=>ok.x q h) q h;exact⟨u,bd e1 ((if_pos rfl).trans e2),h⟩
  |false=>obtain⟨u,e2,h⟩:=hE (gK:=R.x sc) (g:=r.x sc) (fun{lo lo' s H kn kb kr}q h=>ok.x q h) q h;exact⟨u,bd e1 ((if_neg NG).trans e2),h⟩
 |While c body els _=>
  refine ar (ub h) fun u e1 h=>?_;obtain⟨t,e2,h⟩:=Fs (tK:=fun lo H k=>R.t sc lo c H k) (fK:=fun lo H kn kb kr=>mq (R.x sc) kb kr body lo H kn) (t:=fun lo H=>r.t sc lo c H) (f:=ru (r.x sc) body) (fun{lo lo' H k}q h=>ok.t q h) (fun{lo lo' H kn kb kr}q h=>hE (gK:=R.x sc) (g:=r.x sc) (fun{lo lo' s H kn kb kr}q h=>ok.x q h) q h) q h;exact⟨t,bd e1 e2,h⟩
 |For tg it body els _=>
  refine ar (ub h) fun u e1 h=>?_;refine ar (ub h) fun y e2 h=>?_;refine xA (uc h) fun c h=>?_;refine ar (ok.e q h) fun t e3 h=>?_;refine ar (lG h) fun I e4 h=>?_;obtain⟨t,e5,h⟩:=za (fK:=fun v lo H kn kb kr=>mq (R.x sc) kb kr body (pt y v lo) H kn) (f:=fun v lo H=>ru (r.x sc) body (pt y v lo) H) (fun{v lo lo' H kn kb kr}q h=>hE (gK:=R.x sc) (g:=r.x sc) (fun{lo lo' s H kn kb kr}q h=>ok.x q h) (gM q) h) q h;exact⟨_,bd e1 (bd e2 ((cb c).trans (bd e3 (bd e4 e5)))),h⟩
 |_=>first|exact ns h|cases h
end
theorem vN{W:Rp}{T:zL}{P:PT}{calK:iG}{cal:je}(C:kM calK cal):∀d,Ii (uD W T P calK d) (Ek P cal d)
 |0=>⟨fun{ρ sc lo lo' e H k x}_ h=>(nomatch h),fun{ρ sc lo lo' e H k x}_ h=>(nomatch h),fun{ρ sc lo lo' s H kn kb kr x}_ h=>(nomatch h)⟩
 |d+1=>have ih:=vN (W:=W) (T:=T) (P:=P) C d;⟨fun{ρ sc lo lo' e H k x}q h=>Ej ih C q h,fun{ρ sc lo lo' e H k x}q h=>Em ih q h,fun{ρ sc lo lo' s H kn kb kr x}q h=>En ih q h⟩
theorem bk.refl(a:Lo):bk a a:=fun _ _ h=>h
theorem r8{W:Rp}{T:zL}{P:PT}{calK:iG}{n:Nat}(C:kM calK (ib P n)):kM ⟨dy W T P calK⟩ (ib P (n+1)):=⟨fun{ρ k args H K x}h=>by
 refine ar (ub h) fun g e h=>?_;cases g with
 |fn f=>
  refine ar (ub h) fun lo e1 h=>?_;obtain⟨⟨a,lo1,H1⟩,e2,l,q,h⟩:=hE (gK:=(uD W T P calK iw).x f.scope) (g:=(Ek P (ib P n) iw).x f.scope) (fun{lo lo' s H kn kb kr}q h=>(vN C iw).x q h) (bk.refl lo) h;cases a with
  |next=>exact⟨_,bd e (bd e1 (bd e2 rfl)),h⟩
  |brk=>first|exact ns h|cases h
  |ret v=>exact⟨_,bd e (bd e1 (bd e2 rfl)),h⟩
 |cls c=>
  refine ar (ub h) fun i e1 h=>?_;refine ar (g8 h) fun d e2 h=>?_;refine ar (ub h) fun w e3 h=>?_;refine ar (g8 h) fun o e4 h=>?_;refine ar (C.c h) fun t e5 h=>?_;refine ar (ub h) fun u e6 h=>?_;exact⟨_,bd e (bd e1 (bd e2 (bd e3 (bd e4 (bd e5 (md e6)))))),h⟩⟩
inductive HK where
 |fix (v:AV)|bool|loc (r:Nat)
inductive OT where
 |L|E|D (t:List (Str×HK))|I (c:Nat) (t:List (Str×HK))|N (c r i:Nat)
noncomputable abbrev DT:List (Str×HK)→Type
 |[]=>Unit
 |(_,.fix _)::l=>DT l
 |(_,.bool)::l=>Bool×DT l
 |(_,.loc _)::l=>Nat×DT l
noncomputable def zh:(l:List (Str×HK))→DT l→Lo
 |[],_=>[]
 |(x,.fix v)::l,t=>(x,v)::zh l t
 |(x,.bool)::l,t=>(x,.bool t.1)::zh l t.2
 |(x,.loc r)::l,t=>(x,.loc r t.1)::zh l t.2
theorem nb{G:Prop}(h:false=true):G:=Bool.noConfusion h
theorem oa{α:Type}{o:Option α}{p:α→Bool}(h:o.any p=true):∃b,o=some b∧p b=true:=by
 cases o with
 |none=>exact nb h
 |some b=>exact⟨b,rfl,h⟩
def Jo(v w:AV):Bool:=match v with
 |.none=>(match w with|.none=>true|_=>false)
 |.bool a=>w.b?.any (a==·)
 |.int a=>w.i?.any fun b=>decide (a=b)
 |.str a=>w.s?.any (a==·)
 |.loc a b=>w.l?.any fun q=>Nat.beq a q.1&&Nat.beq b q.2
 |.gl a=>(match w with|.gl c=>Nat.beq a c|_=>false)
 |_=>false
theorem IJ{v:AV}{b:Bool}(h:v.b?=some b):v=.bool b:=by cases v<;>first|exact ns h|(revert h;refine aJ fun h=>?_;subst h);rfl
theorem EE{v w:AV}(h:Jo v w=true):v=w:=by
 cases v<;>first
  |exact nb h
  |exact ar (oa h) fun b e q=>by exact aa (IJ e) (aa (eq_of_beq q) rfl)
  |exact ar (oa h) fun b e q=>by exact aa (F5 e) (aa (of_decide_eq_true q) rfl)
  |exact ar (oa h) fun b e q=>by exact aa (zw e) (aa (eq_of_beq q) rfl)
  |exact ar (oa h) fun b e q=>by exact aa (sx e) (aa (NR (Nt.mp q).1) (aa (NR (Nt.mp q).2) rfl))
  |cases w<;>first|exact nb h|rfl|exact congrArg _ (NR h)
noncomputable def Ie:(l:List (Str×HK))→Lo→Option (DT l)
 |[],[]=>some ()
 |[],_::_=>.none
 |_::_,[]=>.none
 |(x,.fix v)::l,(y,w)::m=>cond (x==y&&Jo v w) (Ie l m) .none
 |(x,.bool)::l,(y,w)::m=>cond (x==y) (w.b?.bind fun b=>(Ie l m).bind fun t=>some (b,t)) .none
 |(x,.loc r)::l,(y,w)::m=>cond (x==y) (w.l?.bind fun q=>cond (Nat.beq q.1 r) ((Ie l m).bind fun t=>some (q.2,t)) .none) .none
theorem l_:∀{l:List (Str×HK)}{m:Lo}{t:DT l},Ie l m=some t→m=zh l t
 |[],[],_=>fun _=>rfl
 |[],_::_,_=>fun h=>by cases h
 |(x,.fix v)::l,[],_=>fun h=>by cases h
 |(x,.bool)::l,[],_=>fun h=>by cases h
 |(x,.loc r)::l,[],_=>fun h=>by cases h
 |(x,.fix v)::l,(y,w)::m,t=>fun h=>by
  refine xA (uc h) fun c h=>?_;have c:=Nt.mp c;refine bR (eq_of_beq c.1) (bR (EE c.2) ?_);exact aa (l_ h) rfl
 |(x,.bool)::l,(y,w)::m,t=>fun h=>by
  refine xA (uc h) fun c h=>?_;refine ar (ub h) fun b e h=>?_;refine ar (ub h) fun u e1 h=>?_;revert h;refine nv fun h q1=>?_;subst h q1;refine bR (eq_of_beq c) ?_;refine aa (IJ e) (aa (l_ e1) ?_);rfl
 |(x,.loc r)::l,(y,w)::m,t=>fun h=>by
  refine xA (uc h) fun c h=>?_;refine ar (ub h) fun q e h=>?_;refine xA (uc h) fun c1 h=>?_;refine ar (ub h) fun u e1 h=>?_;revert h;refine aJ fun h=>?_;refine bR h ?_;refine bR (eq_of_beq c) ?_;refine aa (sx e) (aa (NR c1) (aa (l_ e1) ?_));rfl
noncomputable abbrev HT:List OT→Type
 |[]=>Unit
 |.L::l=>List AV×HT l
 |.E::l=>HT l
 |.D t::l=>DT t×HT l
 |.I _ t::l=>DT t×HT l
 |.N _ _ _::l=>HT l
noncomputable def zi:(l:List OT)→HT l→List AO
 |[],_=>[]
 |.L::l,t=>.list t.1::zi l t.2
 |.E::l,t=>.list []::zi l t
 |.D d::l,t=>.dict (zh d t.1)::zi l t.2
 |.I c d::l,t=>.dZ c (zh d t.1)::zi l t.2
 |.N c r i::l,t=>.inst c r i::zi l t
noncomputable def AO.i?(c:Nat):AO→Option Lo
 |.dZ c' l=>cond (Nat.beq c c') (some l) .none
 |_=>.none
noncomputable def M3(c r i:Nat)(o:AO):Bool:=o.n?.any fun t=>Nat.beq c t.1&&(Nat.beq r t.2.1&&Nat.beq i t.2.2)
theorem K6{o:AO}{c:Nat}{l:Lo}(h:o.i? c=some l):o=.dZ c l:=by
 cases o<;>first
  |exact ns h
  |exact xA (uc h) fun a b=>by clear h;revert b;refine aJ fun b=>?_;subst b;exact aa (NR a) rfl
noncomputable def HQ:(l:List OT)→List AO→Option (HT l)
 |[],[]=>some ()
 |[],_::_=>.none
 |_::_,[]=>.none
 |.L::l,o::m=>o.l?.bind fun a=>(HQ l m).bind fun t=>some (a,t)
 |.E::l,o::m=>o.l?.bind fun a=>(f7 a).bind fun _=>HQ l m
 |.D d::l,o::m=>o.d?.bind fun a=>(Ie d a).bind fun b=>(HQ l m).bind fun t=>some (b,t)
 |.I c d::l,o::m=>(o.i? c).bind fun a=>(Ie d a).bind fun b=>(HQ l m).bind fun t=>some (b,t)
 |.N c r i::l,o::m=>cond (M3 c r i o) (HQ l m) .none
theorem jJ:∀{l:List OT}{m:List AO}{t:HT l},HQ l m=some t→m=zi l t
 |[],[],_=>fun _=>rfl
 |[],_::_,_=>fun h=>by exact cZ h
 |.L::l,[],_=>fun h=>by exact cZ h
 |.E::l,[],_=>fun h=>by exact cZ h
 |.D d::l,[],_=>fun h=>by exact cZ h
 |.I c d::l,[],_=>fun h=>by exact cZ h
 |.N c r i::l,[],_=>fun h=>by exact cZ h
 |.L::l,o::m,t=>fun h=>by
  refine ar (ub h) fun a e h=>?_;refine ar (ub h) fun u e1 h=>?_;revert h;refine nv fun h q1=>?_;subst h q1;refine aa (jJ e1) (aa (AO.sx e) ?_);rfl
 |.E::l,o::m,t=>fun h=>by
  refine ar (ub h) fun a e h=>?_;refine ar (ub h) fun u e1 h=>?_;refine aa (jJ h) (aa (AO.sx e) (aa (ik e1) ?_));rfl
 |.D d::l,o::m,t=>fun h=>by
  refine ar (ub h) fun a e h=>?_;refine ar (ub h) fun b e1 h=>?_;refine ar (ub h) fun u e2 h=>?_;revert h;refine nv fun h q1=>?_;subst h q1;refine aa (jJ e2) (aa (AO.MY e) (aa (l_ e1) ?_));rfl
 |.I c d::l,o::m,t=>fun h=>by
  refine ar (ub h) fun a e h=>?_;refine ar (ub h) fun b e1 h=>?_;refine ar (ub h) fun u e2 h=>?_;revert h;refine nv fun h q1=>?_;subst h q1;refine aa (jJ e2) (aa (K6 e) (aa (l_ e1) ?_));rfl
 |.N c r i::l,o::m,t=>fun h=>by
  refine xA (uc h) fun c0 h=>?_;refine ar (oa c0) fun q e c0=>?_;refine aa (jJ h) (aa (AO.MI e) ?_);refine bR (NR (Nt.mp c0).1) (bR (NR (Nt.mp (Nt.mp c0).2).1) (bR (NR (Nt.mp (Nt.mp c0).2).2) ?_));rfl
structure St where
 (dg kinds spaces names attrs texts parents chil stk fmt aq:List AV)
 free:Bool
 (mnames mattrs mkids merrs:List AV)
 (mopen mlist:Nat)
 ig:Bool
 (r1 r2 r3 r4 r5 r6 r7:List AO)
noncomputable abbrev St.MP (s:St) (x:List AV):St:={s with dg:=x}
noncomputable abbrev St.kK (s:St) (x:List AV):St:={s with kinds:=x}
noncomputable abbrev St.i_ (s:St) (x:List AV):St:={s with spaces:=x}
noncomputable abbrev St.kL (s:St) (x:List AV):St:={s with names:=x}
noncomputable abbrev St.kJ (s:St) (x:List AV):St:={s with attrs:=x}
noncomputable abbrev St.gf (s:St) (x:List AV):St:={s with texts:=x}
noncomputable abbrev St.aZ (s:St) (x:List AV):St:={s with parents:=x}
noncomputable abbrev St.o4 (s:St) (x:List AV):St:={s with chil:=x}
noncomputable abbrev St.ec (s:St) (x:List AV):St:={s with stk:=x}
noncomputable abbrev St.cc (s:St) (x:List AV):St:={s with fmt:=x}
noncomputable abbrev St.b_ (s:St) (x:List AV):St:={s with aq:=x}
noncomputable abbrev St.HS (s:St) (x:Bool):St:={s with free:=x}
noncomputable abbrev St.bH (s:St) (x:List AV):St:={s with mnames:=x}
noncomputable abbrev St.bS (s:St) (x:List AV):St:={s with mattrs:=x}
noncomputable abbrev St.cz (s:St) (x:List AV):St:={s with mkids:=x}
noncomputable abbrev St.aX (s:St) (x:List AV):St:={s with merrs:=x}
noncomputable abbrev St.cA (s:St) (x:Nat):St:={s with mopen:=x}
noncomputable abbrev St.dS (s:St) (x:Nat):St:={s with mlist:=x}
noncomputable abbrev St.wK (s:St) (x:Bool):St:={s with ig:=x}
noncomputable abbrev St.Fp (s:St) (x:List AO):St:={s with r1:=x}
noncomputable abbrev St.gq (s:St) (x:List AO):St:={s with r2:=x}
noncomputable abbrev St.jK (s:St) (x:List AO):St:={s with r3:=x}
noncomputable abbrev St.d5 (s:St) (x:List AO):St:={s with r4:=x}
noncomputable abbrev St.iE (s:St) (x:List AO):St:={s with r5:=x}
noncomputable abbrev St.bt (s:St) (x:List AO):St:={s with r6:=x}
noncomputable abbrev St.aB (s:St) (x:List AO):St:={s with r7:=x}
noncomputable def fx(x:Str)(v:AV):Str×HK:=(x,.fix v)
noncomputable def JT:List OT:=[.L,.D [fx "in body" (.gl 64)],
 .I 53 [fx "rules" (.loc 0 1),fx "tree" (.loc 0 5),fx "stack" (.loc 0 15),fx "formatting" (.loc 0 18),fx "mode" (.str "in body"),fx "original" (.str ""),fx "modes" (.loc 0 20),fx "head" (.int 2),fx "form" (.int (-1)),fx "owners" (.loc 0 21),
  ("is_frameset_ok",.bool),fx "is_scripting" (.bool false),fx "is_foster" (.bool false),fx "context" (.int (-1)),fx "quirks" (.str "no-quirks"),fx "errors" (.loc 0 22),fx "pending" (.loc 0 23),fx "wish" (.str ""),fx "is_skipping" (.bool false),fx "is_acknowledged" (.bool false),fx "is_done" (.bool false)],
 .N 53 0 2,
 .I 50 [fx "kinds" (.loc 0 6),fx "spaces" (.loc 0 7),fx "names" (.loc 0 8),fx "attrs" (.loc 0 9),fx "texts" (.loc 0 10),fx "parents" (.loc 0 11),fx "children" (.loc 0 12),fx "contents" (.loc 0 13)],
 .N 50 0 4,.L,.L,.L,.L,.L,.L,.L,.D [],.I 23 [fx "tree" (.loc 0 5),fx "items" (.loc 0 16)],.N 23 0 14,.L,.I 47 [fx "tree" (.loc 0 5),fx "items" (.loc 0 19)],.N 47 0 17,.L,.E,.D [],.L,.E,
 .L,.L,.L,.L,.D [fx "names" (.loc 0 24),fx "attrs" (.loc 0 25),fx "kids" (.loc 0 26),("open",.loc 5),("list",.loc 6),fx "errors" (.loc 0 27),("free",.bool)]]
noncomputable def M5(t:HT JT)(r1 r2 r3 r4 r5 r6 r7:List AO):St:=
 t.casesOn fun dg t=>t.casesOn fun _ t=>t.casesOn fun u t=>u.casesOn fun free u=>t.casesOn fun _ t=>t.casesOn fun kinds t=>t.casesOn fun spaces t=>t.casesOn fun names t=>t.casesOn fun attrs t=>t.casesOn fun texts t=>t.casesOn fun parents t=>t.casesOn fun chil t=>t.casesOn fun _ t=>t.casesOn fun _ t=>t.casesOn fun stk t=>t.casesOn fun _ t=>t.casesOn fun fmt t=>t.casesOn fun _ t=>t.casesOn fun aq t=>t.casesOn fun mnames t=>t.casesOn fun mattrs t=>t.casesOn fun mkids t=>t.casesOn fun merrs t=>t.casesOn fun u t=>u.casesOn fun mopen u=>u.casesOn fun mlist u=>u.casesOn fun ig u=>
  ⟨dg,kinds,spaces,names,attrs,texts,parents,chil,stk,fmt,aq,free,mnames,mattrs,mkids,merrs,mopen,mlist,ig,r1,r2,r3,r4,r5,r6,r7⟩
noncomputable def aw(s:St):AH:=[[.list s.dg,.dict [("in body",.gl 64)],
 .dZ 53 [("rules",.loc 0 1),("tree",.loc 0 5),("stack",.loc 0 15),("formatting",.loc 0 18),("mode",.str "in body"),("original",.str ""),("modes",.loc 0 20),("head",.int 2),("form",.int (-1)),("owners",.loc 0 21),
  ("is_frameset_ok",.bool s.free),("is_scripting",.bool false),("is_foster",.bool false),("context",.int (-1)),("quirks",.str "no-quirks"),("errors",.loc 0 22),("pending",.loc 0 23),("wish",.str ""),("is_skipping",.bool false),("is_acknowledged",.bool false),("is_done",.bool false)],
 .inst 53 0 2,
 .dZ 50 [("kinds",.loc 0 6),("spaces",.loc 0 7),("names",.loc 0 8),("attrs",.loc 0 9),("texts",.loc 0 10),("parents",.loc 0 11),("children",.loc 0 12),("contents",.loc 0 13)],
 .inst 50 0 4,.list s.kinds,.list s.spaces,.list s.names,.list s.attrs,.list s.texts,.list s.parents,.list s.chil,.dict [],.dZ 23 [("tree",.loc 0 5),("items",.loc 0 16)],.inst 23 0 14,.list s.stk,
 .dZ 47 [("tree",.loc 0 5),("items",.loc 0 19)],.inst 47 0 17,.list s.fmt,.list [],.dict [],.list s.aq,.list [],
 .list s.mnames,.list s.mattrs,.list s.mkids,.list s.merrs,.dict [("names",.loc 0 24),("attrs",.loc 0 25),("kids",.loc 0 26),("open",.loc 5 s.mopen),("list",.loc 6 s.mlist),("errors",.loc 0 27),("free",.bool s.ig)]],
 s.r1,s.r2,s.r3,s.r4,s.r5,s.r6,s.r7]
noncomputable def u1(l:AH):Option (List AO×AH):=match l with
 |[]=>.none
 |a::r=>some (a,r)
theorem j8{l:AH}{p:List AO×AH}(h:u1 l=some p):l=p.1::p.2:=by
 cases l with
 |nil=>exact ns h
 |cons=>revert h;refine aJ fun h=>?_;subst h;rfl
def Ig(H:AH):Option St:=(u1 H).bind fun p0=>(u1 p0.2).bind fun p1=>(u1 p1.2).bind fun p2=>(u1 p2.2).bind fun p3=>(u1 p3.2).bind fun p4=>(u1 p4.2).bind fun p5=>(u1 p5.2).bind fun p6=>(u1 p6.2).bind fun p7=>
 (f7 p7.2).bind fun _=>(HQ JT p0.1).bind fun t=>some (M5 t p1.1 p2.1 p3.1 p4.1 p5.1 p6.1 p7.1)
theorem CU{H:AH}{s:St}(h:Ig H=some s):H=aw s:=by
 revert h;refine aO fun p0 e0=>aO fun p1 e1=>aO fun p2 e2=>aO fun p3 e3=>aO fun p4 e4=>aO fun p5 e5=>aO fun p6 e6=>aO fun p7 e7=>aO fun _ e8=>aO fun t e h=>?_;refine aa (j8 e0) (aa (j8 e1) (aa (j8 e2) (aa (j8 e3) (aa (j8 e4) (aa (j8 e5) (aa (j8 e6) (aa (j8 e7) (aa (ik e8) (aa (jJ e) ?_)))))))));revert h;refine aJ fun h=>?_;subst h;rfl
def RR:Rp:=⟨St,aw,Ig,CU⟩
theorem Kw(s:St):Ig (aw s)=some s:=by rfl
noncomputable def TT:zL:=fun r i=>match r with
 |0=>cond (Nat.beq i 0||(Nat.beq i 11||(Nat.beq i 16||Nat.beq i 19))) .int (cond (Nat.beq i 9) (.loc 1) (cond (Nat.beq i 12) (.loc 2) (cond (Nat.beq i 25) (.loc 3) (cond (Nat.beq i 26) (.loc 4) (cond (Nat.beq i 22) .raw .str)))))
 |1=>.pair
 |2=>.int
 |3=>.pair
 |5=>.int
 |6=>.int
 |100=>cond (Nat.beq i 664012||(Nat.beq i 665014||(Nat.beq i 666042||(Nat.beq i 780030||(Nat.beq i 783032||(Nat.beq i 779033||Nat.beq i 782035)))))) .str (cond (Nat.beq i 668011) .tup (cond (Nat.beq i 662053) .int .raw))
 |_=>.raw
end Hx
namespace Hx
open PySem
abbrev Ku (ρ:Type):=Unit→St→Option ρ
abbrev Kb (ρ:Type):=Bool→St→Option ρ
abbrev Ki (ρ:Type):=Int→St→Option ρ
noncomputable abbrev q (s:String):Str:=Str.ofString s
variable{ρ:Type}
def mC(K:Kb ρ)(p0:Str)(p1:St):Option ρ:=
 K (decide (q "mi"=p0)||(decide (q "mo"=p0)||(decide (q "mn"=p0)||(decide (q "ms"=p0)||(decide (q "mtext"=p0)||(decide (q "annotation-xml"=p0)||false)))))) p1
def yo(p0:Str)(K:Kb ρ)(p1:Str)(p2:St):Option ρ:=
 bif decide (p0=q "list item")then K (decide (q "ol"=p1)||(decide (q "ul"=p1)||false)) p2 else bif decide (p0=q "button")then K (decide (p1=q "button")) p2 else K (decide (p0=q "button")) p2
def yp(p0:Str)(K:Kb ρ)(p1:St)(p2:Str):Option ρ:=
 bif decide (q "applet"=p0)||(decide (q "caption"=p0)||(decide (q "html"=p0)||(decide (q "table"=p0)||(decide (q "td"=p0)||(decide (q "th"=p0)||(decide (q "marquee"=p0)||(decide (q "object"=p0)||(decide (q "template"=p0)||false))))))))then K true p1 else yo p2 K p0 p1
def yq(p0:Str)(K:Kb ρ)(p1:Str)(p2:St)(p3:Str):Option ρ:=
 bif decide (p0=q "math")then mC K p1 p2 else bif decide (p0=q "svg")then K (decide (q "foreignObject"=p1)||(decide (q "desc"=p1)||(decide (q "title"=p1)||false))) p2 else yp p1 K p2 p3
def yr(p0 p1:Str)(K:Kb ρ)(p2:Str)(p3:St):Option ρ:=
 bif decide (p0=q "table")then bif decide (p1=q "html")then K (decide (q "html"=p2)||(decide (q "table"=p2)||(decide (q "template"=p2)||false))) p3 else K (decide (p1=q "html")) p3 else yq p1 K p2 p3 p0
def yt(p0 p1:Str)(K:Kb ρ)(p2:St)(p3:Str):Option ρ:=
 bif decide (p0=q "select")then bif !decide (p1=q "html")then K (!decide (p1=q "html")) p2 else K (!(decide (q "optgroup"=p3)||(decide (q "option"=p3)||false))) p2 else yr p0 p1 K p3 p2
def iL(n:Int)(sort:Str)(st:St)(K:Kb ρ):Option ρ:=
 (ai st.spaces (AV.int n)).bind fun x0=>x0.s?.bind fun x1=>(ai st.names (AV.int n)).bind fun x2=>x2.s?.bind fun x3=>yt sort x1 K st x3
def qS(K:Kb ρ)(p0:Str)(p1:St):Option ρ:=
 K (decide (q "address"=p0)||(decide (q "applet"=p0)||(decide (q "area"=p0)||(decide (q "article"=p0)||(decide (q "aside"=p0)||(decide (q "base"=p0)||(decide (q "basefont"=p0)||(decide (q "bgsound"=p0)||(decide (q "blockquote"=p0)||(decide (q "body"=p0)||(decide (q "br"=p0)||(decide (q "button"=p0)||(decide (q "caption"=p0)||(decide (q "center"=p0)||(decide (q "col"=p0)||(decide (q "colgroup"=p0)||(decide (q "dd"=p0)||(decide (q "details"=p0)||(decide (q "dir"=p0)||(decide (q "div"=p0)||(decide (q "dl"=p0)||(decide (q "dt"=p0)||(decide (q "embed"=p0)||(decide (q "fieldset"=p0)||(decide (q "figcaption"=p0)||(decide (q "figure"=p0)||(decide (q "footer"=p0)||(decide (q "form"=p0)||(decide (q "frame"=p0)||(decide (q "frameset"=p0)||(decide (q "h1"=p0)||(decide (q "h2"=p0)||(decide (q "h3"=p0)||(decide (q "h4"=p0)||(decide (q "h5"=p0)||(decide (q "h6"=p0)||(decide (q "head"=p0)||(decide (q "header"=p0)||(decide (q "hgroup"=p0)||(decide (q "hr"=p0)||(decide (q "html"=p0)||(decide (q "iframe"=p0)||(decide (q "img"=p0)||(decide (q "input"=p0)||(decide (q "keygen"=p0)||(decide (q "li"=p0)||(decide (q "link"=p0)||(decide (q "listing"=p0)||(decide (q "main"=p0)||(decide (q "marquee"=p0)||(decide (q "menu"=p0)||(decide (q "meta"=p0)||(decide (q "nav"=p0)||(decide (q "noembed"=p0)||(decide (q "noframes"=p0)||(decide (q "noscript"=p0)||(decide (q "object"=p0)||(decide (q "ol"=p0)||(decide (q "p"=p0)||(decide (q "param"=p0)||(decide (q "plaintext"=p0)||(decide (q "pre"=p0)||(decide (q "script"=p0)||(decide (q "search"=p0)||(decide (q "section"=p0)||(decide (q "select"=p0)||(decide (q "source"=p0)||(decide (q "style"=p0)||(decide (q "summary"=p0)||(decide (q "table"=p0)||(decide (q "tbody"=p0)||(decide (q "td"=p0)||(decide (q "template"=p0)||(decide (q "textarea"=p0)||(decide (q "tfoot"=p0)||(decide (q "th"=p0)||(decide (q "thead"=p0)||(decide (q "title"=p0)||(decide (q "tr"=p0)||(decide (q "track"=p0)||(decide (q "ul"=p0)||(decide (q "wbr"=p0)||(decide (q "xmp"=p0)||false))))))))))))))))))))))))))))))))))))))))))))))))))))))))))))))))))))))))))))))))))) p1
def qT(p0:Str)(K:Kb ρ)(p1:Str)(p2:St):Option ρ:=
 bif decide (p0=q "svg")then K (decide (q "foreignObject"=p1)||(decide (q "desc"=p1)||(decide (q "title"=p1)||false))) p2 else bif decide (p0=q "html")then qS K p1 p2 else K (decide (p0=q "html")) p2
def eC(sp nm:Str)(st:St)(K:Kb ρ):Option ρ:=
 bif decide (sp=q "math")then mC K nm st else qT sp K nm st
def ku(nm:Str)(st:St)(K:Kb ρ):Option ρ:=
 K (decide (q "a"=nm)||(decide (q "b"=nm)||(decide (q "big"=nm)||(decide (q "code"=nm)||(decide (q "em"=nm)||(decide (q "font"=nm)||(decide (q "i"=nm)||(decide (q "nobr"=nm)||(decide (q "s"=nm)||(decide (q "small"=nm)||(decide (q "strike"=nm)||(decide (q "strong"=nm)||(decide (q "tt"=nm)||(decide (q "u"=nm)||false)))))))))))))) st
def kQ(nm:Str)(st:St)(K:Kb ρ):Option ρ:=
 K (decide (q "applet"=nm)||(decide (q "marquee"=nm)||(decide (q "object"=nm)||false))) st
def z7(p0:Str)(p1:St)(K:Str→St→Option ρ):Option ρ:=
 ku p0 p1 fun b0 b1=>bif b0 then K (q "in body: formats") b1 else bif decide (q "applet"=p0)||(decide (q "marquee"=p0)||(decide (q "object"=p0)||false))then K (q "in body: formats") b1 else K (q "in body: others") b1
def z8(p0:Str)(K:Str→St→Option ρ)(p1:St):Option ρ:=
 bif decide (q "h1"=p0)||(decide (q "h2"=p0)||(decide (q "h3"=p0)||(decide (q "h4"=p0)||(decide (q "h5"=p0)||(decide (q "h6"=p0)||false)))))then K (q "in body: blocks") p1 else z7 p0 p1 K
def tV(nm:Str)(st:St)(K:Str→St→Option ρ):Option ρ:=
 bif decide (q "address"=nm)||(decide (q "article"=nm)||(decide (q "aside"=nm)||(decide (q "blockquote"=nm)||(decide (q "button"=nm)||(decide (q "center"=nm)||(decide (q "dd"=nm)||(decide (q "details"=nm)||(decide (q "dialog"=nm)||(decide (q "dir"=nm)||(decide (q "div"=nm)||(decide (q "dl"=nm)||(decide (q "dt"=nm)||(decide (q "fieldset"=nm)||(decide (q "figcaption"=nm)||(decide (q "figure"=nm)||(decide (q "footer"=nm)||(decide (q "form"=nm)||(decide (q "header"=nm)||(decide (q "hgroup"=nm)||(decide (q "li"=nm)||(decide (q "listing"=nm)||(decide (q "main"=nm)||(decide (q "menu"=nm)||(decide (q "nav"=nm)||(decide (q "ol"=nm)||(decide (q "p"=nm)||(decide (q "pre"=nm)||(decide (q "search"=nm)||(decide (q "section"=nm)||(decide (q "summary"=nm)||(decide (q "ul"=nm)||false)))))))))))))))))))))))))))))))then K (q "in body: blocks") st else z8 nm K st
def yn(p0:Str)(K:Str→St→Option ρ)(p1:St):Option ρ:=
 bif decide (q "hr"=p0)||(decide (q "plaintext"=p0)||(decide (q "table"=p0)||(decide (q "xmp"=p0)||false)))then K (q "in body: blocks") p1 else tV p0 p1 fun b0 b1=>K b0 b1
def vp(nm:Str)(st:St)(K:Str→St→Option ρ):Option ρ:=
 bif decide (q "base"=nm)||(decide (q "basefont"=nm)||(decide (q "bgsound"=nm)||(decide (q "body"=nm)||(decide (q "frameset"=nm)||(decide (q "html"=nm)||(decide (q "link"=nm)||(decide (q "meta"=nm)||(decide (q "noframes"=nm)||(decide (q "script"=nm)||(decide (q "style"=nm)||(decide (q "template"=nm)||(decide (q "title"=nm)||false))))))))))))then K (q "in body: plain") st else yn nm K st
def vn(nm:Str)(st:St)(K:Str→St→Option ρ):Option ρ:=
 bif decide (q "body"=nm)||(decide (q "html"=nm)||(decide (q "template"=nm)||false))then K (q "in body: plain") st else tV nm st fun x0 s1=>K x0 s1
def s_(p0:AV)(p1:St)(p2:Int)(K:Kb ρ)(p3:Str):Option ρ:=
 p0.s?.bind fun b0=>bif decide (b0=q "html")then(ai p1.names (AV.int p2)).bind fun b1=>b1.s?.bind fun b2=>K (decide (b2=p3)) p1 else K (decide (b0=q "html")) p1
def kP(n:Int)(nm:Str)(st:St)(K:Kb ρ):Option ρ:=
 bif !decide (n=-1)then(ai st.spaces (AV.int n)).bind fun x0=>s_ x0 st n K nm else K (!decide (n=-1)) st
def yl(p0:St)(p1:Int)(K:Str→St→Option ρ):Option ρ:=
 (ai p0.spaces (AV.int p1)).bind fun b0=>b0.s?.bind fun b1=>bif !decide (b1=q "html")then K (q "") p0 else(ai p0.names (AV.int p1)).bind fun b2=>b2.s?.bind fun b3=>K b3 p0
def ym(p0:St)(K:Str→St→Option ρ):Option ρ:=
 if p0.stk.length<ab then(ai p0.stk (AV.int ((↑p0.stk.length:Int)-1))).bind fun b0=>b0.i?.bind fun b1=>bif decide (b1=-1)then K (q "") p0 else yl p0 b1 K else none
def fU(st:St)(K:Str→St→Option ρ):Option ρ:=
 if st.stk.length<ab then bif decide ((↑st.stk.length:Int)=0)then K (q "") st else ym st K else none
def nI(p0:St)(p1:Str)(p2:List AV×PUnit)(K:Ki ρ)(p3:Nat→List AV×PUnit→St→Option ρ)(p4:Nat):Option ρ:=
 if p0.stk.length<ab then p0.stk.getLast?.bind fun b0=>b0.i?.bind fun b1=>(bg (AV.str p1) p2.1).bind fun b2=>bif b2 then K b1 (p0.ec p0.stk.dropLast)else p3 (p4+1) (p2.1,()) (p0.ec p0.stk.dropLast)else none
def fS(l:List AV)(st:St)(K:Ki ρ):Option ρ:=
 bK (fun go0 j1 t2 s3=>if s3.stk.length<ab then bif decide (0<(↑s3.stk.length:Int))then fU s3 fun x4 s5=>nI s5 x4 t2 K go0 j1 else K (-1) s3 else none) (cD cg) 0 (l,()) st
def pz(p0:Str)(p1:List AV×Str×PUnit)(K:Kb ρ)(p2:St)(p3:Int)(p4:Nat→List AV×Str×PUnit→St→Option ρ)(p5:Nat):Option ρ:=
 (bg (AV.str p0) p1.1).bind fun b0=>bif b0 then K true p2 else iL p3 p1.2.1 p2 fun b1 b2=>bif b1 then K false b2 else p4 (p5+1) (p1.1,p1.2.1,()) b2
def pB(p0:Str)(p1:St)(p2:Int)(p3:List AV×Str×PUnit)(K:Kb ρ)(p4:Nat→List AV×Str×PUnit→St→Option ρ)(p5:Nat):Option ρ:=
 bif decide (p0=q "html")then(ai p1.names (AV.int p2)).bind fun b0=>b0.s?.bind fun b1=>pz b1 p3 K p1 p2 p4 p5 else iL p2 p3.2.1 p1 fun b2 b3=>bif b2 then K false b3 else p4 (p5+1) (p3.1,p3.2.1,()) b3
def pC(p0:AV)(p1:St)(p2:List AV×Str×PUnit)(K:Kb ρ)(p3:Nat→List AV×Str×PUnit→St→Option ρ)(p4:Nat):Option ρ:=
 p0.i?.bind fun b0=>(ai p1.stk (AV.int b0)).bind fun b1=>b1.i?.bind fun b2=>(ai p1.spaces (AV.int b2)).bind fun b3=>b3.s?.bind fun b4=>pB b4 p1 b2 p2 K p3 p4
def pD(p0:St)(K:Kb ρ)(p1:List AV)(p2:Str):Option ρ:=
 bK (fun b0 b1 b2 b3=>bz (aH ((↑p0.stk.length:Int)-1) (-1) (-1))[b1]? (K false b3) fun b4=>pC b4 b3 b2 K b0 b1) (cD ((aH ((↑p0.stk.length:Int)-1) (-1) (-1)).length+1)) 0 (p1,p2,()) p0
def dz(l:List AV)(sort:Str)(st:St)(K:Kb ρ):Option ρ:=
 if st.stk.length<ab then if(small ((↑st.stk.length:Int)-1)&&true)=true then if(small ((↑st.stk.length:Int)-1)&&true&&true)=true then pD st K l sort else none else none else none
def tS(p0:St)(p1:Int)(p2:Int×Str×PUnit)(K:Kb ρ)(p3:Nat→Int×Str×PUnit→St→Option ρ)(p4:Nat):Option ρ:=
 (ai p0.stk (AV.int p1)).bind fun b0=>b0.i?.bind fun b1=>iL b1 p2.2.1 p0 fun b2 b3=>bif b2 then K false b3 else p3 (p4+1) (p2.1,p2.2.1,()) b3
def tT(p0:St)(p1:Nat)(K:Kb ρ)(p2:St)(p3:Int×Str×PUnit)(p4:Nat→Int×Str×PUnit→St→Option ρ):Option ρ:=
 bz (aH ((↑p0.stk.length:Int)-1) (-1) (-1))[p1]? (K false p2) fun b0=>b0.i?.bind fun b1=>(ai p2.stk (AV.int b1)).bind fun b2=>b2.i?.bind fun b3=>bif decide (b3=p3.1)then K true p2 else tS p2 b1 p3 K p4 p1
def tU(p0:St)(K:Kb ρ)(p1:Int)(p2:Str):Option ρ:=
 bK (fun b0 b1 b2 b3=>tT p0 b1 K b3 b2 b0) (cD ((aH ((↑p0.stk.length:Int)-1) (-1) (-1)).length+1)) 0 (p1,p2,()) p0
def iJ(n:Int)(sort:Str)(st:St)(K:Kb ρ):Option ρ:=
 if st.stk.length<ab then if(small ((↑st.stk.length:Int)-1)&&true)=true then if(small ((↑st.stk.length:Int)-1)&&true&&true)=true then tU st K n sort else none else none else none
def tW(p0:St)(p1:Nat→Str×List AV×PUnit→St→Option ρ)(p2:Nat)(p3:Str×List AV×PUnit):Option ρ:=
 bif decide ((↑p0.stk.length:Int)=0)then p1 (p2+1) (p3.1,p3.2.1,()) p0 else if p0.stk.length<ab then p0.stk.getLast?.bind fun b0=>b0.i?.bind fun b1=>p1 (p2+1) (p3.1,p3.2.1,()) (p0.ec p0.stk.dropLast)else none
def tX(p0:Str)(p1:Str×List AV×PUnit)(p2:St)(p3:Nat→Str×List AV×PUnit→St→Option ρ)(p4:Nat)(K:Ku ρ):Option ρ:=
 (bg (AV.str p0) p1.2.1).bind fun b0=>bif b0 then fU p2 fun b1 b2=>bif !decide (b1=p1.1)then if b2.stk.length<ab then tW b2 p3 p4 p1 else none else K () b2 else K () p2
def fu(but:Str)(st:St)(K:Ku ρ):Option ρ:=
 bK (fun go0 j1 t2 s3=>fU s3 fun x4 s5=>tX x4 t2 s5 go0 j1 K) (cD cg) 0 (but,[AV.str (q "dd"),AV.str (q "dt"),AV.str (q "li"),AV.str (q "optgroup"),AV.str (q "option"),AV.str (q "p"),AV.str (q "rb"),AV.str (q "rp"),AV.str (q "rt"),AV.str (q "rtc")],()) st
def jQ(p0:St)(p1:Nat→Int×PUnit→St→Option ρ)(p2:Nat)(p3:Int×PUnit):Option ρ:=
 bif decide ((↑p0.stk.length:Int)=0)then p1 (p2+1) (p3.1,()) p0 else if p0.stk.length<ab then p0.stk.getLast?.bind fun b0=>b0.i?.bind fun b1=>p1 (p2+1) (p3.1,()) (p0.ec p0.stk.dropLast)else none
def qN(p0:Int×PUnit)(p1:St)(p2:Nat→Int×PUnit→St→Option ρ)(p3:Nat)(K:Ku ρ):Option ρ:=
 bif !decide (-1=p0.1)then if p1.stk.length<ab then jQ p1 p2 p3 p0 else none else if p1.stk.length<ab then bif decide ((↑p1.stk.length:Int)=0)then K () p1 else if p1.stk.length<ab then p1.stk.getLast?.bind fun b0=>b0.i?.bind fun b1=>K () (p1.ec p1.stk.dropLast)else none else none
def qO(p0:Int)(p1:Int×PUnit)(p2:St)(p3:Nat→Int×PUnit→St→Option ρ)(p4:Nat)(K:Ku ρ):Option ρ:=
 bif !decide (p0=p1.1)then if p2.stk.length<ab then jQ p2 p3 p4 p1 else none else if p2.stk.length<ab then bif decide ((↑p2.stk.length:Int)=0)then K () p2 else if p2.stk.length<ab then p2.stk.getLast?.bind fun b0=>b0.i?.bind fun b1=>K () (p2.ec p2.stk.dropLast)else none else none
def qP(p0:St)(p1:Int×PUnit)(p2:Nat→Int×PUnit→St→Option ρ)(p3:Nat)(K:Ku ρ):Option ρ:=
 bif decide ((↑p0.stk.length:Int)=0)then qN p1 p0 p2 p3 K else if p0.stk.length<ab then(ai p0.stk (AV.int ((↑p0.stk.length:Int)-1))).bind fun b0=>b0.i?.bind fun b1=>qO b1 p1 p0 p2 p3 K else none
def bG(n:Int)(st:St)(K:Ku ρ):Option ρ:=
 bK (fun go0 j1 t2 s3=>if s3.stk.length<ab then qP s3 t2 go0 j1 K else none) (cD cg) 0 (n,()) st
def sD(p0:Int)(p1:St)(K:Ku ρ):Option ρ:=
 bif !decide (-1=p0)then if p1.aq.length<ab then bG p0 (p1.b_ (p1.aq++[AV.tup [AV.str (q "open-elements"),AV.str (q "in body")]])) fun b0 b1=>K () b1 else none else bG p0 p1 fun b2 b3=>K () b3
def sE(p0 p1:Int)(p2:St)(K:Ku ρ):Option ρ:=
 bif !decide (p0=p1)then if p2.aq.length<ab then bG p1 (p2.b_ (p2.aq++[AV.tup [AV.str (q "open-elements"),AV.str (q "in body")]])) fun b0 b1=>K () b1 else none else bG p1 p2 fun b2 b3=>K () b3
def sF(p0:St)(p1:Int)(K:Ku ρ):Option ρ:=
 bif decide ((↑p0.stk.length:Int)=0)then sD p1 p0 K else if p0.stk.length<ab then(ai p0.stk (AV.int ((↑p0.stk.length:Int)-1))).bind fun b0=>b0.i?.bind fun b1=>sE b1 p1 p0 K else none
def sG(p0 p1:Str)(p2:St)(K:Ku ρ)(p3:Nat→Str×Int×PUnit→St→Option ρ)(p4:Nat)(p5:Str×Int×PUnit):Option ρ:=
 eC p0 p1 p2 fun b0 b1=>bif b0 then if b1.aq.length<ab then K () (b1.b_ (b1.aq++[AV.tup [AV.str (q "unexpected-end-tag"),AV.str (q "in body")]]))else none else p3 (p4+1) (p5.1,p5.2.1-1,()) b1
def sH(p0:Bool)(p1:Str×Int×PUnit)(p2:St)(p3:Int)(K:Ku ρ)(p4:Nat→Str×Int×PUnit→St→Option ρ)(p5:Nat):Option ρ:=
 bif p0 then fu p1.1 p2 fun b0 b1=>if b1.stk.length<ab then sF b1 p3 K else none else(ai p2.spaces (AV.int p3)).bind fun b2=>b2.s?.bind fun b3=>(ai p2.names (AV.int p3)).bind fun b4=>b4.s?.bind fun b5=>sG b3 b5 p2 K p4 p5 p1
def sI(p0:Str×Int×PUnit)(p1:St)(K:Ku ρ)(p2:Nat→Str×Int×PUnit→St→Option ρ)(p3:Nat):Option ρ:=
 bif decide (0≤p0.2.1)then(ai p1.stk (AV.int p0.2.1)).bind fun b0=>b0.i?.bind fun b1=>kP b1 p0.1 p1 fun b2 b3=>sH b2 p0 b3 b1 K p2 p3 else K () p1
def sJ(K:Ku ρ)(p0:Str)(p1:St):Option ρ:=
 bK (fun b0 b1 b2 b3=>sI b2 b3 K b0 b1) (cD cg) 0 (p0,(↑p1.stk.length:Int)-1,()) p1
def dU(nm:Str)(st:St)(K:Ku ρ):Option ρ:=
 if st.stk.length<ab then sJ K nm st else none
def xh(p0:St)(p1:Int)(p2:Str)(K:Ki ρ)(p3:Nat→Int×Int×PUnit→St→Option ρ)(p4:Nat)(p5:Int×Int×PUnit):Option ρ:=
 (ai p0.names (AV.int p1)).bind fun b0=>b0.s?.bind fun b1=>eC p2 b1 p0 fun b2 b3=>bif b2 then K p1 b3 else p3 (p4+1) (p5.1,p5.2.1+1,()) b3
def mz(p0:Int×Int×PUnit)(p1:St)(K:Ki ρ)(p2:Nat→Int×Int×PUnit→St→Option ρ)(p3:Nat):Option ρ:=
 bif decide (p0.2.1<(↑p1.stk.length:Int))then(ai p1.stk (AV.int p0.2.1)).bind fun b0=>b0.i?.bind fun b1=>(ai p1.spaces (AV.int b1)).bind fun b2=>b2.s?.bind fun b3=>xh p1 b1 b3 K p2 p3 p0 else K (-1) p1
def xi(K:Ki ρ)(p0:Int)(p1:Nat)(p2:St):Option ρ:=
 bK (fun b0 b1 b2 b3=>if b3.stk.length<ab then mz b2 b3 K b0 b1 else none) (cD cg) 0 (p0,(↑p1:Int)+1,()) p2
def xj(K:Ki ρ)(p0:Int)(p1:St):Option ρ:=
 bK (fun b0 b1 b2 b3=>if b3.stk.length<ab then mz b2 b3 K b0 b1 else none) (cD cg) 0 (p0,0,()) p1
def ko(n:Int)(st:St)(K:Ki ρ):Option ρ:=
 (bg (AV.int n) st.stk).bind fun x0=>bif x0 then if st.stk.length<ab then(bf st.stk [AV.int n]).bind fun x1=>xi K n x1 st else none else xj K n st
def zP(p0:Int)(K:Ki ρ)(p1:St)(p2:Str×PUnit)(p3:Nat→Str×PUnit→St→Option ρ)(p4:Nat):Option ρ:=
 bif decide (p0=-1)then K (-1) p1 else(ai p1.names (AV.int p0)).bind fun b0=>b0.s?.bind fun b1=>bif decide (b1=p2.1)then K p0 p1 else p3 (p4+1) (p2.1,()) p1
def zQ(p0:St)(p1:Nat)(K:Ki ρ)(p2:St)(p3:Str×PUnit)(p4:Nat→Str×PUnit→St→Option ρ):Option ρ:=
 bz (aH ((↑p0.fmt.length:Int)-1) (-1) (-1))[p1]? (K (-1) p2) fun b0=>b0.i?.bind fun b1=>(ai p2.fmt (AV.int b1)).bind fun b2=>b2.i?.bind fun b3=>zP b3 K p2 p3 p4 p1
def zR(p0:St)(K:Ki ρ)(p1:Str):Option ρ:=
 bK (fun b0 b1 b2 b3=>zQ p0 b1 K b3 b2 b0) (cD ((aH ((↑p0.fmt.length:Int)-1) (-1) (-1)).length+1)) 0 (p1,()) p0
def nH(nm:Str)(st:St)(K:Ki ρ):Option ρ:=
 if st.fmt.length<ab then if(small ((↑st.fmt.length:Int)-1)&&true)=true then if(small ((↑st.fmt.length:Int)-1)&&true&&true)=true then zR st K nm else none else none else none
def cV(n:Int)(st:St)(K:Ku ρ):Option ρ:=
 (bg (AV.int n) st.fmt).bind fun x0=>bif x0 then if st.fmt.length<ab then(bf st.fmt [AV.int n]).bind fun x1=>K () (st.cc (st.fmt.eraseIdx x1))else none else K () st
def qU(p0:St)(p1:Int)(K:Ki ρ):Option ρ:=
 (ai p0.stk (AV.int ((↑p0.stk.length:Int)-1))).bind fun b0=>b0.i?.bind fun b1=>bif !decide (b1=p1)then if p0.aq.length<ab then K p1 (p0.b_ (p0.aq++[AV.tup [AV.str (q "adoption"),AV.str (q "in body")]]))else none else K p1 p0
def qV(p0:St)(p1:Int)(K:Ki ρ):Option ρ:=
 bif decide ((↑p0.stk.length:Int)=0)then bif !decide (-1=p1)then if p0.aq.length<ab then K p1 (p0.b_ (p0.aq++[AV.tup [AV.str (q "adoption"),AV.str (q "in body")]]))else none else K p1 p0 else if p0.stk.length<ab then qU p0 p1 K else none
def qW(p0:Int)(p1:St)(K:Ki ρ):Option ρ:=
 iJ p0 (q "") p1 fun b0 b1=>bif !b0 then if b1.aq.length<ab then K (-1) (b1.b_ (b1.aq++[AV.tup [AV.str (q "adoption"),AV.str (q "in body")]]))else none else if b1.stk.length<ab then qV b1 p0 K else none
def qX(p0:Int)(p1:St)(K:Ki ρ):Option ρ:=
 (bg (AV.int p0) p1.stk).bind fun b0=>bif !b0 then if p1.aq.length<ab then cV p0 (p1.b_ (p1.aq++[AV.tup [AV.str (q "adoption"),AV.str (q "in body")]])) fun b1 b2=>K (-1) b2 else none else qW p0 p1 K
def gX(nm:Str)(st:St)(K:Ki ρ):Option ρ:=
 nH nm st fun x0 s1=>bif decide (x0=-1)then dU nm s1 fun x2 s3=>K (-1) s3 else qX x0 s1 K
noncomputable def kR(n b:Int)(st:St)(K:Ku ρ):Option ρ:=
 none
def wQ(p0 p1:Int)(p2:St)(K:Ku ρ)(p3:Nat→Str×Int×PUnit→St→Option ρ)(p4:Nat)(p5:Str×Int×PUnit):Option ρ:=
 bif decide (p0=-1)then bG p1 p2 fun b0 b1=>cV p1 b1 fun b2 b3=>K () b3 else kR p1 p0 p2 fun b4 b5=>p3 (p4+1) (p5.1,p5.2.1+1,()) b5
def mx(p0:Str×Int×PUnit)(p1:St)(K:Ku ρ)(p2:Nat→Str×Int×PUnit→St→Option ρ)(p3:Nat):Option ρ:=
 bif decide (p0.2.1<8)then gX p0.1 p1 fun b0 b1=>bif decide (b0=-1)then K () b1 else ko b0 b1 fun b2 b3=>wQ b2 b0 b3 K p2 p3 p0 else K () p1
def my(p0:Bool)(p1:St)(K:Ku ρ)(p2:Str):Option ρ:=
 bif !p0 then if p1.stk.length<ab then bif decide ((↑p1.stk.length:Int)=0)then K () p1 else if p1.stk.length<ab then p1.stk.getLast?.bind fun b0=>b0.i?.bind fun b1=>K () (p1.ec p1.stk.dropLast)else none else none else bK (fun b2 b3 b4 b5=>mx b4 b5 K b2 b3) (cD cg) 0 (p2,0,()) p1
def wR(p0:St)(K:Ku ρ)(p1:Str):Option ρ:=
 if p0.stk.length<ab then(ai p0.stk (AV.int ((↑p0.stk.length:Int)-1))).bind fun b0=>b0.i?.bind fun b1=>(bg (AV.int b1) p0.fmt).bind fun b2=>my b2 p0 K p1 else none
def wU(p0 p1:Str)(p2:St)(K:Ku ρ):Option ρ:=
 bif decide (p0=p1)then if p2.stk.length<ab then bif decide ((↑p2.stk.length:Int)=0)then(bg (AV.int (-1)) p2.fmt).bind fun b0=>my b0 p2 K p1 else wR p2 K p1 else none else bK (fun b1 b2 b3 b4=>mx b3 b4 K b1 b2) (cD cg) 0 (p1,0,()) p2
def ed(nm:Str)(st:St)(K:Ku ρ):Option ρ:=
 fU st fun x0 s1=>wU x0 nm s1 K
def eE(n:Int)(st:St)(K:Ku ρ):Option ρ:=
 (bg (AV.int n) st.stk).bind fun x0=>bif x0 then if st.stk.length<ab then(bf st.stk [AV.int n]).bind fun x1=>K () (st.ec (st.stk.eraseIdx x1))else none else K () st
def pf(p0:Bool)(p1:Int)(p2:St)(K:Ku ρ):Option ρ:=
 bif p0 then cV p1 p2 fun b0 b1=>(bg (AV.int p1) b1.stk).bind fun b2=>bif b2 then eE p1 b1 fun b3 b4=>K () b4 else K () b1 else(bg (AV.int p1) p2.stk).bind fun b5=>bif b5 then eE p1 p2 fun b6 b7=>K () b7 else K () p2
def ph(p0:St)(p1:Int)(K:Ku ρ):Option ρ:=
 ed (q "a") (p0.b_ (p0.aq++[AV.tup [AV.str (q "unexpected-start-tag"),AV.str (q "in body")]])) fun b0 b1=>(bg (AV.int p1) b1.fmt).bind fun b2=>pf b2 p1 b1 K
def jg(st:St)(K:Ku ρ):Option ρ:=
 nH (q "a") st fun x0 s1=>bif decide (x0=-1)then K () s1 else if s1.aq.length<ab then ph s1 x0 K else none
def yz(p0:St)(p1:Nat×Nat)(p2:List AV)(p3:Nat)(K:AV→St→Option ρ)(p4:Int×Str×PUnit)(p5:Nat→Int×Str×PUnit→St→Option ρ):Option ρ:=
 ((ae (aw p0) 1 p1.2).bind fun b0=>if b0.length=p2.length then some b0[p3]? else none).bind fun b1=>bz b1 (K AV.none p0) fun b2=>(jX b2).bind fun b3=>bif decide (b3.1=p4.2.1)then K (AV.str b3.2) p0 else p5 (p3+1) (p4.1,p4.2.1,()) p0
def yA(p0:Nat×Nat)(p1:List AV)(K:AV→St→Option ρ)(p2:Int)(p3:Str)(p4:St):Option ρ:=
 bK (fun b0 b1 b2 b3=>yz b3 p0 p1 b1 K b2 b0) (cD (p1.length+1)) 0 (p2,p3,()) p4
def nP(n:Int)(nm:Str)(st:St)(K:AV→St→Option ρ):Option ρ:=
 (ai st.attrs (AV.int n)).bind fun x0=>x0.l?.bind fun x1=>bif x1.1.beq 1 then(ae (aw st) 1 x1.2).bind fun x2=>yA x1 x2 K n nm st else none
def xa(p0:Int×Int×PUnit)(p1:Str×Str)(p2:St)(K:Kb ρ)(p3:Nat→Int×Int×PUnit→St→Option ρ)(p4:Nat):Option ρ:=
 nP p0.2.1 p1.1 p2 fun b0 b1=>(Option.map (fun b2=>!b2) (fg (aw b1) b0 (AV.str p1.2))).bind fun b3=>bif b3 then K false b1 else p3 (p4+1) (p0.1,p0.2.1,()) b1
def xb(p0:St)(p1:Nat×Nat)(p2:List AV)(p3:Nat)(K:Kb ρ)(p4:Int×Int×PUnit)(p5:Nat→Int×Int×PUnit→St→Option ρ):Option ρ:=
 ((ae (aw p0) 1 p1.2).bind fun b0=>if b0.length=p2.length then some b0[p3]? else none).bind fun b1=>bz b1 (K true p0) fun b2=>(jX b2).bind fun b3=>xa p4 b3 p0 K p5 p3
def xc(p0:Nat×Nat)(p1:List AV)(K:Kb ρ)(p2 p3:Int)(p4:St):Option ρ:=
 bK (fun b0 b1 b2 b3=>xb b3 p0 p1 b1 K b2 b0) (cD (p1.length+1)) 0 (p2,p3,()) p4
def xd(p0 p1:List AV)(K:Kb ρ)(p2:St)(p3 p4:Int):Option ρ:=
 bif !decide ((↑p0.length:Int)=(↑p1.length:Int))then K false p2 else(ai p2.attrs (AV.int p3)).bind fun b0=>b0.l?.bind fun b1=>bif b1.1.beq 1 then(ae (aw p2) 1 b1.2).bind fun b2=>xc b1 b2 K p3 p4 p2 else none
def xe(p0:St)(p1:Int)(p2:List AV)(K:Kb ρ)(p3:Int):Option ρ:=
 (ai p0.attrs (AV.int p1)).bind fun b0=>b0.l?.bind fun b1=>bif b1.1.beq 1 then(ae (aw p0) 1 b1.2).bind fun b2=>if b2.length<ab then xd p2 b2 K p0 p3 p1 else none else none
def xf(p0:St)(p1 p2:Int)(K:Kb ρ):Option ρ:=
 (ai p0.attrs (AV.int p1)).bind fun b0=>b0.l?.bind fun b1=>bif b1.1.beq 1 then(ae (aw p0) 1 b1.2).bind fun b2=>if b2.length<ab then xe p0 p2 b2 K p1 else none else none
def xg(p0:St)(p1 p2:Int)(K:Kb ρ):Option ρ:=
 (ai p0.spaces (AV.int p1)).bind fun b0=>b0.s?.bind fun b1=>(ai p0.spaces (AV.int p2)).bind fun b2=>b2.s?.bind fun b3=>bif !decide (b1=b3)then K false p0 else xf p0 p1 p2 K
def nG(a b:Int)(st:St)(K:Kb ρ):Option ρ:=
 (ai st.names (AV.int a)).bind fun x0=>x0.s?.bind fun x1=>(ai st.names (AV.int b)).bind fun x2=>x2.s?.bind fun x3=>bif !decide (x1=x3)then K false st else xg st a b K
def mA(p0:Int×Int×Int×PUnit)(p1:St)(K:Ku ρ):Option ρ:=
 (idx p0.2.2.1 p1.fmt.length).bind fun b0=>p1.fmt[b0]?.bind fun b1=>if(p1.fmt.eraseIdx b0).length<ab then K () ((p1.cc (p1.fmt.eraseIdx b0)).cc (p1.fmt.eraseIdx b0++[AV.int p0.1]))else none
def xH(p0:AV)(p1:Int×Int×Int×PUnit)(p2:St)(p3:Nat→Int×Int×Int×PUnit→St→Option ρ)(p4:Nat)(p5:Int):Option ρ:=
 p0.i?.bind fun b0=>nG b0 p1.1 p2 fun b1 b2=>bif b1 then p3 (p4+1) (p1.1,p1.2.1+1,p5,()) b2 else p3 (p4+1) (p1.1,p1.2.1,p1.2.2.1,()) b2
def xI(p0:Int)(p1:Int×Int×Int×PUnit)(p2:St)(K:Ku ρ)(p3:Int)(p4:Nat→Int×Int×Int×PUnit→St→Option ρ)(p5:Nat):Option ρ:=
 bif decide (p0=-1)then bif decide (3≤p1.2.1)then if p2.fmt.length<ab then if small p1.2.2.1=true then mA p1 p2 K else none else none else if p2.fmt.length<ab then K () (p2.cc (p2.fmt++[AV.int p1.1]))else none else(ai p2.fmt (AV.int p3)).bind fun b0=>xH b0 p1 p2 p4 p5 p3
def xJ(p0:St)(p1:Nat)(p2:Int×Int×Int×PUnit)(p3:St)(K:Ku ρ)(p4:Nat→Int×Int×Int×PUnit→St→Option ρ):Option ρ:=
 bz (aH ((↑p0.fmt.length:Int)-1) (-1) (-1))[p1]? (bif decide (3≤p2.2.1)then if p3.fmt.length<ab then if small p2.2.2.1=true then mA p2 p3 K else none else none else if p3.fmt.length<ab then K () (p3.cc (p3.fmt++[AV.int p2.1]))else none) fun b0=>b0.i?.bind fun b1=>(ai p3.fmt (AV.int b1)).bind fun b2=>b2.i?.bind fun b3=>xI b3 p2 p3 K b1 p4 p1
def xK(p0:St)(K:Ku ρ)(p1:Int):Option ρ:=
 bK (fun b0 b1 b2 b3=>xJ p0 b1 b2 b3 K b0) (cD ((aH ((↑p0.fmt.length:Int)-1) (-1) (-1)).length+1)) 0 (p1,0,-1,()) p0
def dI(n:Int)(st:St)(K:Ku ρ):Option ρ:=
 if st.fmt.length<ab then if(small ((↑st.fmt.length:Int)-1)&&true)=true then if(small ((↑st.fmt.length:Int)-1)&&true&&true)=true then xK st K n else none else none else none
def o9(p0:St):Option ρ:=
 if(p0.parents++[AV.int (-1)]).length<ab then if(p0.chil++[AV.loc 2 p0.r2.length]).length<ab then if(p0.kinds++[AV.str (q "element")]++[AV.str (q "fragment")]).length<ab then none else none else none else none
def o_(p0:St)(p1 p2:Str):Option ρ:=
 if(p0.spaces++[AV.str p1]).length<ab then if(p0.names++[AV.str p2]).length<ab then if(p0.attrs++[AV.loc 1 p0.r1.length]).length<ab then if(p0.texts++[AV.str (q "")]).length<ab then o9 p0 else none else none else none else none
def jL(K:Ki ρ)(p0:St)(p1 p2:Str)(p3:List AV):Option ρ:=
 K ((↑(p0.kinds++[AV.str (q "element")]).length:Int)-1) (((((((((p0.kK (p0.kinds++[AV.str (q "element")])).i_ (p0.spaces++[AV.str p1])).kL (p0.names++[AV.str p2])).Fp (p0.r1++[AO.list p3])).kJ (p0.attrs++[AV.loc 1 p0.r1.length])).gf (p0.texts++[AV.str (q "")])).aZ (p0.parents++[AV.int (-1)])).gq (p0.r2++[AO.list []])).o4 (p0.chil++[AV.loc 2 p0.r2.length]))
def pd(p0:St)(p1 p2:Str)(K:Ki ρ)(p3:List AV):Option ρ:=
 if(p0.kinds++[AV.str (q "element")]).length<ab then bif decide (p1=q "html")then bif decide (p2=q "template")then if(p0.kinds++[AV.str (q "element")]).length<ab then o_ p0 p1 p2 else none else jL K p0 p1 p2 p3 else jL K p0 p1 p2 p3 else none
def fp(nm sp:Str)(at_:List AV)(st:St)(K:Ki ρ):Option ρ:=
 if st.kinds.length<ab then if st.spaces.length<ab then if st.names.length<ab then if at_.length<ab then if st.attrs.length<ab then if st.texts.length<ab then if st.parents.length<ab then if st.chil.length<ab then pd st sp nm K at_ else none else none else none else none else none else none else none else none
def wN(p0:List AV)(p1:St)(p2:Int×Nat×Int×PUnit)(p3:Nat→Int×Nat×Int×PUnit→St→Option ρ)(p4:Nat):Option ρ:=
 if p0.length<ab then(ai p1.parents (AV.int p2.2.2.1)).bind fun b0=>b0.i?.bind fun b1=>p3 (p4+1) (p2.1,p2.2.1,b1,()) (p1.aB (p1.r7.set p2.2.1 (AO.list (p0++[AV.int p2.2.2.1]))))else none
def wO(K:Nat→St→Option ρ)(p0:Int)(p1:St)(p2:Int):Option ρ:=
 bK (fun b0 b1 b2 b3=>bif !decide (b2.2.2.1=-1)then(ae (aw b3) 7 b2.2.1).bind fun b4=>(ae (aw b3) 7 b2.2.1).bind fun b5=>wN b5 b3 b2 b0 b1 else K b2.2.1 b3) (cD cg) 0 (p0,p1.r7.length,p2,()) (p1.aB (p1.r7++[AO.list []]))
def nE(n:Int)(st:St)(K:Nat→St→Option ρ):Option ρ:=
 (ai st.parents (AV.int n)).bind fun x0=>x0.i?.bind fun x1=>wO K n st x1
def sR(K:Ku ρ)(p0:St)(p1:Nat×Nat)(p2:List AV)(p3 p4:Nat)(p5:Nat×Nat)(p6:Nat)(p7:List AV)(p8:Int)(p9:Nat)(p10:Int):Option ρ:=
 K () ((((p0.gq (p0.r2.set p1.2 (AO.list (p2.eraseIdx p3)))).aZ (p0.parents.set p4 (AV.int (-1)))).gq ((p0.r2.set p1.2 (AO.list (p2.eraseIdx p3))).set p5.2 (AO.list (List.take p6 p7++AV.int p8::List.drop p6 p7)))).aZ ((p0.parents.set p4 (AV.int (-1))).set p9 (AV.int p10)))
def sS(p0:Nat)(p1:Int)(p2:St)(p3:Nat)(K:Ku ρ)(p4:Nat×Nat)(p5:List AV)(p6:Nat)(p7:Nat×Nat)(p8:List AV)(p9:Int):Option ρ:=
 if 0≤(↑p0:Int)∧small (↑p0:Int)=true then if small p1=true then(idx p1 (p2.parents.set p3 (AV.int (-1))).length).bind fun b0=>sR K p2 p4 p5 p6 p3 p7 p0 p8 p1 b0 p9 else none else none
def sT(p0:St)(p1:Nat×Nat)(p2:List AV)(p3 p4:Nat)(p5:Nat×Nat)(p6:Nat)(p7:Int)(K:Ku ρ)(p8:Int):Option ρ:=
 (ae (aw ((p0.gq (p0.r2.set p1.2 (AO.list (p2.eraseIdx p3)))).aZ (p0.parents.set p4 (AV.int (-1))))) 2 p5.2).bind fun b0=>if b0.length<ab then sS p6 p7 p0 p4 K p1 p2 p3 p5 b0 p8 else none
def sU(p0:Nat×Nat)(p1:St)(p2:Nat×Nat)(p3:List AV)(p4 p5 p6:Nat)(p7:Int)(K:Ku ρ)(p8:Int):Option ρ:=
 bif p0.1.beq 2 then(ae (aw ((p1.gq (p1.r2.set p2.2 (AO.list (p3.eraseIdx p4)))).aZ (p1.parents.set p5 (AV.int (-1))))) 2 p0.2).bind fun b0=>sT p1 p2 p3 p4 p5 p0 p6 p7 K p8 else none
def sV(p0:List AV)(p1:Int)(p2:St)(p3:Int)(p4:Nat×Nat)(p5:List AV)(p6 p7:Nat)(p8:Int)(K:Ku ρ):Option ρ:=
 if p0.length<ab then(bf p0 [AV.int p1]).bind fun b0=>(ai p2.chil (AV.int p3)).bind fun b1=>b1.l?.bind fun b2=>sU b2 p2 p4 p5 p6 p7 b0 p8 K p3 else none
def sW(p0:St)(p1:Nat×Nat)(p2:List AV)(p3 p4:Nat)(p5:Nat×Nat)(p6 p7 p8:Int)(K:Ku ρ):Option ρ:=
 (ae (aw ((p0.gq (p0.r2.set p1.2 (AO.list (p2.eraseIdx p3)))).aZ (p0.parents.set p4 (AV.int (-1))))) 2 p5.2).bind fun b0=>(ae (aw ((p0.gq (p0.r2.set p1.2 (AO.list (p2.eraseIdx p3)))).aZ (p0.parents.set p4 (AV.int (-1))))) 2 p5.2).bind fun b1=>sV b1 p6 p0 p7 p1 p2 p3 p4 p8 K
def sX(K:Ku ρ)(p0:St)(p1:Nat×Nat)(p2:List AV)(p3 p4:Nat)(p5:Nat×Nat)(p6 p7:List AV)(p8:Int)(p9:Nat)(p10:Int):Option ρ:=
 K () ((((p0.gq (p0.r2.set p1.2 (AO.list (p2.eraseIdx p3)))).aZ (p0.parents.set p4 (AV.int (-1)))).gq ((p0.r2.set p1.2 (AO.list (p2.eraseIdx p3))).set p5.2 (AO.list (List.take p6.length p7++AV.int p8::List.drop p6.length p7)))).aZ ((p0.parents.set p4 (AV.int (-1))).set p9 (AV.int p10)))
def sY(p0:List AV)(p1:Int)(p2:St)(p3:Nat)(K:Ku ρ)(p4:Nat×Nat)(p5:List AV)(p6:Nat)(p7:Nat×Nat)(p8:List AV)(p9:Int):Option ρ:=
 if 0≤(↑p0.length:Int)∧small (↑p0.length:Int)=true then if small p1=true then(idx p1 (p2.parents.set p3 (AV.int (-1))).length).bind fun b0=>sX K p2 p4 p5 p6 p3 p7 p0 p8 p1 b0 p9 else none else none
def sZ(p0:St)(p1:Nat×Nat)(p2:List AV)(p3 p4:Nat)(p5:Nat×Nat)(p6:List AV)(p7:Int)(K:Ku ρ)(p8:Int):Option ρ:=
 (ae (aw ((p0.gq (p0.r2.set p1.2 (AO.list (p2.eraseIdx p3)))).aZ (p0.parents.set p4 (AV.int (-1))))) 2 p5.2).bind fun b0=>if b0.length<ab then sY p6 p7 p0 p4 K p1 p2 p3 p5 b0 p8 else none
def pE(p0:Nat×Nat)(p1:St)(p2:Nat×Nat)(p3:List AV)(p4 p5:Nat)(p6:List AV)(p7:Int)(K:Ku ρ)(p8:Int):Option ρ:=
 bif p0.1.beq 2 then(ae (aw ((p1.gq (p1.r2.set p2.2 (AO.list (p3.eraseIdx p4)))).aZ (p1.parents.set p5 (AV.int (-1))))) 2 p0.2).bind fun b0=>sZ p1 p2 p3 p4 p5 p0 p6 p7 K p8 else none
def pF(p0:Int)(p1:St)(p2:Int)(p3:Nat×Nat)(p4:List AV)(p5 p6:Nat)(p7:Int)(K:Ku ρ)(p8:List AV):Option ρ:=
 bif !decide (p0=-1)then(ai p1.chil (AV.int p2)).bind fun b0=>b0.l?.bind fun b1=>bif b1.1.beq 2 then sW p1 p3 p4 p5 p6 b1 p0 p2 p7 K else none else(ai p1.chil (AV.int p2)).bind fun b2=>b2.l?.bind fun b3=>pE b3 p1 p3 p4 p5 p6 p8 p7 K p2
def pG(p0:St)(p1:Nat×Nat)(p2:List AV)(p3 p4:Nat)(p5:Nat×Nat)(p6 p7 p8:Int)(K:Ku ρ):Option ρ:=
 (ae (aw ((p0.gq (p0.r2.set p1.2 (AO.list (p2.eraseIdx p3)))).aZ (p0.parents.set p4 (AV.int (-1))))) 2 p5.2).bind fun b0=>if b0.length<ab then pF p6 p0 p7 p1 p2 p3 p4 p8 K b0 else none
def pH(p0:Int)(p1:St)(p2:Int)(p3:Nat×Nat)(p4:List AV)(p5:Nat)(p6:Int)(K:Ku ρ):Option ρ:=
 if small p0=true then(idx p0 p1.parents.length).bind fun b0=>(ai p1.chil (AV.int p2)).bind fun b1=>b1.l?.bind fun b2=>bif b2.1.beq 2 then pG p1 p3 p4 p5 b0 b2 p6 p2 p0 K else none else none
def pI(p0:St)(p1:Nat×Nat)(p2 p3 p4:Int)(K:Ku ρ):Option ρ:=
 (ae (aw p0) 2 p1.2).bind fun b0=>(ae (aw p0) 2 p1.2).bind fun b1=>if b1.length<ab then(bf b1 [AV.int p2]).bind fun b2=>pH p2 p0 p3 p1 b1 b2 p4 K else none
def pJ(p0:St)(p1 p2 p3:Int)(K:Ku ρ):Option ρ:=
 (ai p0.parents (AV.int p1)).bind fun b0=>b0.i?.bind fun b1=>(ai p0.chil (AV.int b1)).bind fun b2=>b2.l?.bind fun b3=>bif b3.1.beq 2 then pI p0 b3 p1 p2 p3 K else none
def pK(p0:Int)(p1:St)(K:Ku ρ)(p2:Nat×Nat)(p3:Nat)(p4:List AV)(p5:Int):Option ρ:=
 if small p0=true then(idx p0 p1.parents.length).bind fun b0=>K () ((p1.gq (p1.r2.set p2.2 (AO.list (List.take p3 p4++AV.int p0::List.drop p3 p4)))).aZ (p1.parents.set b0 (AV.int p5)))else none
def pM(p0:St)(p1:Nat×Nat)(p2:Nat)(p3:Int)(K:Ku ρ)(p4:Int):Option ρ:=
 (ae (aw p0) 2 p1.2).bind fun b0=>(ae (aw p0) 2 p1.2).bind fun b1=>if b1.length<ab then if 0≤(↑p2:Int)∧small (↑p2:Int)=true then pK p3 p0 K p1 p2 b1 p4 else none else none
def pN(p0:List AV)(p1:Int)(p2:St)(p3 p4:Int)(K:Ku ρ):Option ρ:=
 if p0.length<ab then(bf p0 [AV.int p1]).bind fun b0=>(ai p2.chil (AV.int p3)).bind fun b1=>b1.l?.bind fun b2=>bif b2.1.beq 2 then pM p2 b2 b0 p4 K p3 else none else none
def pO(p0:AV)(p1:St)(p2 p3 p4:Int)(K:Ku ρ):Option ρ:=
 p0.l?.bind fun b0=>bif b0.1.beq 2 then(ae (aw p1) 2 b0.2).bind fun b1=>(ae (aw p1) 2 b0.2).bind fun b2=>pN b2 p2 p1 p3 p4 K else none
def pP(p0:Int)(p1:St)(K:Ku ρ)(p2:Nat×Nat)(p3 p4:List AV)(p5:Int):Option ρ:=
 if small p0=true then(idx p0 p1.parents.length).bind fun b0=>K () ((p1.gq (p1.r2.set p2.2 (AO.list (List.take p3.length p4++AV.int p0::List.drop p3.length p4)))).aZ (p1.parents.set b0 (AV.int p5)))else none
def pQ(p0:St)(p1:Nat×Nat)(p2:List AV)(p3:Int)(K:Ku ρ)(p4:Int):Option ρ:=
 (ae (aw p0) 2 p1.2).bind fun b0=>(ae (aw p0) 2 p1.2).bind fun b1=>if b1.length<ab then if 0≤(↑p2.length:Int)∧small (↑p2.length:Int)=true then pP p3 p0 K p1 p2 b1 p4 else none else none
def pR(p0:Int)(p1:St)(p2 p3:Int)(K:Ku ρ)(p4:List AV):Option ρ:=
 bif !decide (p0=-1)then(ai p1.chil (AV.int p2)).bind fun b0=>pO b0 p1 p0 p2 p3 K else(ai p1.chil (AV.int p2)).bind fun b1=>b1.l?.bind fun b2=>bif b2.1.beq 2 then pQ p1 b2 p4 p3 K p2 else none
def pS(p0:St)(p1 p2 p3:Int)(K:Ku ρ):Option ρ:=
 (ai p0.chil (AV.int p1)).bind fun b0=>b0.l?.bind fun b1=>bif b1.1.beq 2 then(ae (aw p0) 2 b1.2).bind fun b2=>if b2.length<ab then pR p2 p0 p1 p3 K b2 else none else none
def jN(p0 p1:Int)(K:Ku ρ)(p2:St)(p3:Int):Option ρ:=
 bif decide (p0=p1)then K () p2 else(ai p2.parents (AV.int p1)).bind fun b0=>b0.i?.bind fun b1=>bif !decide (b1=-1)then pJ p2 p1 p3 p0 K else pS p2 p3 p0 p1 K
def pT(p0:AV)(p1:St)(p2 p3:Int)(K:Ku ρ)(p4:Int):Option ρ:=
 p0.l?.bind fun b0=>bif b0.1.beq 2 then(Option.map (fun b1=>!b1) (m9 (aw p1) (AV.int p2) (AV.loc 2 b0.2))).bind fun b2=>bif b2 then none else jN p2 p3 K p1 p4 else none
def pU(p0:St)(p1:Int)(p2:Nat)(p3 p4:Int)(K:Ku ρ):Option ρ:=
 (m9 (aw p0) (AV.int p1) (AV.loc 7 p2)).bind fun b0=>bif b0 then none else bif !decide (p3=-1)then(ai p0.chil (AV.int p4)).bind fun b1=>pT b1 p0 p3 p1 K p4 else jN p3 p1 K p0 p4
def bA(p n b:Int)(st:St)(K:Ku ρ):Option ρ:=
 bif decide (n=p)then none else nE p st fun x0 s1=>pU s1 n x0 b p K
def xM(p0:Int)(p1 p2:Str)(p3:List AV)(p4:St)(K:Ki ρ):Option ρ:=
 bif decide (p0=-1)then fp p1 p2 p3 p4 fun b0 b1=>bA 0 b0 (-1) b1 fun b2 b3=>if b3.stk.length<ab then K b0 (b3.ec (b3.stk++[AV.int b0]))else none else fp p1 p2 p3 p4 fun b4 b5=>bA p0 b4 (-1) b5 fun b6 b7=>if b7.stk.length<ab then K b4 (b7.ec (b7.stk++[AV.int b4]))else none
def xN(p0:St)(p1 p2:Str)(p3:List AV)(K:Ki ρ):Option ρ:=
 bif decide ((↑p0.stk.length:Int)=0)then fp p1 p2 p3 p0 fun b0 b1=>bA 0 b0 (-1) b1 fun b2 b3=>if b3.stk.length<ab then K b0 (b3.ec (b3.stk++[AV.int b0]))else none else if p0.stk.length<ab then(ai p0.stk (AV.int ((↑p0.stk.length:Int)-1))).bind fun b4=>b4.i?.bind fun b5=>xM b5 p1 p2 p3 p0 K else none
def bE(nm:Str)(at_:List AV)(sp:Str)(st:St)(K:Ki ρ):Option ρ:=
 if st.stk.length<ab then xN st nm sp at_ K else none
def yc(p0:Str)(p1:List AV)(p2:St)(p3:Int×PUnit)(p4:Nat→Int×PUnit→St→Option ρ)(p5:Nat):Option ρ:=
 bE p0 p1 (q "html") p2 fun b0 b1=>if small p3.1=true then(idx p3.1 b1.fmt.length).bind fun b2=>p4 (p5+1) (p3.1+1,()) (b1.cc (b1.fmt.set b2 (AV.int b0)))else none
def yd(p0:St)(p1:Int)(p2:Str)(p3:Int×PUnit)(p4:Nat→Int×PUnit→St→Option ρ)(p5:Nat):Option ρ:=
 (ai p0.attrs (AV.int p1)).bind fun b0=>b0.l?.bind fun b1=>bif b1.1.beq 1 then(ae (aw p0) 1 b1.2).bind fun b2=>if b2.length<ab then yc p2 b2 p0 p3 p4 p5 else none else none
def ye(p0:Int×PUnit)(p1:St)(p2:Nat→Int×PUnit→St→Option ρ)(p3:Nat)(K:Ku ρ):Option ρ:=
 bif decide (p0.1<(↑p1.fmt.length:Int))then(ai p1.fmt (AV.int p0.1)).bind fun b0=>b0.i?.bind fun b1=>(ai p1.names (AV.int b1)).bind fun b2=>b2.s?.bind fun b3=>yd p1 b1 b3 p0 p2 p3 else K () p1
def ji(K:Ku ρ)(p0:Int×PUnit)(p1:St):Option ρ:=
 bK (fun b0 b1 b2 b3=>if b3.fmt.length<ab then ye b2 b3 b0 b1 K else none) (cD cg) 0 (p0.1,()) p1
def yf(p0:St)(p1:Int×PUnit)(p2:Nat→Int×PUnit→St→Option ρ)(p3:Nat)(K:Ku ρ):Option ρ:=
 (ai p0.fmt (AV.int (p1.1-1))).bind fun b0=>b0.i?.bind fun b1=>(bg (AV.int b1) p0.stk).bind fun b2=>bif !b2 then p2 (p3+1) (p1.1-1,()) p0 else ji K p1 p0
def yg(p0:Int×PUnit)(p1:St)(p2:Nat→Int×PUnit→St→Option ρ)(p3:Nat)(K:Ku ρ):Option ρ:=
 bif decide (0<p0.1)then(ai p1.fmt (AV.int (p0.1-1))).bind fun b0=>b0.i?.bind fun b1=>bif !decide (b1=-1)then yf p1 p0 p2 p3 K else ji K p0 p1 else ji K p0 p1
def dJ(st:St)(K:Ku ρ):Option ρ:=
 if st.fmt.length<ab then bK (fun go0 j1 t2 s3=>yg t2 s3 go0 j1 K) (cD cg) 0 ((↑st.fmt.length:Int),()) st else none
def nJ(p0:St)(p1:Str)(p2:List AV)(K:Ku ρ):Option ρ:=
 ed (q "nobr") (p0.b_ (p0.aq++[AV.tup [AV.str (q "unexpected-start-tag"),AV.str (q "in body")]])) fun b0 b1=>dJ b1 fun b2 b3=>bE p1 p2 (q "html") b3 fun b4 b5=>dI b4 b5 fun b6 b7=>K () b7
def nK(p0:St)(p1:Str)(p2:List AV)(K:Ku ρ):Option ρ:=
 dz [AV.str (q "nobr")] (q "") p0 fun b0 b1=>bif b0 then if b1.aq.length<ab then nJ b1 p1 p2 K else none else bE p1 p2 (q "html") b1 fun b2 b3=>dI b2 b3 fun b4 b5=>K () b5
def iK(p0:St)(p1:Str)(p2:List AV)(K:Ku ρ):Option ρ:=
 dJ p0 fun b0 b1=>bif decide (p1=q "nobr")then nK b1 p1 p2 K else bE p1 p2 (q "html") b1 fun b2 b3=>dI b2 b3 fun b4 b5=>K () b5
def fV(nm:Str)(at_:List AV)(sl:Bool)(st:St)(K:Ku ρ):Option ρ:=
 bif decide (nm=q "a")then jg st fun x0 s1=>iK s1 nm at_ K else iK st nm at_ K
def eY(nm:Str)(at_:List AV)(sl:Bool)(st:St)(K:Ku ρ):Option ρ:=
 dJ st fun x0 s1=>bE nm at_ (q "html") s1 fun x2 s3=>if s3.fmt.length<ab then K () ((s3.cc (s3.fmt++[AV.int (-1)])).HS false)else none
def xk(p0:St)(K:Ku ρ)(p1:Nat→PUnit→St→Option ρ)(p2:Nat):Option ρ:=
 bif decide (0<(↑p0.fmt.length:Int))then if p0.fmt.length<ab then p0.fmt.getLast?.bind fun b0=>b0.i?.bind fun b1=>bif decide (b1=-1)then K () (p0.cc p0.fmt.dropLast)else p1 (p2+1) () (p0.cc p0.fmt.dropLast)else none else K () p0
def kq(st:St)(K:Ku ρ):Option ρ:=
 bK (fun go0 j1 t2 s3=>if s3.fmt.length<ab then xk s3 K go0 j1 else none) (cD cg) 0 () st
def pj(p0:St)(p1:Str)(K:Ku ρ):Option ρ:=
 if p0.aq.length<ab then fS [AV.str p1] (p0.b_ (p0.aq++[AV.tup [AV.str (q "open-elements"),AV.str (q "in body")]])) fun b0 b1=>kq b1 fun b2 b3=>K () b3 else none
def pq(p0:St)(p1:Str)(K:Ku ρ):Option ρ:=
 fU p0 fun b0 b1=>bif !decide (b0=p1)then pj b1 p1 K else fS [AV.str p1] b1 fun b2 b3=>kq b3 fun b4 b5=>K () b5
def pv(p0:Bool)(p1:St)(K:Ku ρ)(p2:Str):Option ρ:=
 bif !p0 then if p1.aq.length<ab then K () (p1.b_ (p1.aq++[AV.tup [AV.str (q "unexpected-end-tag"),AV.str (q "in body")]]))else none else fu (q "") p1 fun b0 b1=>pq b1 p2 K
def gU(nm:Str)(st:St)(K:Ku ρ):Option ρ:=
 dz [AV.str nm] (q "") st fun x0 s1=>pv x0 s1 K nm
def Ag(K:Ki ρ)(p0:St)(p1:Str):Option ρ:=
 K ((↑(p0.kinds++[AV.str (q "text")]).length:Int)-1) (((((((((p0.kK (p0.kinds++[AV.str (q "text")])).i_ (p0.spaces++[AV.str (q "")])).kL (p0.names++[AV.str (q "")])).Fp (p0.r1++[AO.list []])).kJ (p0.attrs++[AV.loc 1 p0.r1.length])).gf (p0.texts++[AV.str p1])).aZ (p0.parents++[AV.int (-1)])).gq (p0.r2++[AO.list []])).o4 (p0.chil++[AV.loc 2 p0.r2.length]))
def Ah(p0:St)(K:Ki ρ)(p1:Str):Option ρ:=
 if p0.spaces.length<ab then if p0.names.length<ab then if p0.attrs.length<ab then if p0.texts.length<ab then if p0.parents.length<ab then if p0.chil.length<ab then if(p0.kinds++[AV.str (q "text")]).length<ab then Ag K p0 p1 else none else none else none else none else none else none else none
def d7(tx:Str)(st:St)(K:Ki ρ):Option ρ:=
 if st.kinds.length<ab then Ah st K tx else none
def qQ(p0:St)(p1:Int)(p2:Str)(K:Ku ρ):Option ρ:=
 (ai p0.texts (AV.int p1)).bind fun b0=>b0.s?.bind fun b1=>if b1.length+p2.length<ab then if small p1=true then(idx p1 p0.texts.length).bind fun b2=>K () (p0.gf (p0.texts.set b2 (AV.str (b1++p2))))else none else none
def z_(p0:AV)(p1:St)(p2:Int)(p3:Str)(K:Ku ρ):Option ρ:=
 p0.s?.bind fun b0=>bif decide (b0=q "text")then qQ p1 p2 p3 K else d7 p3 p1 fun b1 b2=>bA 0 b1 (-1) b2 fun b3 b4=>K () b4
def Aa(p0:Int)(p1:St)(p2:Str)(K:Ku ρ):Option ρ:=
 bif !decide (p0=-1)then(ai p1.kinds (AV.int p0)).bind fun b0=>z_ b0 p1 p0 p2 K else d7 p2 p1 fun b1 b2=>bA 0 b1 (-1) b2 fun b3 b4=>K () b4
def Ab(p0:AV)(p1:St)(p2:Str)(K:Ku ρ):Option ρ:=
 p0.l?.bind fun b0=>bif b0.1.beq 2 then(ae (aw p1) 2 b0.2).bind fun b1=>(ai b1 (AV.int (-1))).bind fun b2=>b2.i?.bind fun b3=>Aa b3 p1 p2 K else none
def Ac(p0:Bool)(p1:Str)(p2:St)(K:Ku ρ):Option ρ:=
 bif !p0 then d7 p1 p2 fun b0 b1=>bA 0 b0 (-1) b1 fun b2 b3=>K () b3 else(ai p2.chil (AV.int 0)).bind fun b4=>Ab b4 p2 p1 K
def qR(p0:Str)(K:Ku ρ)(p1:St)(p2:Str):Option ρ:=
 bif decide (p0=q "document")then K () p1 else(ai p1.chil (AV.int 0)).bind fun b0=>b0.l?.bind fun b1=>bif b1.1.beq 2 then(dG (aw p1) (AV.loc 2 b1.2)).bind fun b2=>Ac b2 p2 p1 K else none
def Ad(p0:AV)(p1:St)(p2:Int)(p3:Str)(K:Ku ρ)(p4:Int):Option ρ:=
 p0.s?.bind fun b0=>bif decide (b0=q "text")then qQ p1 p2 p3 K else d7 p3 p1 fun b1 b2=>bA p4 b1 (-1) b2 fun b3 b4=>K () b4
def Ae(p0:Int)(p1:St)(p2:Str)(K:Ku ρ)(p3:Int):Option ρ:=
 bif !decide (p0=-1)then(ai p1.kinds (AV.int p0)).bind fun b0=>Ad b0 p1 p0 p2 K p3 else d7 p2 p1 fun b1 b2=>bA p3 b1 (-1) b2 fun b3 b4=>K () b4
def Af(p0:AV)(p1:St)(p2:Str)(K:Ku ρ)(p3:Int):Option ρ:=
 p0.l?.bind fun b0=>bif b0.1.beq 2 then(ae (aw p1) 2 b0.2).bind fun b1=>(ai b1 (AV.int (-1))).bind fun b2=>b2.i?.bind fun b3=>Ae b3 p1 p2 K p3 else none
def yh(p0:Bool)(p1:Str)(p2:St)(p3:Int)(K:Ku ρ):Option ρ:=
 bif !p0 then d7 p1 p2 fun b0 b1=>bA p3 b0 (-1) b1 fun b2 b3=>K () b3 else(ai p2.chil (AV.int p3)).bind fun b4=>Af b4 p2 p1 K p3
def yi(p0:Str)(K:Ku ρ)(p1:St)(p2:Int)(p3:Str):Option ρ:=
 bif decide (p0=q "document")then K () p1 else(ai p1.chil (AV.int p2)).bind fun b0=>b0.l?.bind fun b1=>bif b1.1.beq 2 then(dG (aw p1) (AV.loc 2 b1.2)).bind fun b2=>yh b2 p3 p1 p2 K else none
def yj(p0:Int)(p1:St)(K:Ku ρ)(p2:Str):Option ρ:=
 bif decide (p0=-1)then(ai p1.kinds (AV.int 0)).bind fun b0=>b0.s?.bind fun b1=>qR b1 K p1 p2 else(ai p1.kinds (AV.int p0)).bind fun b2=>b2.s?.bind fun b3=>yi b3 K p1 p0 p2
def yk(p0:St)(K:Ku ρ)(p1:Str):Option ρ:=
 bif decide ((↑p0.stk.length:Int)=0)then(ai p0.kinds (AV.int 0)).bind fun b0=>b0.s?.bind fun b1=>qR b1 K p0 p1 else if p0.stk.length<ab then(ai p0.stk (AV.int ((↑p0.stk.length:Int)-1))).bind fun b2=>b2.i?.bind fun b3=>yj b3 p0 K p1 else none
def jm(sg:Str)(st:St)(K:Ku ρ):Option ρ:=
 if st.stk.length<ab then yk st K sg else none
def pw(p0:AV)(p1:St)(K:Kb ρ):Option ρ:=
 p0.i?.bind fun b0=>bif !decide (b0=-1)then(ai p1.spaces (AV.int b0)).bind fun b1=>b1.s?.bind fun b2=>K (!decide (b2=q "html")) p1 else K (!decide (b0=-1)) p1
def jM(p0:St)(K:Kb ρ):Option ρ:=
 if p0.stk.length<ab then bif decide ((↑p0.stk.length:Int)=0)then K false p0 else if p0.stk.length<ab then(ai p0.stk (AV.int ((↑p0.stk.length:Int)-1))).bind fun b0=>pw b0 p0 K else none else none
def fq(st:St)(K:Kb ρ):Option ρ:=
 if st.stk.length<ab then bif decide ((↑st.stk.length:Int)=1)then jM st K else jM st K else none
def FG(c:Str)(st:St)(K:Ku ρ):Option ρ:=
 dJ st fun x0 s1=>jm c s1 fun x2 s3=>K () s3
noncomputable def eX(n:Int)(st:St)(K:Kb ρ):Option ρ:=
 none
noncomputable def kx(n:Int)(st:St)(K:Kb ρ):Option ρ:=
 none
def yu(p0:St)(K:Kb ρ):Option ρ:=
 (ai p0.stk (AV.int ((↑p0.stk.length:Int)-1))).bind fun b0=>b0.i?.bind fun b1=>kx b1 p0 fun b2 b3=>bif b2 then K b2 b3 else eX b1 b3 fun b4 b5=>K b4 b5
def mD(p0:St)(K:Kb ρ):Option ρ:=
 bif decide ((↑p0.stk.length:Int)=0)then kx (-1) p0 fun b0 b1=>bif b0 then K b0 b1 else eX (-1) b1 fun b2 b3=>K b2 b3 else if p0.stk.length<ab then yu p0 K else none
def nL(c:Str)(st:St)(K:Kb ρ):Option ρ:=
 fq st fun x0 s1=>bif !x0 then K true s1 else if s1.stk.length<ab then bif decide ((↑s1.stk.length:Int)=1)then if s1.stk.length<ab then mD s1 K else none else if s1.stk.length<ab then mD s1 K else none else none
def gV(c:Str)(st:St)(K:Ku ρ):Option ρ:=
 nL c st fun x0 s1=>bif x0 then FG c s1 fun x2 s3=>K () s3 else none
def Dl(p0:Bool)(p1:Str)(p2:St)(K:Ku ρ):Option ρ:=
 bif p0 then ed p1 p2 fun b0 b1=>K () b1 else kQ p1 p2 fun b2 b3=>bif b2 then gU p1 b3 fun b4 b5=>K () b5 else K () b3
def FE(nm:Str)(st:St)(K:Ku ρ):Option ρ:=
 ku nm st fun x0 s1=>Dl x0 nm s1 K
def Dn(p0:Str)(p1:St)(p2:Str)(K:Ku ρ):Option ρ:=
 bif decide (p0=q "in body: plain")then dJ p1 fun b0 b1=>jm p2 b1 fun b2 b3=>K () b3 else dU p2 p1 fun b4 b5=>K () b5
def qJ(nm:Str)(st:St)(K:Ku ρ):Option ρ:=
 vn nm st fun x0 s1=>bif decide (x0=q "in body: formats")then FE nm s1 fun x2 s3=>K () s3 else Dn x0 s1 nm K
def mE(p0:St)(K:Kb ρ):Option ρ:=
 bif decide ((↑p0.stk.length:Int)=0)then K false p0 else if p0.stk.length<ab then(ai p0.stk (AV.int ((↑p0.stk.length:Int)-1))).bind fun b0=>b0.i?.bind fun b1=>K false p0 else none
def nM(nm:Str)(st:St)(K:Kb ρ):Option ρ:=
 fq st fun x0 s1=>bif !x0 then K true s1 else if s1.stk.length<ab then bif decide ((↑s1.stk.length:Int)=1)then if s1.stk.length<ab then mE s1 K else none else if s1.stk.length<ab then mE s1 K else none else none
def eW(nm:Str)(st:St)(K:Ku ρ):Option ρ:=
 nM nm st fun x0 s1=>bif x0 then qJ nm s1 fun x2 s3=>K () s3 else none
def Dm(p0:Bool)(p1:Str)(p2:List AV)(p3:Bool)(p4:St)(K:Ku ρ):Option ρ:=
 bif p0 then fV p1 p2 p3 p4 fun b0 b1=>K () b1 else kQ p1 p4 fun b2 b3=>bif b2 then eY p1 p2 p3 b3 fun b4 b5=>K () b5 else K () b3
def FF(nm:Str)(at_:List AV)(sl:Bool)(st:St)(K:Ku ρ):Option ρ:=
 ku nm st fun x0 s1=>Dm x0 nm at_ sl s1 K
def Dp(p0:Str)(p1:St)(p2:Str)(K:Ku ρ)(p3:List AV):Option ρ:=
 bif decide (p0=q "in body: plain")then dJ p1 fun b0 b1=>jm p2 b1 fun b2 b3=>K () b3 else bE p2 p3 (q "html") p1 fun b4 b5=>K () b5
def qK(nm:Str)(at_:List AV)(sl:Bool)(st:St)(K:Ku ρ):Option ρ:=
 vp nm st fun x0 s1=>bif decide (x0=q "in body: formats")then FF nm at_ sl s1 fun x2 s3=>K () s3 else Dp x0 s1 nm K at_
def yv(p0 p1:Str)(K:Kb ρ)(p2:St):Option ρ:=
 bif decide (p0=q "annotation-xml")then bif decide (p1=q "svg")then K true p2 else eX (-1) p2 fun b0 b1=>K b0 b1 else eX (-1) p2 fun b2 b3=>K b2 b3
def mF(p0:Str)(p1:St)(p2:Str)(K:Kb ρ):Option ρ:=
 bif decide (p0=q "math")then(ai p1.names (AV.int (-1))).bind fun b0=>b0.s?.bind fun b1=>yv b1 p2 K p1 else eX (-1) p1 fun b2 b3=>K b2 b3
def yw(p0:Str)(K:Kb ρ)(p1:St):Option ρ:=
 bif !(decide (q "mglyph"=p0)||(decide (q "malignmark"=p0)||false))then K true p1 else(ai p1.spaces (AV.int (-1))).bind fun b0=>b0.s?.bind fun b1=>mF b1 p1 p0 K
def yx(p0:AV)(p1:Str)(K:Kb ρ)(p2:St)(p3:Int):Option ρ:=
 p0.s?.bind fun b0=>bif decide (b0=q "annotation-xml")then bif decide (p1=q "svg")then K true p2 else eX p3 p2 fun b1 b2=>K b1 b2 else eX p3 p2 fun b3 b4=>K b3 b4
def mG(p0:St)(p1:Int)(p2:Str)(K:Kb ρ):Option ρ:=
 (ai p0.spaces (AV.int p1)).bind fun b0=>b0.s?.bind fun b1=>bif decide (b1=q "math")then(ai p0.names (AV.int p1)).bind fun b2=>yx b2 p2 K p0 p1 else eX p1 p0 fun b3 b4=>K b3 b4
def yy(p0:AV)(p1:St)(p2:Str)(K:Kb ρ):Option ρ:=
 p0.i?.bind fun b0=>kx b0 p1 fun b1 b2=>bif b1 then bif !(decide (q "mglyph"=p2)||(decide (q "malignmark"=p2)||false))then K true b2 else mG b2 b0 p2 K else mG b2 b0 p2 K
def mH(p0:St)(p1:Str)(K:Kb ρ):Option ρ:=
 bif decide ((↑p0.stk.length:Int)=0)then kx (-1) p0 fun b0 b1=>bif b0 then yw p1 K b1 else(ai b1.spaces (AV.int (-1))).bind fun b2=>b2.s?.bind fun b3=>mF b3 b1 p1 K else if p0.stk.length<ab then(ai p0.stk (AV.int ((↑p0.stk.length:Int)-1))).bind fun b4=>yy b4 p0 p1 K else none
def nO(nm:Str)(at_:List AV)(sl:Bool)(st:St)(K:Kb ρ):Option ρ:=
 fq st fun x0 s1=>bif !x0 then K true s1 else if s1.stk.length<ab then bif decide ((↑s1.stk.length:Int)=1)then if s1.stk.length<ab then mH s1 nm K else none else if s1.stk.length<ab then mH s1 nm K else none else none
def xw(p0:Bool)(p1:Str)(p2:List AV)(p3:Bool)(p4:St)(K:Ku ρ):Option ρ:=
 bif p0 then qK p1 p2 p3 p4 fun b0 b1=>bif p3 then if b1.aq.length<ab then K () (b1.b_ (b1.aq++[AV.tup [AV.str (q "non-void-html-element-start-tag-with-trailing-solidus"),AV.str (q "in body")]]))else none else K () b1 else none
def c6(nm:Str)(at_:List AV)(sl:Bool)(st:St)(K:Ku ρ):Option ρ:=
 nO nm at_ sl st fun x0 s1=>xw x0 nm at_ sl s1 K
def xv(p0:Int)(K:Ki ρ)(p1:St):Option ρ:=
 (ai [AV.int 1,AV.int 0,AV.int 7,AV.int 6,AV.int 1,AV.int 14,AV.int 7,AV.int 0,AV.int 2,AV.int 5,AV.int 0,AV.int 2,AV.int 2,AV.int 3,AV.int 9,AV.int 6,AV.int 11,AV.int 12,AV.int 1,AV.int 1,AV.int 15,AV.int 9,AV.int 9,AV.int 7] (AV.int p0)).bind fun b0=>b0.i?.bind fun b1=>K b1 p1
def iI(p:Int)(st:St)(K:Ki ρ):Option ρ:=
 if st.dg.length<ab then bif decide (p<(↑st.dg.length:Int))then(ai st.dg (AV.int p)).bind fun x0=>x0.i?.bind fun x1=>K x1 st else xv p K st else none
def c7(d:Int)(st:St)(K:List AV→St→Option ρ):Option ρ:=
 (ai [AV.tup [],AV.tup [AV.tup [AV.str (q "class"),AV.str (q "x")]],AV.tup [AV.tup [AV.str (q "class"),AV.str (q "x")],AV.tup [AV.str (q "id"),AV.str (q "y")]],AV.tup [AV.tup [AV.str (q "id"),AV.str (q "y")],AV.tup [AV.str (q "class"),AV.str (q "x")]],AV.tup [AV.tup [AV.str (q "class"),AV.str (q "y")]]] (AV.int (d/16%5))).bind fun x0=>x0.t?.bind fun x1=>K x1 st
def zT(p0:List AV)(K:Ki ρ)(p1:St)(p2:List AV×List AV×PUnit)(p3 p4:List AV):Option ρ:=
 (cQ p0).bind fun b0=>(dQ b0).bind fun b1=>K b1 ((p1.aB (p1.r7++[AO.list p2.1])).aB (p1.r7++[AO.list p2.1]++[AO.list (p3++p4)]))
def zU(p0:St)(p1:List AV×List AV×PUnit)(p2 p3:List AV)(K:Ki ρ):Option ρ:=
 (ae (aw ((p0.aB (p0.r7++[AO.list p1.1])).aB (p0.r7++[AO.list p1.1]++[AO.list (p2++p3)]))) 7 (p0.r7++[AO.list p1.1]).length).bind fun b0=>zT b0 K p0 p1 p2 p3
def zV(p0:St)(p1:List AV×List AV×PUnit)(p2:St)(K:Ki ρ):Option ρ:=
 (ae (aw (p0.aB (p0.r7++[AO.list p1.1]))) 7 p2.r7.length).bind fun b0=>(ae (aw (p0.aB (p0.r7++[AO.list p1.1]))) 7 p0.r7.length).bind fun b1=>if(b0++b1).length<ab then zU p0 p1 b0 b1 K else none
def zW(p0:Str)(p1:List AV×List AV×PUnit)(p2:Nat→List AV×List AV×PUnit→St→Option ρ)(p3:Nat)(p4:Int)(p5:St):Option ρ:=
 (bg (AV.str p0) p1.2.1).bind fun b0=>bif b0 then if p1.1.length<ab then p2 (p3+1) (p1.1++[AV.int p4],p1.2.1,()) p5 else none else p2 (p3+1) (p1.1,p1.2.1,()) p5
def zX(p0:St)(p1:Int)(p2:List AV×List AV×PUnit)(p3:Nat→List AV×List AV×PUnit→St→Option ρ)(p4:Nat):Option ρ:=
 (ae (aw p0) 5 p0.mopen).bind fun b0=>(ai b0 (AV.int p1)).bind fun b1=>b1.i?.bind fun b2=>(ai p0.mnames (AV.int b2)).bind fun b3=>b3.s?.bind fun b4=>zW b4 p2 p3 p4 p1 p0
def zY(p0:List AV)(p1:St)(K:Ki ρ)(p2:List AV):Option ρ:=
 bK (fun b0 b1 b2 b3=>bz (aH 0 (↑p0.length:Int) 1)[b1]? (if b2.1.length<ab then zV b3 b2 p1 K else none) fun b4=>b4.i?.bind fun b5=>zX b3 b5 b2 b0 b1) (cD ((aH 0 (↑p0.length:Int) 1).length+1)) 0 ([],p2,()) (p1.aB (p1.r7++[AO.list [AV.int (-1)]]))
def d6(l:List AV)(st:St)(K:Ki ρ):Option ρ:=
 (ae (aw (st.aB (st.r7++[AO.list [AV.int (-1)]]))) 5 st.mopen).bind fun x0=>if x0.length<ab then if small (↑x0.length:Int)=true then if(true&&small (↑x0.length:Int)&&true)=true then zY x0 st K l else none else none else none
def sL(p0:List AV)(K:Ki ρ)(p1:St)(p2:List AV×PUnit)(p3 p4:List AV):Option ρ:=
 (cQ p0).bind fun b0=>(dQ b0).bind fun b1=>K b1 ((p1.aB (p1.r7++[AO.list p2.1])).aB (p1.r7++[AO.list p2.1]++[AO.list (p3++p4)]))
def sM(p0:St)(p1:List AV×PUnit)(p2 p3:List AV)(K:Ki ρ):Option ρ:=
 (ae (aw ((p0.aB (p0.r7++[AO.list p1.1])).aB (p0.r7++[AO.list p1.1]++[AO.list (p2++p3)]))) 7 (p0.r7++[AO.list p1.1]).length).bind fun b0=>sL b0 K p0 p1 p2 p3
def sN(p0:St)(p1:List AV×PUnit)(p2:St)(K:Ki ρ):Option ρ:=
 (ae (aw (p0.aB (p0.r7++[AO.list p1.1]))) 7 p2.r7.length).bind fun b0=>(ae (aw (p0.aB (p0.r7++[AO.list p1.1]))) 7 p0.r7.length).bind fun b1=>if(b0++b1).length<ab then sM p0 p1 b0 b1 K else none
def sO(p0:AV)(p1:List AV×PUnit)(p2:Nat→List AV×PUnit→St→Option ρ)(p3:Nat)(p4:Int)(p5:St):Option ρ:=
 p0.i?.bind fun b0=>bif decide (b0=-1)then if p1.1.length<ab then p2 (p3+1) (p1.1++[AV.int (p4+1)],()) p5 else none else p2 (p3+1) (p1.1,()) p5
def sP(p0:List AV)(p1:Nat)(p2:List AV×PUnit)(p3 p4:St)(K:Ki ρ)(p5:Nat→List AV×PUnit→St→Option ρ):Option ρ:=
 bz (aH 0 (↑p0.length:Int) 1)[p1]? (if p2.1.length<ab then sN p3 p2 p4 K else none) fun b0=>b0.i?.bind fun b1=>(ae (aw p3) 6 p3.mlist).bind fun b2=>(ai b2 (AV.int b1)).bind fun b3=>sO b3 p2 p5 p1 b1 p3
def sQ(p0:List AV)(p1:St)(K:Ki ρ):Option ρ:=
 bK (fun b0 b1 b2 b3=>sP p0 b1 b2 b3 p1 K b0) (cD ((aH 0 (↑p0.length:Int) 1).length+1)) 0 ([],()) (p1.aB (p1.r7++[AO.list [AV.int 0]]))
def gu(st:St)(K:Ki ρ):Option ρ:=
 (ae (aw (st.aB (st.r7++[AO.list [AV.int 0]]))) 6 st.mlist).bind fun x0=>if x0.length<ab then if small (↑x0.length:Int)=true then if(true&&small (↑x0.length:Int)&&true)=true then sQ x0 st K else none else none else none
def cx(nm:Str)(at_:List AV)(st:St)(K:Ki ρ):Option ρ:=
 if st.mnames.length<ab then if st.mnames.length<ab then if at_.length<ab then if st.mattrs.length<ab then if st.mkids.length<ab then(ae (aw (((((st.bH (st.mnames++[AV.str nm])).jK (st.r3++[AO.list at_])).bS (st.mattrs++[AV.loc 3 st.r3.length])).d5 (st.r4++[AO.list []])).cz (st.mkids++[AV.loc 4 st.r4.length]))) 5 st.mopen).bind fun x0=>(ai x0 (AV.int (-1))).bind fun x1=>x1.i?.bind fun x2=>(ai (st.mkids++[AV.loc 4 st.r4.length]) (AV.int x2)).bind fun x3=>x3.l?.bind fun x4=>bif x4.1.beq 4 then(ae (aw (((((st.bH (st.mnames++[AV.str nm])).jK (st.r3++[AO.list at_])).bS (st.mattrs++[AV.loc 3 st.r3.length])).d5 (st.r4++[AO.list []])).cz (st.mkids++[AV.loc 4 st.r4.length]))) 4 x4.2).bind fun x5=>(ae (aw (((((st.bH (st.mnames++[AV.str nm])).jK (st.r3++[AO.list at_])).bS (st.mattrs++[AV.loc 3 st.r3.length])).d5 (st.r4++[AO.list []])).cz (st.mkids++[AV.loc 4 st.r4.length]))) 4 x4.2).bind fun x6=>if x6.length<ab then(ae (aw ((((((st.bH (st.mnames++[AV.str nm])).jK (st.r3++[AO.list at_])).bS (st.mattrs++[AV.loc 3 st.r3.length])).d5 (st.r4++[AO.list []])).cz (st.mkids++[AV.loc 4 st.r4.length])).d5 ((st.r4++[AO.list []]).set x4.2 (AO.list (x6++[AV.int (↑st.mnames.length:Int)]))))) 5 st.mopen).bind fun x7=>(ae (aw ((((((st.bH (st.mnames++[AV.str nm])).jK (st.r3++[AO.list at_])).bS (st.mattrs++[AV.loc 3 st.r3.length])).d5 (st.r4++[AO.list []])).cz (st.mkids++[AV.loc 4 st.r4.length])).d5 ((st.r4++[AO.list []]).set x4.2 (AO.list (x6++[AV.int (↑st.mnames.length:Int)]))))) 5 st.mopen).bind fun x8=>if x8.length<ab then K (↑st.mnames.length:Int) (((((((st.bH (st.mnames++[AV.str nm])).jK (st.r3++[AO.list at_])).bS (st.mattrs++[AV.loc 3 st.r3.length])).d5 (st.r4++[AO.list []])).cz (st.mkids++[AV.loc 4 st.r4.length])).d5 ((st.r4++[AO.list []]).set x4.2 (AO.list (x6++[AV.int (↑st.mnames.length:Int)])))).iE (st.r5.set st.mopen (AO.list (x8++[AV.int (↑st.mnames.length:Int)]))))else none else none else none else none else none else none else none else none
def ky(nm:Str)(j:Nat)(st:St)(K:Ki ρ):Option ρ:=
 if st.mnames.length<ab then if st.mnames.length<ab then(ae (aw (st.bH (st.mnames++[AV.str nm]))) 3 j).bind fun x0=>if x0.length<ab then if st.mattrs.length<ab then if st.mkids.length<ab then(ae (aw (((((st.bH (st.mnames++[AV.str nm])).jK (st.r3++[AO.list x0])).bS (st.mattrs++[AV.loc 3 st.r3.length])).d5 (st.r4++[AO.list []])).cz (st.mkids++[AV.loc 4 st.r4.length]))) 5 st.mopen).bind fun x1=>(ai x1 (AV.int (-1))).bind fun x2=>x2.i?.bind fun x3=>(ai (st.mkids++[AV.loc 4 st.r4.length]) (AV.int x3)).bind fun x4=>x4.l?.bind fun x5=>bif x5.1.beq 4 then(ae (aw (((((st.bH (st.mnames++[AV.str nm])).jK (st.r3++[AO.list x0])).bS (st.mattrs++[AV.loc 3 st.r3.length])).d5 (st.r4++[AO.list []])).cz (st.mkids++[AV.loc 4 st.r4.length]))) 4 x5.2).bind fun x6=>(ae (aw (((((st.bH (st.mnames++[AV.str nm])).jK (st.r3++[AO.list x0])).bS (st.mattrs++[AV.loc 3 st.r3.length])).d5 (st.r4++[AO.list []])).cz (st.mkids++[AV.loc 4 st.r4.length]))) 4 x5.2).bind fun x7=>if x7.length<ab then(ae (aw ((((((st.bH (st.mnames++[AV.str nm])).jK (st.r3++[AO.list x0])).bS (st.mattrs++[AV.loc 3 st.r3.length])).d5 (st.r4++[AO.list []])).cz (st.mkids++[AV.loc 4 st.r4.length])).d5 ((st.r4++[AO.list []]).set x5.2 (AO.list (x7++[AV.int (↑st.mnames.length:Int)]))))) 5 st.mopen).bind fun x8=>(ae (aw ((((((st.bH (st.mnames++[AV.str nm])).jK (st.r3++[AO.list x0])).bS (st.mattrs++[AV.loc 3 st.r3.length])).d5 (st.r4++[AO.list []])).cz (st.mkids++[AV.loc 4 st.r4.length])).d5 ((st.r4++[AO.list []]).set x5.2 (AO.list (x7++[AV.int (↑st.mnames.length:Int)]))))) 5 st.mopen).bind fun x9=>if x9.length<ab then K (↑st.mnames.length:Int) (((((((st.bH (st.mnames++[AV.str nm])).jK (st.r3++[AO.list x0])).bS (st.mattrs++[AV.loc 3 st.r3.length])).d5 (st.r4++[AO.list []])).cz (st.mkids++[AV.loc 4 st.r4.length])).d5 ((st.r4++[AO.list []]).set x5.2 (AO.list (x7++[AV.int (↑st.mnames.length:Int)])))).iE (st.r5.set st.mopen (AO.list (x9++[AV.int (↑st.mnames.length:Int)]))))else none else none else none else none else none else none else none else none
def wV(p0:St)(p1:Int)(p2:Nat→Nat×PUnit→St→Option ρ)(p3:Nat)(p4:Nat×PUnit)(p5:Int):Option ρ:=
 (ae (aw p0) 6 p0.mlist).bind fun b0=>if small p1=true then(idx p1 b0.length).bind fun b1=>p2 (p3+1) (p4.1,()) (p0.bt (p0.r6.set p0.mlist (AO.list (b0.set b1 (AV.int p5)))))else none
def wW(p0:AV)(p1:St)(p2:Str)(p3:Int)(p4:Nat→Nat×PUnit→St→Option ρ)(p5:Nat)(p6:Nat×PUnit):Option ρ:=
 p0.i?.bind fun b0=>(ai p1.mattrs (AV.int b0)).bind fun b1=>b1.l?.bind fun b2=>bif b2.1.beq 3 then ky p2 b2.2 p1 fun b3 b4=>wV b4 p3 p4 p5 p6 b3 else none
def wX(p0:St)(p1 p2:Int)(p3:Nat→Nat×PUnit→St→Option ρ)(p4:Nat)(p5:Nat×PUnit):Option ρ:=
 (ai p0.mnames (AV.int p1)).bind fun b0=>b0.s?.bind fun b1=>(ae (aw p0) 6 p0.mlist).bind fun b2=>(ai b2 (AV.int p2)).bind fun b3=>wW b3 p0 b1 p2 p3 p4 p5
def wY(p0:Int)(p1:List AV)(p2:Nat)(K:Ku ρ)(p3:St)(p4:Nat→Nat×PUnit→St→Option ρ)(p5:Nat×PUnit):Option ρ:=
 bz (aH p0 (↑p1.length:Int) 1)[p2]? (K () p3) fun b0=>b0.i?.bind fun b1=>(ae (aw p3) 6 p3.mlist).bind fun b2=>(ai b2 (AV.int b1)).bind fun b3=>b3.i?.bind fun b4=>wX p3 b4 b1 p4 p2 p5
def wZ(p0:Int)(p1:List AV)(K:Ku ρ)(p2:St)(p3:List AV×PUnit)(p4 p5:List AV):Option ρ:=
 bK (fun b0 b1 b2 b3=>wY p0 p1 b1 K b3 b0 b2) (cD ((aH p0 (↑p1.length:Int) 1).length+1)) 0 (p2.r7.length,()) (((p2.aB (p2.r7++[AO.list p3.1])).aB (p2.r7++[AO.list p3.1]++[AO.list [AV.int 0]])).aB (p2.r7++[AO.list p3.1]++[AO.list [AV.int 0]]++[AO.list (p4++p5)]))
def w6(p0:St)(p1:List AV×PUnit)(p2 p3:List AV)(p4:Int)(K:Ku ρ):Option ρ:=
 (ae (aw (((p0.aB (p0.r7++[AO.list p1.1])).aB (p0.r7++[AO.list p1.1]++[AO.list [AV.int 0]])).aB (p0.r7++[AO.list p1.1]++[AO.list [AV.int 0]]++[AO.list (p2++p3)]))) 6 p0.mlist).bind fun b0=>if b0.length<ab then if(small p4&&small (↑b0.length:Int))=true then if(small p4&&small (↑b0.length:Int)&&true)=true then wZ p4 b0 K p0 p1 p2 p3 else none else none else none
def w8(p0:St)(p1:List AV×PUnit)(p2 p3:List AV)(K:Ku ρ):Option ρ:=
 (ae (aw (((p0.aB (p0.r7++[AO.list p1.1])).aB (p0.r7++[AO.list p1.1]++[AO.list [AV.int 0]])).aB (p0.r7++[AO.list p1.1]++[AO.list [AV.int 0]]++[AO.list (p2++p3)]))) 7 (p0.r7++[AO.list p1.1]++[AO.list [AV.int 0]]).length).bind fun b0=>(cQ b0).bind fun b1=>(dQ b1).bind fun b2=>w6 p0 p1 p2 p3 b2 K
def w9(p0:St)(p1:List AV×PUnit)(p2:List AV)(K:Ku ρ):Option ρ:=
 (ae (aw ((p0.aB (p0.r7++[AO.list p1.1])).aB (p0.r7++[AO.list p1.1]++[AO.list [AV.int 0]]))) 7 p0.r7.length).bind fun b0=>if(p2++b0).length<ab then w8 p0 p1 p2 b0 K else none
def w_(p0:St)(p1:List AV×PUnit)(K:Ku ρ):Option ρ:=
 (ae (aw ((p0.aB (p0.r7++[AO.list p1.1])).aB (p0.r7++[AO.list p1.1]++[AO.list [AV.int 0]]))) 7 (p0.r7++[AO.list p1.1]).length).bind fun b0=>w9 p0 p1 b0 K
def sy(p0:St)(p1:Int)(p2:List AV×PUnit)(p3:Nat→List AV×PUnit→St→Option ρ)(p4:Nat)(p5:Int):Option ρ:=
 (m9 (aw p0) (AV.int p1) (AV.loc 5 p0.mopen)).bind fun b0=>bif b0 then if p2.1.length<ab then p3 (p4+1) (p2.1++[AV.int (p5+1)],()) p0 else none else p3 (p4+1) (p2.1,()) p0
def sz(p0:Int)(p1:List AV×PUnit)(p2:Nat→List AV×PUnit→St→Option ρ)(p3:Nat)(p4:Int)(p5:St):Option ρ:=
 bif decide (p0=-1)then if p1.1.length<ab then p2 (p3+1) (p1.1++[AV.int (p4+1)],()) p5 else none else(ae (aw p5) 6 p5.mlist).bind fun b0=>(ai b0 (AV.int p4)).bind fun b1=>b1.i?.bind fun b2=>sy p5 b2 p1 p2 p3 p4
def sA(p0:List AV)(p1:Nat)(p2:List AV×PUnit)(p3:St)(K:Ku ρ)(p4:Nat→List AV×PUnit→St→Option ρ):Option ρ:=
 bz (aH 0 (↑p0.length:Int) 1)[p1]? (if p2.1.length<ab then w_ p3 p2 K else none) fun b0=>b0.i?.bind fun b1=>(ae (aw p3) 6 p3.mlist).bind fun b2=>(ai b2 (AV.int b1)).bind fun b3=>b3.i?.bind fun b4=>sz b4 p2 p4 p1 b1 p3
def sC(p0:List AV)(K:Ku ρ)(p1:St):Option ρ:=
 bK (fun b0 b1 b2 b3=>sA p0 b1 b2 b3 K b0) (cD ((aH 0 (↑p0.length:Int) 1).length+1)) 0 ([],()) p1
def dH(st:St)(K:Ku ρ):Option ρ:=
 (ae (aw st) 6 st.mlist).bind fun x0=>if x0.length<ab then if small (↑x0.length:Int)=true then if(true&&small (↑x0.length:Int)&&true)=true then sC x0 K st else none else none else none
def xX(p0:St)(p1:Nat×Nat)(K:Ku ρ)(p2 p3:Str):Option ρ:=
 (ae (aw (p0.aB (p0.r7++[AO.list []]))) 4 p1.2).bind fun b0=>(idx (-1) b0.length).bind fun b1=>K () ((p0.aB (p0.r7++[AO.list []])).d5 (p0.r4.set p1.2 (AO.list (b0.set b1 (AV.str (p2++p3))))))
def xY(p0:St)(p1:Nat×Nat)(p2:Str)(K:Ku ρ):Option ρ:=
 (ae (aw (p0.aB (p0.r7++[AO.list []]))) 4 p1.2).bind fun b0=>(ai b0 (AV.int (-1))).bind fun b1=>b1.s?.bind fun b2=>if b2.length+p2.length<ab then xX p0 p1 K b2 p2 else none
def mB(p0:St)(p1:Nat×Nat)(K:Ku ρ)(p2:Str):Option ρ:=
 (ae (aw (p0.aB (p0.r7++[AO.list []]))) 4 p1.2).bind fun b0=>if b0.length<ab then K () ((p0.aB (p0.r7++[AO.list []])).d5 (p0.r4.set p1.2 (AO.list (b0++[AV.str p2]))))else none
def xZ(p0:List AV)(p1:St)(p2:Nat×Nat)(p3:Str)(K:Ku ρ):Option ρ:=
 (ai p0 (AV.int (-1))).bind fun b0=>(isStr b0).bind fun b1=>bif b1 then xY p1 p2 p3 K else(ae (aw (p1.aB (p1.r7++[AO.list []]))) 4 p2.2).bind fun b2=>mB p1 p2 K p3
def x_(p0:Bool)(p1:St)(p2:Nat×Nat)(p3:Str)(K:Ku ρ):Option ρ:=
 bif p0 then(ae (aw (p1.aB (p1.r7++[AO.list []]))) 4 p2.2).bind fun b0=>xZ b0 p1 p2 p3 K else(ae (aw (p1.aB (p1.r7++[AO.list []]))) 4 p2.2).bind fun b1=>mB p1 p2 K p3
def ya(p0:Nat×Nat)(p1:St)(p2:Str)(K:Ku ρ):Option ρ:=
 bif p0.1.beq 4 then(Option.map (fun b0=>!b0) (fg (aw (p1.aB (p1.r7++[AO.list []]))) (AV.loc 4 p0.2) (AV.loc 7 p1.r7.length))).bind fun b1=>x_ b1 p1 p0 p2 K else none
def yb(p0:St)(p1:Str)(K:Ku ρ):Option ρ:=
 (ae (aw p0) 5 p0.mopen).bind fun b0=>(ai b0 (AV.int (-1))).bind fun b1=>b1.i?.bind fun b2=>(ai p0.mkids (AV.int b2)).bind fun b3=>b3.l?.bind fun b4=>ya b4 p0 p1 K
def gW(sg:Str)(st:St)(K:Ku ρ):Option ρ:=
 dH st fun x0 s1=>yb s1 sg K
def xl(K:Ku ρ)(p0:St)(p1:List AV×List AV×PUnit)(p2:List AV)(p3:Int):Option ρ:=
 K () (((((p0.aB (p0.r7++[AO.list p1.1])).aB (p0.r7++[AO.list p1.1]++[AO.list []])).aX (p0.merrs++[AV.str (q "open-elements")])).iE (p0.r5++[AO.list (ax p2 none (some p3))])).cA p0.r5.length)
def xm(p0:St)(p1:List AV×List AV×PUnit)(p2:Int)(K:Ku ρ):Option ρ:=
 (ae (aw (((p0.aB (p0.r7++[AO.list p1.1])).aB (p0.r7++[AO.list p1.1]++[AO.list []])).aX (p0.merrs++[AV.str (q "open-elements")]))) 5 p0.mopen).bind fun b0=>if b0.length<ab then if(ax b0 none (some p2)).length<ab then xl K p0 p1 b0 p2 else none else none
def xn(K:Ku ρ)(p0:St)(p1:List AV×List AV×PUnit)(p2:List AV)(p3:Int):Option ρ:=
 K () ((((p0.aB (p0.r7++[AO.list p1.1])).aB (p0.r7++[AO.list p1.1]++[AO.list []])).iE (p0.r5++[AO.list (ax p2 none (some p3))])).cA p0.r5.length)
def xo(p0:St)(p1:List AV×List AV×PUnit)(p2:Int)(K:Ku ρ):Option ρ:=
 (ae (aw ((p0.aB (p0.r7++[AO.list p1.1])).aB (p0.r7++[AO.list p1.1]++[AO.list []]))) 5 p0.mopen).bind fun b0=>if b0.length<ab then if(ax b0 none (some p2)).length<ab then xn K p0 p1 b0 p2 else none else none
def xp(p0:St)(p1:List AV×List AV×PUnit)(p2:Int)(K:Ku ρ):Option ρ:=
 (Option.map (fun b0=>!b0) (fg (aw ((p0.aB (p0.r7++[AO.list p1.1])).aB (p0.r7++[AO.list p1.1]++[AO.list []]))) (AV.loc 7 p0.r7.length) (AV.loc 7 (p0.r7++[AO.list p1.1]).length))).bind fun b1=>bif b1 then if p0.merrs.length<ab then if small p2=true then xm p0 p1 p2 K else none else none else if small p2=true then xo p0 p1 p2 K else none
def xq(p0:Str)(p1:List AV×List AV×PUnit)(p2:Nat→List AV×List AV×PUnit→St→Option ρ)(p3:Nat)(p4:AV)(p5:St):Option ρ:=
 (Option.map (fun b0=>!b0) (bg (AV.str p0) p1.2.1)).bind fun b1=>bif b1 then if p1.1.length<ab then p2 (p3+1) (p1.1++[p4],p1.2.1,()) p5 else none else p2 (p3+1) (p1.1,p1.2.1,()) p5
def xr(p0 p1:St)(p2:List AV)(p3:Nat)(p4:List AV×List AV×PUnit)(p5:Int)(K:Ku ρ)(p6:Nat→List AV×List AV×PUnit→St→Option ρ):Option ρ:=
 ((ae (aw p0) 7 p1.r7.length).bind fun b0=>if b0.length=p2.length then some b0[p3]? else none).bind fun b1=>bz b1 (if p4.1.length<ab then xp p0 p4 p5 K else none) fun b2=>(ai p0.mnames b2).bind fun b3=>b3.s?.bind fun b4=>xq b4 p4 p6 p3 b2 p0
def xt(p0:St)(p1:List AV)(p2:Int)(K:Ku ρ)(p3:List AV):Option ρ:=
 bK (fun b0 b1 b2 b3=>xr b3 p0 p1 b1 b2 p2 K b0) (cD (p1.length+1)) 0 ([],[AV.str (q "rt"),AV.str (q "rp"),AV.str (q "rb"),AV.str (q "rtc"),AV.str (q "optgroup"),AV.str (q "option")],()) (p0.aB (p0.r7++[AO.list (ax p3 (some (p2+1)) none)]))
def xu(p0:List AV)(p1:Int)(p2:St)(K:Ku ρ):Option ρ:=
 if(ax p0 (some (p1+1)) none).length<ab then(ae (aw (p2.aB (p2.r7++[AO.list (ax p0 (some (p1+1)) none)]))) 7 p2.r7.length).bind fun b0=>xt p2 b0 p1 K p0 else none
def iH(p:Int)(st:St)(K:Ku ρ):Option ρ:=
 if small (p+1)=true then(ae (aw st) 5 st.mopen).bind fun x0=>if x0.length<ab then xu x0 p st K else none else none
def zS(p0:St)(p1:Int)(K:Ku ρ):Option ρ:=
 d6 [AV.str (q "html"),AV.str (q "body"),AV.str (q "applet"),AV.str (q "marquee"),AV.str (q "object"),AV.str (q "table")] p0 fun b0 b1=>bif decide (p1<b0)then if b1.merrs.length<ab then K () (b1.aX (b1.merrs++[AV.str (q "unexpected-end-tag")]))else none else iH p1 b1 fun b2 b3=>K () b3
def ir(nm:Str)(st:St)(K:Ku ρ):Option ρ:=
 d6 [AV.str nm] st fun x0 s1=>zS s1 x0 K
def xx(p0:St)(p1:List AV×Str×PUnit)(p2 p3:List AV)(K:Ki ρ):Option ρ:=
 (ae (aw ((p0.aB (p0.r7++[AO.list p1.1])).bt (p0.r6++[AO.list (p2++p3)]))) 6 p0.r6.length).bind fun b0=>(ai b0 (AV.int (-1))).bind fun b1=>b1.i?.bind fun b2=>K b2 ((p0.aB (p0.r7++[AO.list p1.1])).bt (p0.r6++[AO.list (p2++p3)]))
def xB(p0:St)(p1:List AV×Str×PUnit)(p2:St)(K:Ki ρ):Option ρ:=
 (ae (aw (p0.aB (p0.r7++[AO.list p1.1]))) 6 p2.r6.length).bind fun b0=>(ae (aw (p0.aB (p0.r7++[AO.list p1.1]))) 7 p0.r7.length).bind fun b1=>if(b0++b1).length<ab then xx p0 p1 b0 b1 K else none
def xC(p0:St)(p1:AV)(p2:List AV×Str×PUnit)(p3:Nat→List AV×Str×PUnit→St→Option ρ)(p4:Nat):Option ρ:=
 (ai p0.mnames p1).bind fun b0=>b0.s?.bind fun b1=>bif decide (b1=p2.2.1)then if p2.1.length<ab then p3 (p4+1) (p2.1++[p1],p2.2.1,()) p0 else none else p3 (p4+1) (p2.1,p2.2.1,()) p0
def xD(p0 p1:St)(p2:List AV)(p3:Nat)(p4:List AV×Str×PUnit)(p5:St)(K:Ki ρ)(p6:Nat→List AV×Str×PUnit→St→Option ρ):Option ρ:=
 ((ae (aw p0) 7 p1.r7.length).bind fun b0=>if b0.length=p2.length then some b0[p3]? else none).bind fun b1=>bz b1 (if p4.1.length<ab then xB p0 p4 p5 K else none) fun b2=>xC p0 b2 p4 p6 p3
def xF(p0:St)(p1:List AV)(p2:St)(K:Ki ρ)(p3:Str)(p4:List AV)(p5:Int):Option ρ:=
 bK (fun b0 b1 b2 b3=>xD b3 p0 p1 b1 b2 p2 K b0) (cD (p1.length+1)) 0 ([],p3,()) (p0.aB (p0.r7++[AO.list (ax p4 (some p5) none)]))
def xG(p0:List AV)(p1:Int)(p2 p3:St)(K:Ki ρ)(p4:Str):Option ρ:=
 if(ax p0 (some p1) none).length<ab then(ae (aw (p2.aB (p2.r7++[AO.list (ax p0 (some p1) none)]))) 7 p2.r7.length).bind fun b0=>xF p2 b0 p3 K p4 p0 p1 else none
def eg(nm:Str)(st:St)(K:Ki ρ):Option ρ:=
 gu (st.bt (st.r6++[AO.list [AV.int (-1)]])) fun x0 s1=>if small x0=true then(ae (aw s1) 6 st.mlist).bind fun x2=>if x2.length<ab then xG x2 x0 s1 st K nm else none else none
def tu(p0:St)(K:Ku ρ):Option ρ:=
 (ae (aw p0) 5 p0.mopen).bind fun b0=>if b0.length<ab then if(ax b0 none (some (-1))).length<ab then K () ((p0.iE (p0.r5++[AO.list (ax b0 none (some (-1)))])).cA p0.r5.length)else none else none
def iq(p0:AV)(p1:List AV×Int×PUnit)(p2:Nat→List AV×Int×PUnit→St→Option ρ)(p3:Nat)(p4:St):Option ρ:=
 p0.i?.bind fun b0=>bif !decide (b0=p1.2.1)then if p1.1.length<ab then p2 (p3+1) (p1.1++[AV.int b0],p1.2.1,()) p4 else none else p2 (p3+1) (p1.1,p1.2.1,()) p4
def fR(p0 p1:St)(p2:List AV)(p3:Nat)(p4:List AV×Int×PUnit)(K:Ku ρ)(p5:Nat→List AV×Int×PUnit→St→Option ρ):Option ρ:=
 ((ae (aw p0) 6 p1.mlist).bind fun b0=>if b0.length=p2.length then some b0[p3]? else none).bind fun b1=>bz b1 (if p4.1.length<ab then K () ((p0.bt (p0.r6++[AO.list p4.1])).dS p0.r6.length)else none) fun b2=>iq b2 p4 p5 p3 p0
def tv(p0:St)(p1:List AV)(K:Ku ρ)(p2:Int)(p3:List AV)(p4:Nat):Option ρ:=
 bK (fun b0 b1 b2 b3=>fR b3 p0 p1 b1 b2 K b0) (cD (p1.length+1)) 0 ([],p2,()) (((p0.aX (p0.merrs++[AV.str (q "adoption")])).iE (p0.r5++[AO.list (ax p3 none (some (↑p4:Int)))])).cA p0.r5.length)
def tA(p0:St)(p1:List AV)(p2:Nat)(K:Ku ρ)(p3:Int):Option ρ:=
 (ae (aw (((p0.aX (p0.merrs++[AV.str (q "adoption")])).iE (p0.r5++[AO.list (ax p1 none (some (↑p2:Int)))])).cA p0.r5.length)) 6 p0.mlist).bind fun b0=>tv p0 b0 K p3 p1 p2
def tB(p0:St)(p1:Nat)(K:Ku ρ)(p2:Int):Option ρ:=
 (ae (aw (p0.aX (p0.merrs++[AV.str (q "adoption")]))) 5 p0.mopen).bind fun b0=>if b0.length<ab then if(ax b0 none (some (↑p1:Int))).length<ab then tA p0 b0 p1 K p2 else none else none
def tC(p0:St)(p1:Int)(K:Ku ρ):Option ρ:=
 (ae (aw (p0.aX (p0.merrs++[AV.str (q "adoption")]))) 5 p0.mopen).bind fun b0=>if b0.length<ab then(bf b0 [AV.int p1]).bind fun b1=>if small (↑b1:Int)=true then tB p0 b1 K p1 else none else none
def tD(p0:St)(p1:List AV)(K:Ku ρ)(p2:Int):Option ρ:=
 bK (fun b0 b1 b2 b3=>fR b3 p0 p1 b1 b2 K b0) (cD (p1.length+1)) 0 ([],p2,()) (p0.aX (p0.merrs++[AV.str (q "adoption")]))
def tE(p0:Bool)(p1:St)(p2:Int)(K:Ku ρ):Option ρ:=
 bif p0 then(ae (aw (p1.aX (p1.merrs++[AV.str (q "adoption")]))) 5 p1.mopen).bind fun b0=>tC p1 p2 K else(ae (aw (p1.aX (p1.merrs++[AV.str (q "adoption")]))) 6 p1.mlist).bind fun b1=>tD p1 b1 K p2
def qA(p0:St)(p1:List AV)(K:Ku ρ)(p2:Int)(p3:List AV)(p4:Nat):Option ρ:=
 bK (fun b0 b1 b2 b3=>fR b3 p0 p1 b1 b2 K b0) (cD (p1.length+1)) 0 ([],p2,()) ((p0.iE (p0.r5++[AO.list (ax p3 none (some (↑p4:Int)))])).cA p0.r5.length)
def qB(p0:List AV)(p1:Nat)(p2:St)(K:Ku ρ)(p3:Int):Option ρ:=
 if(ax p0 none (some (↑p1:Int))).length<ab then(ae (aw ((p2.iE (p2.r5++[AO.list (ax p0 none (some (↑p1:Int)))])).cA p2.r5.length)) 6 p2.mlist).bind fun b0=>qA p2 b0 K p3 p0 p1 else none
def qC(p0:List AV)(p1:Int)(p2:St)(K:Ku ρ):Option ρ:=
 (bf p0 [AV.int p1]).bind fun b0=>if small (↑b0:Int)=true then(ae (aw p2) 5 p2.mopen).bind fun b1=>if b1.length<ab then qB b1 b0 p2 K p1 else none else none
def qD(p0:St)(p1:List AV)(K:Ku ρ)(p2:Int):Option ρ:=
 bK (fun b0 b1 b2 b3=>fR b3 p0 p1 b1 b2 K b0) (cD (p1.length+1)) 0 ([],p2,()) p0
def qE(p0:Bool)(p1:St)(p2:Int)(K:Ku ρ):Option ρ:=
 bif p0 then(ae (aw p1) 5 p1.mopen).bind fun b0=>(ae (aw p1) 5 p1.mopen).bind fun b1=>if b1.length<ab then qC b1 p2 p1 K else none else(ae (aw p1) 6 p1.mlist).bind fun b2=>qD p1 b2 K p2
def jO(p0 p1:Int)(p2:St)(K:Ku ρ):Option ρ:=
 bif !decide (p0=p1)then if p2.merrs.length<ab then(m9 (aw (p2.aX (p2.merrs++[AV.str (q "adoption")]))) (AV.int p1) (AV.loc 5 p2.mopen)).bind fun b0=>tE b0 p2 p1 K else none else(m9 (aw p2) (AV.int p1) (AV.loc 5 p2.mopen)).bind fun b1=>qE b1 p2 p1 K
def qF(p0:St)(p1:Nat)(K:Ku ρ)(p2 p3:Int):Option ρ:=
 d6 [AV.str (q "html"),AV.str (q "applet"),AV.str (q "marquee"),AV.str (q "object"),AV.str (q "table")] p0 fun b0 b1=>bif decide ((↑p1:Int)<b0)then if b1.merrs.length<ab then K () (b1.aX (b1.merrs++[AV.str (q "adoption")]))else none else jO p2 p3 b1 K
def qG(p0:St)(p1:Int)(K:Ku ρ)(p2:Int):Option ρ:=
 (ae (aw p0) 5 p0.mopen).bind fun b0=>(ae (aw p0) 5 p0.mopen).bind fun b1=>if b1.length<ab then(bf b1 [AV.int p1]).bind fun b2=>qF p0 b2 K p2 p1 else none
def jP(p0:Int)(p1:Str)(p2:St)(K:Ku ρ)(p3:Int):Option ρ:=
 bif decide (p0=-1)then ir p1 p2 fun b0 b1=>K () b1 else(m9 (aw p2) (AV.int p0) (AV.loc 5 p2.mopen)).bind fun b2=>bif b2 then qG p2 p0 K p3 else jO p3 p0 p2 K
def qH(p0 p1:Str)(p2:St)(p3:Int)(K:Ku ρ)(p4:Int):Option ρ:=
 bif decide (p0=p1)then(Option.map (fun b0=>!b0) (m9 (aw p2) (AV.int p3) (AV.loc 6 p2.mlist))).bind fun b1=>bif b1 then tu p2 K else jP p4 p1 p2 K p3 else jP p4 p1 p2 K p3
def qI(p0:List AV)(p1:Str)(p2:St)(K:Ku ρ):Option ρ:=
 (ai p0 (AV.int (-1))).bind fun b0=>b0.i?.bind fun b1=>eg p1 p2 fun b2 b3=>(ai b3.mnames (AV.int b1)).bind fun b4=>b4.s?.bind fun b5=>qH b5 p1 b3 b1 K b2
def dW(nm:Str)(st:St)(K:Ku ρ):Option ρ:=
 (ae (aw st) 5 st.mopen).bind fun x0=>qI x0 nm st K
def xO(K:Ku ρ)(p0:St)(p1:List AV×List AV×PUnit)(p2:List AV)(p3:Int)(p4:List AV)(p5:Int)(p6 p7 p8:List AV)(p9:Int):Option ρ:=
 K () ((((((p0.bt (p0.r6++[AO.list p1.1])).bt (p0.r6++[AO.list p1.1]++[AO.list (ax p2 none (some p3))])).aB (p0.r7++[AO.list (ax p4 (some (p5+1)) none)])).bt (p0.r6++[AO.list p1.1]++[AO.list (ax p2 none (some p3))]++[AO.list (p6++p7)])).dS (p0.r6++[AO.list p1.1]++[AO.list (ax p2 none (some p3))]).length).bt ((p0.r6++[AO.list p1.1]++[AO.list (ax p2 none (some p3))]++[AO.list (p6++p7)]).set (p0.r6++[AO.list p1.1]++[AO.list (ax p2 none (some p3))]).length (AO.list (p8++[AV.int p9]))))
def xP(p0:St)(p1:List AV×List AV×PUnit)(p2:List AV)(p3:Int)(p4:List AV)(p5:Int)(p6 p7:List AV)(K:Ku ρ)(p8:Int):Option ρ:=
 (ae (aw (((((p0.bt (p0.r6++[AO.list p1.1])).bt (p0.r6++[AO.list p1.1]++[AO.list (ax p2 none (some p3))])).aB (p0.r7++[AO.list (ax p4 (some (p5+1)) none)])).bt (p0.r6++[AO.list p1.1]++[AO.list (ax p2 none (some p3))]++[AO.list (p6++p7)])).dS (p0.r6++[AO.list p1.1]++[AO.list (ax p2 none (some p3))]).length)) 6 (p0.r6++[AO.list p1.1]++[AO.list (ax p2 none (some p3))]).length).bind fun b0=>if b0.length<ab then xO K p0 p1 p2 p3 p4 p5 p6 p7 b0 p8 else none
def xQ(p0:St)(p1:List AV×List AV×PUnit)(p2:List AV)(p3:Int)(p4:List AV)(p5:Int)(p6 p7:List AV)(K:Ku ρ)(p8:Int):Option ρ:=
 (ae (aw (((((p0.bt (p0.r6++[AO.list p1.1])).bt (p0.r6++[AO.list p1.1]++[AO.list (ax p2 none (some p3))])).aB (p0.r7++[AO.list (ax p4 (some (p5+1)) none)])).bt (p0.r6++[AO.list p1.1]++[AO.list (ax p2 none (some p3))]++[AO.list (p6++p7)])).dS (p0.r6++[AO.list p1.1]++[AO.list (ax p2 none (some p3))]).length)) 6 (p0.r6++[AO.list p1.1]++[AO.list (ax p2 none (some p3))]).length).bind fun b0=>xP p0 p1 p2 p3 p4 p5 p6 p7 K p8
def xR(p0:St)(p1:List AV×List AV×PUnit)(p2:List AV)(p3:Int)(p4:List AV)(p5:Int)(p6:List AV)(K:Ku ρ)(p7:Int):Option ρ:=
 (ae (aw (((p0.bt (p0.r6++[AO.list p1.1])).bt (p0.r6++[AO.list p1.1]++[AO.list (ax p2 none (some p3))])).aB (p0.r7++[AO.list (ax p4 (some (p5+1)) none)]))) 7 p0.r7.length).bind fun b0=>if(p6++b0).length<ab then xQ p0 p1 p2 p3 p4 p5 p6 b0 K p7 else none
def xS(p0:St)(p1:List AV×List AV×PUnit)(p2:List AV)(p3:Int)(p4:List AV)(p5:Int)(K:Ku ρ)(p6:Int):Option ρ:=
 (ae (aw (((p0.bt (p0.r6++[AO.list p1.1])).bt (p0.r6++[AO.list p1.1]++[AO.list (ax p2 none (some p3))])).aB (p0.r7++[AO.list (ax p4 (some (p5+1)) none)]))) 6 (p0.r6++[AO.list p1.1]).length).bind fun b0=>xR p0 p1 p2 p3 p4 p5 b0 K p6
def xT(p0:St)(p1:List AV×List AV×PUnit)(p2:List AV)(p3 p4:Int)(K:Ku ρ)(p5:Int):Option ρ:=
 (ae (aw ((p0.bt (p0.r6++[AO.list p1.1])).bt (p0.r6++[AO.list p1.1]++[AO.list (ax p2 none (some p3))]))) 6 p0.mlist).bind fun b0=>if b0.length<ab then if(ax b0 (some (p4+1)) none).length<ab then xS p0 p1 p2 p3 b0 p4 K p5 else none else none
def xU(p0:St)(p1:List AV×List AV×PUnit)(p2:List AV)(p3:Int)(K:Ku ρ)(p4:Int):Option ρ:=
 (ae (aw ((p0.bt (p0.r6++[AO.list p1.1])).bt (p0.r6++[AO.list p1.1]++[AO.list (ax p2 none (some p3))]))) 6 p0.r6.length).bind fun b0=>(ai b0 (AV.int 0)).bind fun b1=>b1.i?.bind fun b2=>if small (b2+1)=true then xT p0 p1 p2 p3 b2 K p4 else none
def xV(p0:St)(p1:List AV×List AV×PUnit)(p2:Int)(K:Ku ρ)(p3:Int):Option ρ:=
 (ae (aw (p0.bt (p0.r6++[AO.list p1.1]))) 6 p0.mlist).bind fun b0=>if b0.length<ab then if(ax b0 none (some p2)).length<ab then xU p0 p1 b0 p2 K p3 else none else none
def xW(p0:St)(p1:List AV×List AV×PUnit)(K:Ku ρ)(p2:Int):Option ρ:=
 (ae (aw (p0.bt (p0.r6++[AO.list p1.1]))) 6 p0.r6.length).bind fun b0=>(ai b0 (AV.int 0)).bind fun b1=>b1.i?.bind fun b2=>if small b2=true then xV p0 p1 b2 K p2 else none
def tG(p0:St)(p1:List AV×List AV×PUnit)(K:Ku ρ)(p2:Int):Option ρ:=
 (ae (aw (p0.bt (p0.r6++[AO.list p1.1]))) 6 p0.mlist).bind fun b0=>if b0.length<ab then K () ((p0.bt (p0.r6++[AO.list p1.1])).bt ((p0.r6++[AO.list p1.1]).set p0.mlist (AO.list (b0++[AV.int p2]))))else none
def tH(p0:List AV)(p1:St)(p2:List AV×List AV×PUnit)(K:Ku ρ)(p3:Int):Option ρ:=
 if p0.length<ab then bif decide (3≤(↑p0.length:Int))then xW p1 p2 K p3 else(ae (aw (p1.bt (p1.r6++[AO.list p2.1]))) 6 p1.mlist).bind fun b0=>tG p1 p2 K p3 else none
def tI(p0:Bool)(p1:List AV×List AV×PUnit)(p2:Nat→List AV×List AV×PUnit→St→Option ρ)(p3:Nat)(p4:Int)(p5:St)(p6:List AV):Option ρ:=
 bif p0 then if p1.1.length<ab then p2 (p3+1) (p1.1++[AV.int p4],p1.2.1,()) (p5.aB (p5.r7++[AO.list p6]))else none else p2 (p3+1) (p1.1,p1.2.1,()) (p5.aB (p5.r7++[AO.list p6]))
def tJ(p0:List AV)(p1:St)(p2:Str)(p3:List AV×List AV×PUnit)(p4:Nat→List AV×List AV×PUnit→St→Option ρ)(p5:Nat)(p6:Int):Option ρ:=
 (nu p0).bind fun b0=>if b0.length<ab then(fg (aw (p1.aB (p1.r7++[AO.list b0]))) (AV.tup [AV.str p2,AV.loc 7 p1.r7.length]) (AV.tup p3.2.1)).bind fun b1=>tI b1 p3 p4 p5 p6 p1 b0 else none
def tL(p0:AV)(p1:St)(p2:Str)(p3:List AV×List AV×PUnit)(p4:Nat→List AV×List AV×PUnit→St→Option ρ)(p5:Nat)(p6:Int):Option ρ:=
 p0.i?.bind fun b0=>(ai p1.mattrs (AV.int b0)).bind fun b1=>b1.l?.bind fun b2=>bif b2.1.beq 3 then(ae (aw p1) 3 b2.2).bind fun b3=>tJ b3 p1 p2 p3 p4 p5 p6 else none
def tM(p0:St)(p1 p2:Int)(p3:List AV×List AV×PUnit)(p4:Nat→List AV×List AV×PUnit→St→Option ρ)(p5:Nat):Option ρ:=
 (ai p0.mnames (AV.int p1)).bind fun b0=>b0.s?.bind fun b1=>(ae (aw p0) 6 p0.mlist).bind fun b2=>(ai b2 (AV.int p2)).bind fun b3=>tL b3 p0 b1 p3 p4 p5 p2
def tO(p0:Int)(p1:List AV)(p2:Nat)(p3:List AV×List AV×PUnit)(p4:St)(K:Ku ρ)(p5:Int)(p6:Nat→List AV×List AV×PUnit→St→Option ρ):Option ρ:=
 bz (aH p0 (↑p1.length:Int) 1)[p2]? (if p3.1.length<ab then(ae (aw (p4.bt (p4.r6++[AO.list p3.1]))) 6 p4.r6.length).bind fun b0=>tH b0 p4 p3 K p5 else none) fun b1=>b1.i?.bind fun b2=>(ae (aw p4) 6 p4.mlist).bind fun b3=>(ai b3 (AV.int b2)).bind fun b4=>b4.i?.bind fun b5=>tM p4 b5 b2 p3 p6 p2
def tP(p0:Int)(p1:List AV)(K:Ku ρ)(p2:Int)(p3:Str)(p4 p5:St):Option ρ:=
 bK (fun b0 b1 b2 b3=>tO p0 p1 b1 b2 b3 K p2 b0) (cD ((aH p0 (↑p1.length:Int) 1).length+1)) 0 ([],[AV.str p3,AV.loc 7 p4.r7.length],()) p5
def tQ(p0:St)(p1:Int)(K:Ku ρ)(p2:Int)(p3:Str)(p4:St):Option ρ:=
 (ae (aw p0) 6 p0.mlist).bind fun b0=>if b0.length<ab then if(small p1&&small (↑b0.length:Int))=true then if(small p1&&small (↑b0.length:Int)&&true)=true then tP p1 b0 K p2 p3 p4 p0 else none else none else none
def tR(p0:St)(p1:Nat×Nat)(K:Ku ρ)(p2:Int)(p3:Str):Option ρ:=
 (ae (aw p0) 3 p1.2).bind fun b0=>(nu b0).bind fun b1=>if b1.length<ab then gu (p0.aB (p0.r7++[AO.list b1])) fun b2 b3=>tQ b3 b2 K p2 p3 p0 else none
def ej(n:Int)(st:St)(K:Ku ρ):Option ρ:=
 (ai st.mnames (AV.int n)).bind fun x0=>x0.s?.bind fun x1=>(ai st.mattrs (AV.int n)).bind fun x2=>x2.l?.bind fun x3=>bif x3.1.beq 3 then tR st x3 K n x1 else none
def Dq(p0:St)(p1:List AV×Int×PUnit)(p2:Str)(p3:List AV)(K:Ku ρ):Option ρ:=
 dH ((p0.iE (p0.r5++[AO.list p1.1])).cA p0.r5.length) fun b0 b1=>cx p2 p3 b1 fun b2 b3=>ej b2 b3 fun b4 b5=>K () b5
def Dr(p0 p1:St)(p2:List AV)(p3:Nat)(p4:List AV×Int×PUnit)(p5:Str)(p6:List AV)(K:Ku ρ)(p7:Nat→List AV×Int×PUnit→St→Option ρ):Option ρ:=
 ((ae (aw p0) 5 p1.mopen).bind fun b0=>if b0.length=p2.length then some b0[p3]? else none).bind fun b1=>bz b1 (if p4.1.length<ab then Dq p0 p4 p5 p6 K else none) fun b2=>iq b2 p4 p7 p3 p0
def Ds(p0:St)(p1:List AV)(p2:Str)(p3:List AV)(K:Ku ρ)(p4:Int)(p5:List AV×Int×PUnit):Option ρ:=
 bK (fun b0 b1 b2 b3=>Dr b3 p0 p1 b1 b2 p2 p3 K b0) (cD (p1.length+1)) 0 ([],p4,()) ((p0.bt (p0.r6++[AO.list p5.1])).dS p0.r6.length)
def Dt(p0:Option AV)(p1:List AV×Int×PUnit)(p2:St)(p3:Str)(p4:List AV)(K:Ku ρ)(p5:Int)(p6:Nat→List AV×Int×PUnit→St→Option ρ)(p7:Nat):Option ρ:=
 bz p0 (if p1.1.length<ab then(ae (aw ((p2.bt (p2.r6++[AO.list p1.1])).dS p2.r6.length)) 5 p2.mopen).bind fun b0=>Ds p2 b0 p3 p4 K p5 p1 else none) fun b1=>iq b1 p1 p6 p7 p2
def Du(p0:St)(p1:List AV)(p2:Str)(p3:List AV)(K:Ku ρ)(p4:Int):Option ρ:=
 bK (fun b0 b1 b2 b3=>((ae (aw b3) 6 p0.mlist).bind fun b4=>if b4.length=p1.length then some b4[b1]? else none).bind fun b5=>Dt b5 b2 b3 p2 p3 K p4 b0 b1) (cD (p1.length+1)) 0 ([],p4,()) p0
def Dv(p0:St)(p1:Str)(p2:List AV)(K:Ku ρ)(p3:Int):Option ρ:=
 if p0.merrs.length<ab then dW (q "a") (p0.aX (p0.merrs++[AV.str (q "unexpected-start-tag")])) fun b0 b1=>(ae (aw b1) 6 b1.mlist).bind fun b2=>Du b1 b2 p1 p2 K p3 else none
def Dw(p0:Int)(p1:St)(p2:Str)(p3:List AV)(K:Ku ρ):Option ρ:=
 bif !decide (p0=-1)then Dv p1 p2 p3 K p0 else dH p1 fun b0 b1=>cx p2 p3 b1 fun b2 b3=>ej b2 b3 fun b4 b5=>K () b5
def vo(nm:Str)(at_:List AV)(st:St)(K:Ku ρ):Option ρ:=
 eg (q "a") st fun x0 s1=>Dw x0 s1 nm at_ K
def z5(nm:Str)(at_:List AV)(st:St)(K:Ku ρ):Option ρ:=
 eg (q "a") st fun x0 s1=>dH s1 fun x2 s3=>cx nm at_ s3 fun x4 s5=>ej x4 s5 fun x6 s7=>K () s7
def Dx(p0:St)(p1:Str)(p2:List AV)(K:Ku ρ):Option ρ:=
 dW (q "nobr") (p0.aX (p0.merrs++[AV.str (q "unexpected-start-tag")])) fun b0 b1=>dH b1 fun b2 b3=>cx p1 p2 b3 fun b4 b5=>ej b4 b5 fun b6 b7=>K () b7
def Dy(p0:St)(p1:Int)(p2:Str)(p3:List AV)(K:Ku ρ):Option ρ:=
 d6 [AV.str (q "html"),AV.str (q "applet"),AV.str (q "marquee"),AV.str (q "object"),AV.str (q "table")] p0 fun b0 b1=>bif decide (b0<p1)then if b1.merrs.length<ab then Dx b1 p2 p3 K else none else cx p2 p3 b1 fun b2 b3=>ej b2 b3 fun b4 b5=>K () b5
def z6(nm:Str)(at_:List AV)(st:St)(K:Ku ρ):Option ρ:=
 eg (q "a") st fun x0 s1=>dH s1 fun x2 s3=>d6 [AV.str (q "nobr")] s3 fun x4 s5=>Dy s5 x4 nm at_ K
def Dz(p0:St)(K:Ku ρ):Option ρ:=
 (ae (aw p0) 6 p0.mlist).bind fun b0=>(ae (aw p0) 6 p0.mlist).bind fun b1=>if b1.length<ab then K () ((p0.bt (p0.r6.set p0.mlist (AO.list (b1++[AV.int (-1)])))).wK false)else none
def qL(nm:Str)(at_:List AV)(st:St)(K:Ku ρ):Option ρ:=
 eg (q "a") st fun x0 s1=>dH s1 fun x2 s3=>cx nm at_ s3 fun x4 s5=>Dz s5 K
def qM(nm:Str)(at_:List AV)(st:St)(K:Ku ρ):Option ρ:=
 eg (q "a") st fun x0 s1=>cx nm at_ s1 fun x2 s3=>K () s3
def zZ(p0 p1:St)(p2:Int)(K:Ku ρ):Option ρ:=
 (ae (aw p0) 6 p1.mlist).bind fun b0=>if b0.length<ab then if(ax b0 none (some (p2-1))).length<ab then K () ((p0.bt (p0.r6++[AO.list (ax b0 none (some (p2-1)))])).dS p0.r6.length)else none else none
def z0(p0:Str)(p1:St)(K:Ku ρ):Option ρ:=
 d6 [AV.str p0] p1 fun b0 b1=>iH b0 b1 fun b2 b3=>gu b3 fun b4 b5=>if small (b4-1)=true then zZ b5 b3 b4 K else none
def z4(p0:St)(p1:Int)(K:Ku ρ)(p2:Str):Option ρ:=
 d6 [AV.str (q "html"),AV.str (q "applet"),AV.str (q "marquee"),AV.str (q "object"),AV.str (q "table")] p0 fun b0 b1=>bif decide (p1<b0)then if b1.merrs.length<ab then K () (b1.aX (b1.merrs++[AV.str (q "unexpected-end-tag")]))else none else z0 p2 b1 K
def jh(k:Int)(nm:Str)(st:St)(K:Ku ρ):Option ρ:=
 bif decide (k<3)then dW nm st fun x0 s1=>K () s1 else bif decide (5≤k)then ir nm st fun x2 s3=>K () s3 else d6 [AV.str nm] st fun x4 s5=>z4 s5 x4 K nm
def ta(K:Kb ρ)(p0:St)(p1:List AV×PUnit)(p2:List AV):Option ρ:=
 K false (((p0.aB (p0.r7++[AO.list p1.1])).aB (p0.r7++[AO.list p1.1]++[AO.list []])).aB (p0.r7++[AO.list p1.1]++[AO.list []]++[AO.list (ax p2 none (some 1))]))
def td(p0:St)(p1:List AV×PUnit)(K:Kb ρ)(p2:St):Option ρ:=
 (ae (aw (p0.aB (p0.r7++[AO.list p1.1]))) 7 p0.r7.length).bind fun b0=>(cQ b0).bind fun b1=>K (decide ((↑p2.kinds.length:Int)=2+b1.sum)) (p0.aB (p0.r7++[AO.list p1.1]))
def te(p0:AV)(p1:St)(p2:List AV×PUnit)(p3:Nat→List AV×PUnit→St→Option ρ)(p4:Nat):Option ρ:=
 (p0.l?.bind fun b0=>ae (aw p1) b0.1 b0.2).bind fun b1=>if b1.length<ab then if p2.1.length<ab then p3 (p4+1) (p2.1++[AV.int (↑b1.length:Int)],()) p1 else none else none
def tf(p0 p1:St)(p2:List AV)(p3:Nat)(p4:List AV×PUnit)(K:Kb ρ)(p5:St)(p6:Nat→List AV×PUnit→St→Option ρ):Option ρ:=
 ((ae (aw p0) 7 p1.r7.length).bind fun b0=>if b0.length=p2.length then some b0[p3]? else none).bind fun b1=>bz b1 (if p4.1.length<ab then td p0 p4 K p5 else none) fun b2=>te b2 p0 p4 p6 p3
def th(p0:St)(p1:List AV)(K:Kb ρ)(p2:St)(p3:List AV×PUnit):Option ρ:=
 bK (fun b0 b1 b2 b3=>tf b3 p0 p1 b1 b2 K p2 b0) (cD (p1.length+1)) 0 ([],()) ((p2.aB (p2.r7++[AO.list p3.1])).aB (p2.r7++[AO.list p3.1]++[AO.list []]))
def ti(p0:St)(p1:List AV×PUnit)(p2:St)(K:Kb ρ):Option ρ:=
 if p0.kinds.length<ab then(ae (aw ((p0.aB (p0.r7++[AO.list p1.1])).aB (p0.r7++[AO.list p1.1]++[AO.list []]))) 7 p2.r7.length).bind fun b0=>th p2 b0 K p0 p1 else none
def tj(p0:St)(p1:List AV×PUnit)(K:Kb ρ)(p2:St):Option ρ:=
 (Option.map (fun b0=>!b0) (fg (aw ((p0.aB (p0.r7++[AO.list p1.1])).aB (p0.r7++[AO.list p1.1]++[AO.list []]))) (AV.loc 7 p0.r7.length) (AV.loc 7 (p0.r7++[AO.list p1.1]).length))).bind fun b1=>bif b1 then K false ((p0.aB (p0.r7++[AO.list p1.1])).aB (p0.r7++[AO.list p1.1]++[AO.list []]))else ti p0 p1 p2 K
def tm(p0:AV)(p1:List AV×Int×PUnit)(p2:Nat→List AV×Int×PUnit→St→Option ρ)(p3:Nat)(p4:Int)(p5:St):Option ρ:=
 p0.i?.bind fun b0=>bif !decide (b0=p1.2.1)then if p1.1.length<ab then p2 (p3+1) (p1.1++[AV.int p4],p1.2.1,()) p5 else none else p2 (p3+1) (p1.1,p1.2.1,()) p5
def tq(p0:St)(p1:Nat×Nat)(p2:List AV)(p3:Nat)(p4:Nat→List AV×PUnit→St→Option ρ)(p5:Nat)(p6:List AV×Int×PUnit)(p7:Nat→List AV×Int×PUnit→St→Option ρ):Option ρ:=
 ((ae (aw p0) 2 p1.2).bind fun b0=>if b0.length=p2.length then some b0[p3]? else none).bind fun b1=>bz b1 (p4 (p5+1) (p6.1,()) p0) fun b2=>b2.i?.bind fun b3=>(ai p0.parents (AV.int b3)).bind fun b4=>tm b4 p6 p7 p3 b3 p0
def pV(p0:Nat×Nat)(p1:List AV)(p2:Nat→List AV×PUnit→St→Option ρ)(p3:Nat)(p4:List AV×PUnit)(p5:Int)(p6:St):Option ρ:=
 bK (fun b0 b1 b2 b3=>tq b3 p0 p1 b1 p2 p3 b2 b0) (cD (p1.length+1)) 0 (p4.1,p5,()) p6
def pW(p0:AV)(p1:St)(p2:Nat→List AV×PUnit→St→Option ρ)(p3:Nat)(p4:List AV×PUnit):Option ρ:=
 p0.i?.bind fun b0=>(ai p1.chil (AV.int b0)).bind fun b1=>b1.l?.bind fun b2=>bif b2.1.beq 2 then(ae (aw p1) 2 b2.2).bind fun b3=>pV b2 b3 p2 p3 p4 b0 p1 else none
def pX(p0 p1:St)(p2:List AV)(p3:Nat)(p4:List AV×PUnit)(K:Kb ρ)(p5:Nat→List AV×PUnit→St→Option ρ):Option ρ:=
 ((ae (aw p0) 6 (p1.r6++[AO.list [AV.int 0]]).length).bind fun b0=>if b0.length=p2.length then some b0[p3]? else none).bind fun b1=>bz b1 (if p4.1.length<ab then tj p0 p4 K p1 else none) fun b2=>pW b2 p0 p5 p3 p4
def pY(p0:St)(p1:List AV)(K:Kb ρ)(p2:List AV×Nat×PUnit)(p3 p4:List AV):Option ρ:=
 bK (fun b0 b1 b2 b3=>pX b3 p0 p1 b1 b2 K b0) (cD (p1.length+1)) 0 ([],()) (((p0.aB (p0.r7++[AO.list p2.1])).bt (p0.r6++[AO.list [AV.int 0]])).bt (p0.r6++[AO.list [AV.int 0]]++[AO.list (p3++p4)]))
def pZ(p0:St)(p1:List AV×Nat×PUnit)(p2 p3:List AV)(K:Kb ρ):Option ρ:=
 (ae (aw (((p0.aB (p0.r7++[AO.list p1.1])).bt (p0.r6++[AO.list [AV.int 0]])).bt (p0.r6++[AO.list [AV.int 0]]++[AO.list (p2++p3)]))) 6 (p0.r6++[AO.list [AV.int 0]]).length).bind fun b0=>pY p0 b0 K p1 p2 p3
def p_(p0:St)(p1:List AV×Nat×PUnit)(p2:Nat)(p3:List AV)(K:Kb ρ):Option ρ:=
 (ae (aw ((p0.aB (p0.r7++[AO.list p1.1])).bt (p0.r6++[AO.list [AV.int 0]]))) 6 p2).bind fun b0=>if(p3++b0).length<ab then pZ p0 p1 p3 b0 K else none
def qc(p0:Bool)(K:Kb ρ)(p1:St)(p2:List AV×Nat×PUnit)(p3:Nat):Option ρ:=
 bif p0 then K false (p1.aB (p1.r7++[AO.list p2.1]))else(ae (aw ((p1.aB (p1.r7++[AO.list p2.1])).bt (p1.r6++[AO.list [AV.int 0]]))) 6 p1.r6.length).bind fun b0=>p_ p1 p2 p3 b0 K
def qd(p0:St)(p1:List AV×Nat×PUnit)(p2:Int)(p3:Nat→List AV×Nat×PUnit→St→Option ρ)(p4:Nat):Option ρ:=
 (ae (aw p0) 6 p1.2.1).bind fun b0=>if b0.length<ab then(bf b0 [AV.int p2]).bind fun b1=>if p1.1.length<ab then p3 (p4+1) (p1.1++[AV.int (↑b1:Int)],p1.2.1,()) p0 else none else none
def qe(p0:Bool)(p1:St)(p2:List AV×Nat×PUnit)(p3:Int)(p4:Nat→List AV×Nat×PUnit→St→Option ρ)(p5:Nat):Option ρ:=
 bif p0 then(ae (aw p1) 6 p2.2.1).bind fun b0=>qd p1 p2 p3 p4 p5 else(ai p1.texts (AV.int p3)).bind fun b1=>b1.s?.bind fun b2=>if p2.1.length<ab then p4 (p5+1) (p2.1++[AV.str b2],p2.2.1,()) p1 else none
def qf(p0:Option AV)(p1 p2:List AV×Nat×PUnit)(p3:Nat→List AV×Nat×PUnit→St→Option ρ)(p4:Nat)(p5:St)(p6:Nat→List AV×Nat×PUnit→St→Option ρ)(p7:Nat):Option ρ:=
 bz p0 (if p1.1.length<ab then if p2.1.length<ab then p3 (p4+1) (p2.1++[AV.loc 7 p5.r7.length],p2.2.1,()) (p5.aB (p5.r7++[AO.list p1.1]))else none else none) fun b0=>b0.i?.bind fun b1=>(m9 (aw p5) (AV.int b1) (AV.loc 6 p1.2.1)).bind fun b2=>qe b2 p5 p1 b1 p6 p7
def qg(p0:Nat×Nat)(p1:List AV)(p2:List AV×Nat×PUnit)(p3:Nat→List AV×Nat×PUnit→St→Option ρ)(p4:Nat)(p5:St):Option ρ:=
 bK (fun b0 b1 b2 b3=>((ae (aw b3) 2 p0.2).bind fun b4=>if b4.length=p1.length then some b4[b1]? else none).bind fun b5=>qf b5 b2 p2 p3 p4 b3 b0 b1) (cD (p1.length+1)) 0 ([],p2.2.1,()) p5
def qh(p0:AV)(p1:St)(p2:List AV×Nat×PUnit)(p3:Nat→List AV×Nat×PUnit→St→Option ρ)(p4:Nat):Option ρ:=
 p0.i?.bind fun b0=>(ai p1.chil (AV.int b0)).bind fun b1=>b1.l?.bind fun b2=>bif b2.1.beq 2 then(ae (aw p1) 2 b2.2).bind fun b3=>qg b2 b3 p2 p3 p4 p1 else none
def qi(p0:Option AV)(p1:List AV×Nat×PUnit)(p2:St)(K:Kb ρ)(p3:Nat)(p4:Nat→List AV×Nat×PUnit→St→Option ρ)(p5:Nat):Option ρ:=
 bz p0 (if p1.1.length<ab then(Option.map (fun b0=>!b0) (fg (aw (p2.aB (p2.r7++[AO.list p1.1]))) (AV.loc 7 p2.r7.length) (AV.loc 0 26))).bind fun b1=>qc b1 K p2 p1 p3 else none) fun b2=>qh b2 p2 p1 p4 p5
def qj(p0:Nat)(p1:List AV)(K:Kb ρ)(p2:St)(p3:List AV×PUnit)(p4:List AV):Option ρ:=
 bK (fun b0 b1 b2 b3=>((ae (aw b3) 6 p0).bind fun b4=>if b4.length=p1.length then some b4[b1]? else none).bind fun b5=>qi b5 b2 b3 K p0 b0 b1) (cD (p1.length+1)) 0 ([],p0,()) (((p2.aB (p2.r7++[AO.list p3.1])).aB (p2.r7++[AO.list p3.1]++[AO.list []])).aB (p2.r7++[AO.list p3.1]++[AO.list []]++[AO.list (ax p4 none (some 1))]))
def qk(p0:St)(p1:List AV×PUnit)(p2:List AV)(p3:Nat)(K:Kb ρ):Option ρ:=
 (ae (aw (((p0.aB (p0.r7++[AO.list p1.1])).aB (p0.r7++[AO.list p1.1]++[AO.list []])).aB (p0.r7++[AO.list p1.1]++[AO.list []]++[AO.list (ax p2 none (some 1))]))) 6 p3).bind fun b0=>qj p3 b0 K p0 p1 p2
def ql(p0:St)(p1:List AV×PUnit)(p2:List AV)(p3:Nat×Nat)(K:Kb ρ)(p4:Nat):Option ρ:=
 (Option.map (fun b0=>!b0) (fg (aw (((p0.aB (p0.r7++[AO.list p1.1])).aB (p0.r7++[AO.list p1.1]++[AO.list []])).aB (p0.r7++[AO.list p1.1]++[AO.list []]++[AO.list (ax p2 none (some 1))]))) (AV.loc 2 p3.2) (AV.loc 7 (p0.r7++[AO.list p1.1]++[AO.list []]).length))).bind fun b1=>bif b1 then ta K p0 p1 p2 else qk p0 p1 p2 p4 K
def qm(p0:St)(p1:List AV×PUnit)(p2:Nat)(p3:Nat×Nat)(K:Kb ρ):Option ρ:=
 (ae (aw ((p0.aB (p0.r7++[AO.list p1.1])).aB (p0.r7++[AO.list p1.1]++[AO.list []]))) 6 p2).bind fun b0=>if b0.length<ab then if(ax b0 none (some 1)).length<ab then ql p0 p1 b0 p3 K p2 else none else none
def qn(p0:Bool)(K:Kb ρ)(p1:St)(p2:List AV×PUnit)(p3:Nat):Option ρ:=
 bif p0 then K false ((p1.aB (p1.r7++[AO.list p2.1])).aB (p1.r7++[AO.list p2.1]++[AO.list []]))else(ai p1.chil (AV.int 0)).bind fun b0=>b0.l?.bind fun b1=>bif b1.1.beq 2 then qm p1 p2 p3 b1 K else none
def qo(p0:St)(p1:List AV×PUnit)(K:Kb ρ)(p2:Nat):Option ρ:=
 (Option.map (fun b0=>!b0) (fg (aw ((p0.aB (p0.r7++[AO.list p1.1])).aB (p0.r7++[AO.list p1.1]++[AO.list []]))) (AV.loc 7 p0.r7.length) (AV.loc 7 (p0.r7++[AO.list p1.1]).length))).bind fun b1=>qn b1 K p0 p1 p2
def qp(p0:St)(p1:Int)(p2:List AV×PUnit)(p3:Nat→List AV×PUnit→St→Option ρ)(p4:Nat):Option ρ:=
 (ai p0.spaces (AV.int p1)).bind fun b0=>b0.s?.bind fun b1=>bif !decide (b1=q "html")then if p2.1.length<ab then p3 (p4+1) (p2.1++[AV.int p1],()) p0 else none else p3 (p4+1) (p2.1,()) p0
def qq(p0:St)(p1:Nat)(p2:List AV)(p3:Nat)(p4:List AV×PUnit)(K:Kb ρ)(p5:Nat→List AV×PUnit→St→Option ρ):Option ρ:=
 ((ae (aw p0) 6 p1).bind fun b0=>if b0.length=p2.length then some b0[p3]? else none).bind fun b1=>bz b1 (if p4.1.length<ab then qo p0 p4 K p1 else none) fun b2=>b2.i?.bind fun b3=>qp p0 b3 p4 p5 p3
def qr(p0:Nat)(p1:List AV)(K:Kb ρ)(p2:St)(p3:List AV×PUnit):Option ρ:=
 bK (fun b0 b1 b2 b3=>qq b3 p0 p1 b1 b2 K b0) (cD (p1.length+1)) 0 ([],()) (p2.aB (p2.r7++[AO.list p3.1]))
def qt(p0:St)(p1:List AV×PUnit)(K:Kb ρ)(p2:Nat):Option ρ:=
 (Option.map (fun b0=>!b0) (fg (aw (p0.aB (p0.r7++[AO.list p1.1]))) (AV.loc 7 p0.r7.length) (AV.loc 0 25))).bind fun b1=>bif b1 then K false (p0.aB (p0.r7++[AO.list p1.1]))else(ae (aw (p0.aB (p0.r7++[AO.list p1.1]))) 6 p2).bind fun b2=>qr p2 b2 K p0 p1
def qu(p0:AV)(p1:St)(p2:List AV×PUnit)(p3:Nat→List AV×PUnit→St→Option ρ)(p4:Nat):Option ρ:=
 p0.i?.bind fun b0=>(ai p1.attrs (AV.int b0)).bind fun b1=>b1.l?.bind fun b2=>bif b2.1.beq 1 then if p2.1.length<ab then p3 (p4+1) (p2.1++[AV.loc 1 b2.2],()) p1 else none else none
def qv(p0:St)(p1:Nat)(p2:List AV)(p3:Nat)(p4:List AV×PUnit)(K:Kb ρ)(p5:Nat→List AV×PUnit→St→Option ρ):Option ρ:=
 ((ae (aw p0) 6 p1).bind fun b0=>if b0.length=p2.length then some b0[p3]? else none).bind fun b1=>bz b1 (if p4.1.length<ab then qt p0 p4 K p1 else none) fun b2=>qu b2 p0 p4 p5 p3
def qw(p0:Nat)(p1:List AV)(K:Kb ρ)(p2:St)(p3:List AV×PUnit):Option ρ:=
 bK (fun b0 b1 b2 b3=>qv b3 p0 p1 b1 b2 K b0) (cD (p1.length+1)) 0 ([],()) (p2.aB (p2.r7++[AO.list p3.1]))
def qx(p0:St)(p1:List AV×PUnit)(K:Kb ρ)(p2:Nat):Option ρ:=
 (Option.map (fun b0=>!b0) (fg (aw (p0.aB (p0.r7++[AO.list p1.1]))) (AV.loc 7 p0.r7.length) (AV.loc 0 24))).bind fun b1=>bif b1 then K false (p0.aB (p0.r7++[AO.list p1.1]))else(ae (aw (p0.aB (p0.r7++[AO.list p1.1]))) 6 p2).bind fun b2=>qw p2 b2 K p0 p1
def qy(p0:Option AV)(p1:List AV×PUnit)(p2:St)(K:Kb ρ)(p3:Nat)(p4:Nat→List AV×PUnit→St→Option ρ)(p5:Nat):Option ρ:=
 bz p0 (if p1.1.length<ab then qx p2 p1 K p3 else none) fun b0=>b0.i?.bind fun b1=>(ai p2.names (AV.int b1)).bind fun b2=>b2.s?.bind fun b3=>if p1.1.length<ab then p4 (p5+1) (p1.1++[AV.str b3],()) p2 else none
def qz(p0:Nat)(p1:List AV)(K:Kb ρ)(p2:St):Option ρ:=
 bK (fun b0 b1 b2 b3=>((ae (aw b3) 6 p0).bind fun b4=>if b4.length=p1.length then some b4[b1]? else none).bind fun b5=>qy b5 b2 b3 K p0 b0 b1) (cD (p1.length+1)) 0 ([],()) p2
def gv(j:Nat)(st:St)(K:Kb ρ):Option ρ:=
 (ae (aw st) 6 j).bind fun x0=>qz j x0 K st
inductive Rt where
 |unit|int|str|bool|tup|loc (r:Nat)|any
abbrev Rt.T:Rt→Type
 |.unit=>Unit
 |.int=>Int
 |.str=>Str
 |.bool=>Bool
 |.tup=>List AV
 |.loc _=>Nat
 |.any=>AV
noncomputable def Rt.v:(r:Rt)→r.T→AV
 |.unit,_=>.none
 |.int,n=>.int n
 |.str,n=>.str n
 |.bool,n=>.bool n
 |.tup,n=>.tup n
 |.loc r,n=>.loc r n
 |.any,v=>v
inductive Pa where
 |obj (i:Nat)|int|str|bool|tup|loc (r:Nat)|tokc|o3|toks
abbrev Pa.T:Pa→Type
 |.obj _=>Unit
 |.int=>Int
 |.str=>Str
 |.bool=>Bool
 |.tup=>List AV
 |.loc _=>Nat
 |.tokc=>Str
 |.o3=>Str
 |.toks=>Str×List AV×Bool
def Pa.v:(p:Pa)→p.T→AV
 |.obj i,_=>.loc 0 i
 |.int,n=>.int n
 |.str,n=>.str n
 |.bool,n=>.bool n
 |.tup,n=>.tup n
 |.loc r,n=>.loc r n
 |.tokc,c=>.tup [.str (q "char"),.str c]
 |.o3,n=>.tup [.str (q "end"),.str n,.tup [],.bool false]
 |.toks,t=>.tup [.str (q "start"),.str t.1,.tup t.2.1,.bool t.2.2]
def Kv(s:Str)(v:AV):Option Unit:=v.s?.bind fun x=>cond (x==s) (some ()) .none
def MM(s:Bool)(v:AV):Option Unit:=v.b?.bind fun x=>cond (x==s) (some ()) .none
noncomputable def hd2{α:Type}(l:List AV)(k:AV→List AV→Option α):Option α:=match l with
 |[]=>.none
 |v::l=>k v l
def Pa.un:(p:Pa)→AV→Option p.T
 |.obj i,v=>v.l?.bind fun l=>cond (Nat.beq l.1 0&&Nat.beq l.2 i) (some ()) .none
 |.int,v=>v.i?
 |.str,v=>v.s?
 |.bool,v=>v.b?
 |.tup,v=>v.t?
 |.loc r,v=>v.l?.bind fun l=>cond (Nat.beq l.1 r) (some l.2) .none
 |.tokc,v=>v.t?.bind fun l=>hd2 l fun a l=>(Kv (q "char") a).bind fun _=>(one? l).bind fun w=>w.s?
 |.o3,v=>v.t?.bind fun l=>hd2 l fun a l=>(Kv (q "end") a).bind fun _=>hd2 l fun w l=>w.s?.bind fun n=>hd2 l fun u l=>u.t?.bind fun e=>(f7 e).bind fun _=>(one? l).bind fun z=>(MM false z).bind fun _=>some n
 |.toks,v=>v.t?.bind fun l=>hd2 l fun a l=>(Kv (q "start") a).bind fun _=>hd2 l fun w l=>w.s?.bind fun n=>hd2 l fun u l=>u.t?.bind fun e=>(one? l).bind fun z=>z.b?.bind fun b=>some (n,e,b)
theorem uH{α:Type}{l:List AV}{k:AV→List AV→Option α}{x:α}(h:hd2 l k=some x):∃v r,l=v::r∧k v r=some x:=by
 cases l with
 |nil=>first|exact ns h|cases h
 |cons v l=>exact⟨v,l,rfl,h⟩
theorem CS{s:Str}{v:AV}{u:Unit}(h:Kv s v=some u):v=.str s:=by
 refine ar (ub h) fun x e h=>?_;refine xA (uc h) fun c h=>?_;exact aa (zw e) (aa (eq_of_beq c) rfl)
theorem JU{s:Bool}{v:AV}{u:Unit}(h:MM s v=some u):v=.bool s:=by
 refine ar (ub h) fun x e h=>?_;refine xA (uc h) fun c h=>?_;exact aa (IJ e) (aa (eq_of_beq c) rfl)
theorem He{α:Type}{l:List α}{u:Unit}(h:f7 l=some u):l=[]:=by cases l<;>cases h;rfl
theorem Pa.HP:∀{p:Pa}{v:AV}{t:p.T},p.un v=some t→v=p.v t
 |.obj i,v,t=>fun h=>by
  refine ar (ub h) fun n e h=>?_;refine xA (uc h) fun e2 h=>?_;have e2:=Nt.mp e2;refine aa (sx e) (aa (NR e2.1) (aa (NR e2.2) ?_));rfl
 |.int,v,t=>fun h=>F5 h
 |.str,v,t=>fun h=>zw h
 |.bool,v,t=>fun h=>IJ h
 |.tup,v,t=>fun h=>zM h
 |.loc r,v,t=>fun h=>by
  refine ar (ub h) fun n e h=>?_;refine xA (uc h) fun e2 h=>?_;revert h;refine aJ fun h=>?_;subst h;refine aa (sx e) (aa (NR e2) ?_);rfl
 |.tokc,v,t=>fun h=>by
  refine ar (ub h) fun l e h=>?_;refine eB (uH h) fun a l e'2 h=>?_;subst e'2;refine ar (ub h) fun _ e1 h=>?_;refine ar (ub h) fun w e2 h=>?_;refine aa (zM e) (aa (CS e1) (aa (jW e2) (aa (zw h) ?_)));rfl
 |.o3,v,t=>fun h=>by
  refine ar (ub h) fun l e h=>?_;refine eB (uH h) fun a l e'2 h=>?_;subst e'2;refine ar (ub h) fun _ e1 h=>?_;refine eB (uH h) fun w l e'2 h=>?_;subst e'2;refine ar (ub h) fun n e2 h=>?_;refine eB (uH h) fun u l e'2 h=>?_;subst e'2;refine ar (ub h) fun y e3 h=>?_;refine ar (ub h) fun _ e4 h=>?_;refine ar (ub h) fun z e5 h=>?_;refine ar (ub h) fun _ e6 h=>?_;revert h;refine aJ fun h=>?_;subst h;refine aa (zM e) (aa (CS e1) (aa (zw e2) (aa (zM e3) (aa (He e4) (aa (jW e5) (aa (JU e6) ?_))))));rfl
 |.toks,v,t=>fun h=>by
  refine ar (ub h) fun l e h=>?_;refine eB (uH h) fun a l e'2 h=>?_;subst e'2;refine ar (ub h) fun _ e1 h=>?_;refine eB (uH h) fun w l e'2 h=>?_;subst e'2;refine ar (ub h) fun n e2 h=>?_;refine eB (uH h) fun u l e'2 h=>?_;subst e'2;refine ar (ub h) fun y e3 h=>?_;refine ar (ub h) fun z e5 h=>?_;refine ar (ub h) fun b e6 h=>?_;revert h;refine CF fun h q1 q2=>?_;subst h q1 q2;refine aa (zM e) (aa (CS e1) (aa (zw e2) (aa (zM e3) (aa (jW e5) (aa (IJ e6) ?_)))));rfl
noncomputable abbrev PL:List Pa→Type
 |[]=>Unit
 |p::l=>p.T×PL l
noncomputable def Ky:(l:List Pa)→PL l→List AV
 |[],_=>[]
 |p::l,t=>p.v t.1::Ky l t.2
noncomputable def Kt:(l:List Pa)→List AV→Option (PL l)
 |[],[]=>some ()
 |[],_::_=>.none
 |_::_,[]=>.none
 |p::l,v::vs=>(p.un v).bind fun a=>(Kt l vs).bind fun t=>some (a,t)
theorem Gf:∀{l:List Pa}{vs:List AV}{t:PL l},Kt l vs=some t→vs=Ky l t
 |[],[],_=>fun _=>rfl
 |[],_::_,_=>fun h=>by cases h
 |_::_,[],_=>fun h=>by cases h
 |p::l,v::vs,t=>fun h=>by
  refine ar (ub h) fun a e h=>?_;refine ar (ub h) fun u e1 h=>?_;revert h;refine nv fun h q1=>?_;subst h q1;refine aa (Pa.HP e) (aa (Gf e1) ?_);rfl
def c8(k:Int)(nm:Str)(at_:List AV)(st:St)(K:Ku ρ):Option ρ:=
 if k=0 then vo nm at_ st K else if k=1 then z5 nm at_ st K else if k=2 then z6 nm at_ st K else if k=3 then qL nm at_ st K else if k=4 then qL nm at_ st K else if k=5 then qM nm at_ st K else if k=6 then qM nm at_ st K else none
structure o8 where
 dep:Nat
 pat:List Pa
 ret:Rt
 F:{ρ:Type}→PL pat→St→(ret.T→St→Option ρ)→Option ρ
def o7:o8:=⟨19,[.obj 28,.int,.str,.tup],.unit,fun t st K=>c8 t.2.1 t.2.2.1 t.2.2.2.1 st K⟩
noncomputable def kO:o8:=⟨0,[.obj 3,.int,.int],.unit,fun t st K=>.none⟩
noncomputable def vm:o8:=⟨0,[.obj 5,.int],.bool,fun t st K=>.none⟩
noncomputable def vl:o8:=⟨0,[.obj 5,.int],.bool,fun t st K=>.none⟩
def tab:List (Nat×List o8):=[(6,[⟨4,[.str,.str],.bool,fun t st K=>eC t.1 t.2.1 st K⟩]),(7,[⟨4,[.str],.bool,fun t st K=>ku t.1 st K⟩]),(10,[vm]),(11,[vl]),(16,[⟨14,[.obj 3,.str],.unit,fun t st K=>jm t.2.1 st K⟩]),(18,[⟨14,[.obj 3,.str,.tup,.str],.int,fun t st K=>bE t.2.1 t.2.2.1 t.2.2.2.1 st K⟩,⟨14,[.obj 3,.str,.tup],.int,fun t st K=>bE t.2.1 t.2.2.1 (q "html") st K⟩,⟨14,[.obj 3,.str],.int,fun t st K=>bE t.2.1 [] (q "html") st K⟩]),(21,[⟨19,[.obj 3],.unit,fun t st K=>dJ st K⟩]),(24,[⟨4,[.obj 5,.int,.str],.bool,fun t st K=>iL t.2.1 t.2.2.1 st K⟩]),(25,[⟨9,[.obj 15,.tup,.str],.bool,fun t st K=>dz t.2.1 t.2.2.1 st K⟩,⟨9,[.obj 15,.tup],.bool,fun t st K=>dz t.2.1 (q "") st K⟩]),(26,[⟨9,[.obj 15,.int,.str],.bool,fun t st K=>iJ t.2.1 t.2.2.1 st K⟩,⟨9,[.obj 15,.int],.bool,fun t st K=>iJ t.2.1 (q "") st K⟩]),(27,[⟨9,[.obj 15,.str],.unit,fun t st K=>fu t.2.1 st K⟩,⟨9,[.obj 15],.unit,fun t st K=>fu (q "") st K⟩]),(29,[⟨4,[.obj 15,.int],.unit,fun t st K=>bG t.2.1 st K⟩]),(30,[⟨14,[.obj 3,.str],.unit,fun t st K=>dU t.2.1 st K⟩]),(31,[⟨9,[.obj 3,.int],.int,fun t st K=>ko t.2.1 st K⟩]),(32,[⟨19,[.obj 3,.str],.int,fun t st K=>gX t.2.1 st K⟩]),(34,[kO]),(35,[⟨24,[.obj 3,.str],.unit,fun t st K=>ed t.2.1 st K⟩]),(37,[⟨4,[.str],.bool,fun t st K=>kQ t.1 st K⟩]),(38,[⟨29,[.obj 3],.unit,fun t st K=>jg st K⟩]),(39,[⟨34,[.obj 3,.toks],.unit,fun t st K=>fV t.2.1.1 t.2.1.2.1 t.2.1.2.2 st K⟩]),(40,[⟨24,[.obj 3,.toks],.unit,fun t st K=>eY t.2.1.1 t.2.1.2.1 t.2.1.2.2 st K⟩]),(41,[⟨14,[.obj 3,.o3],.unit,fun t st K=>gU t.2.1 st K⟩]),(42,[⟨39,[.obj 3,.toks],.unit,fun t st K=>FF t.2.1.1 t.2.1.2.1 t.2.1.2.2 st K⟩,⟨29,[.obj 3,.o3],.unit,fun t st K=>FE t.2.1 st K⟩]),(48,[⟨9,[.obj 5,.int,.int],.bool,fun t st K=>nG t.2.1 t.2.2.1 st K⟩]),(51,[⟨4,[.obj 5,.int],.loc 7,fun t st K=>nE t.2.1 st K⟩]),(54,[⟨9,[.obj 3,.toks],.bool,fun t st K=>nO t.2.1.1 t.2.1.2.1 t.2.1.2.2 st K⟩,⟨9,[.obj 3,.o3],.bool,fun t st K=>nM t.2.1 st K⟩,⟨9,[.obj 3,.tokc],.bool,fun t st K=>nL t.2.1 st K⟩]),(57,[⟨9,[.str],.str,fun t st K=>tV t.1 st K⟩]),(58,[⟨14,[.str],.str,fun t st K=>vp t.1 st K⟩]),(59,[⟨14,[.str],.str,fun t st K=>vn t.1 st K⟩]),(64,[⟨44,[.obj 3,.toks],.unit,fun t st K=>qK t.2.1.1 t.2.1.2.1 t.2.1.2.2 st K⟩,⟨34,[.obj 3,.o3],.unit,fun t st K=>qJ t.2.1 st K⟩,⟨24,[.obj 3,.tokc],.unit,fun t st K=>FG t.2.1 st K⟩]),(65,[⟨4,[.obj 0,.int],.int,fun t st K=>iI t.2.1 st K⟩]),(67,[⟨4,[.int],.tup,fun t st K=>c7 t.1 st K⟩]),(68,[⟨4,[.obj 28,.tup],.int,fun t st K=>d6 t.2.1 st K⟩]),(70,[⟨4,[.obj 28],.int,fun t st K=>gu st K⟩]),(71,[⟨4,[.obj 28,.str,.tup],.int,fun t st K=>cx t.2.1 t.2.2.1 st K⟩,⟨4,[.obj 28,.str,.loc 3],.int,fun t st K=>ky t.2.1 t.2.2.1 st K⟩]),(72,[⟨9,[.obj 28],.unit,fun t st K=>dH st K⟩]),(73,[⟨14,[.obj 28,.str],.unit,fun t st K=>gW t.2.1 st K⟩]),(74,[⟨4,[.obj 28,.int],.unit,fun t st K=>iH t.2.1 st K⟩]),(75,[⟨9,[.obj 28,.str],.unit,fun t st K=>ir t.2.1 st K⟩]),(76,[⟨9,[.obj 28,.str],.int,fun t st K=>eg t.2.1 st K⟩]),(77,[⟨14,[.obj 28,.str],.unit,fun t st K=>dW t.2.1 st K⟩]),(78,[⟨9,[.obj 28,.int],.unit,fun t st K=>ej t.2.1 st K⟩]),(79,[o7]),(80,[⟨19,[.obj 28,.int,.str],.unit,fun t st K=>jh t.2.1 t.2.2.1 st K⟩]),(81,[⟨4,[.obj 5,.loc 6,.obj 28],.bool,fun t st K=>gv t.2.1 st K⟩]),(89,[⟨4,[.obj 15,.int],.unit,fun t st K=>eE t.2.1 st K⟩]),(92,[⟨4,[.obj 15],.str,fun t st K=>fU st K⟩]),(94,[⟨9,[.obj 15,.tup],.int,fun t st K=>fS t.2.1 st K⟩]),(97,[⟨14,[.obj 18,.int],.unit,fun t st K=>dI t.2.1 st K⟩]),(99,[⟨4,[.obj 18],.unit,fun t st K=>kq st K⟩]),(100,[⟨4,[.obj 18,.str],.int,fun t st K=>nH t.2.1 st K⟩]),(103,[⟨4,[.obj 18,.int],.unit,fun t st K=>cV t.2.1 st K⟩]),(108,[⟨4,[.obj 5,.str,.str,.tup],.int,fun t st K=>fp t.2.1 t.2.2.1 t.2.2.2.1 st K⟩]),(109,[⟨4,[.obj 5,.str],.int,fun t st K=>d7 t.2.1 st K⟩]),(112,[⟨9,[.obj 5,.int,.int,.int],.unit,fun t st K=>bA t.2.1 t.2.2.1 t.2.2.2.1 st K⟩,⟨9,[.obj 5,.int,.int],.unit,fun t st K=>bA t.2.1 t.2.2.1 (-1) st K⟩]),(118,[⟨4,[.obj 5,.int,.str],.any,fun t st K=>nP t.2.1 t.2.2.1 st K⟩]),(119,[⟨4,[.obj 5,.int,.str],.bool,fun t st K=>kP t.2.1 t.2.2.1 st K⟩]),(125,[⟨29,[.obj 3,.tokc],.unit,fun t st K=>gV t.2.1 st K⟩,⟨39,[.obj 3,.o3],.unit,fun t st K=>eW t.2.1 st K⟩,⟨49,[.obj 3,.toks],.unit,fun t st K=>c6 t.2.1.1 t.2.1.2.1 t.2.1.2.2 st K⟩]),(127,[⟨4,[.obj 3],.bool,fun t st K=>fq st K⟩])]
noncomputable def lZ(k:Nat):List (Nat×List o8)→Option (List o8)
 |[]=>.none
 |(i,es)::l=>cond (Nat.beq i k) (some es) (lZ k l)
noncomputable def Ct{ρ:Type}(n:Nat)(st:St)(K:KV ρ)(args:List AV):List o8→Option ρ
 |[]=>.none
 |e::es=>match Kt e.pat args with
  |some t=>cond (Nat.ble e.dep n) (e.F t st fun r s=>K (e.ret.v r) (aw s)) .none
  |.none=>Ct n st K args es
noncomputable def fw:Nat→iG
 |0=>⟨fun _ _ _ _=>.none⟩
 |n+1=>⟨fun k args H K=>match Ig H with
  |.none=>dy RR TT PP (fw n) k args H K
  |some st=>match lZ k tab with
   |.none=>dy RR TT PP (fw n) k args H K
   |some es=>Ct n st K args es⟩
def mw(k:Nat)(e:o8):Prop:=∀{ρ:Type}(n:Nat)(t:PL e.pat)(st:St)(K:KV ρ)(x:ρ),(e.F t st fun r s=>K (e.ret.v r) (aw s))=some x→dy RR TT PP (fw (n+e.dep)) k (Ky e.pat t) (aw st) K=some x
theorem Eo{k:Nat}{e:o8}(h:∀{ρ:Type}(n:Nat)(t:PL e.pat)(st:St)(K:KV ρ),dy RR TT PP (fw (n+e.dep)) k (Ky e.pat t) (aw st) K=e.F t st fun r s=>K (e.ret.v r) (aw s)):mw k e:=fun n t st K x q=>(h n t st K).trans q
theorem Hj{ρ:Type}(n:Nat)(nm:Str)(at_:List AV)(st:St)(K:KV ρ):dy RR TT PP (fw (n+19)) 79 [.loc 0 28,.int 0,.str nm,.tup at_] (aw st) K=vo nm at_ st fun _ s=>K .none (aw s):=by kernel_rfl
theorem Hk{ρ:Type}(n:Nat)(nm:Str)(at_:List AV)(st:St)(K:KV ρ):dy RR TT PP (fw (n+19)) 79 [.loc 0 28,.int 1,.str nm,.tup at_] (aw st) K=z5 nm at_ st fun _ s=>K .none (aw s):=by kernel_rfl
theorem Hl{ρ:Type}(n:Nat)(nm:Str)(at_:List AV)(st:St)(K:KV ρ):dy RR TT PP (fw (n+19)) 79 [.loc 0 28,.int 2,.str nm,.tup at_] (aw st) K=z6 nm at_ st fun _ s=>K .none (aw s):=by kernel_rfl
theorem Hm{ρ:Type}(n:Nat)(nm:Str)(at_:List AV)(st:St)(K:KV ρ):dy RR TT PP (fw (n+19)) 79 [.loc 0 28,.int 3,.str nm,.tup at_] (aw st) K=qL nm at_ st fun _ s=>K .none (aw s):=by kernel_rfl
theorem Hn{ρ:Type}(n:Nat)(nm:Str)(at_:List AV)(st:St)(K:KV ρ):dy RR TT PP (fw (n+19)) 79 [.loc 0 28,.int 4,.str nm,.tup at_] (aw st) K=qL nm at_ st fun _ s=>K .none (aw s):=by kernel_rfl
theorem Ho{ρ:Type}(n:Nat)(nm:Str)(at_:List AV)(st:St)(K:KV ρ):dy RR TT PP (fw (n+19)) 79 [.loc 0 28,.int 5,.str nm,.tup at_] (aw st) K=qM nm at_ st fun _ s=>K .none (aw s):=by kernel_rfl
theorem Hp{ρ:Type}(n:Nat)(nm:Str)(at_:List AV)(st:St)(K:KV ρ):dy RR TT PP (fw (n+19)) 79 [.loc 0 28,.int 6,.str nm,.tup at_] (aw st) K=qM nm at_ st fun _ s=>K .none (aw s):=by kernel_rfl
theorem zq:mw 79 o7:=fun n t st K x h=>by
 obtain⟨_,k,nm,at_,_⟩:=t
 change c8 k nm at_ st _=some x at h
 change dy RR TT PP (fw (n+19)) 79 [.loc 0 28,.int k,.str nm,.tup at_] (aw st) K=some x
 unfold c8 at h;by_cases h0:k=0
 ·subst h0;exact(Hj n nm at_ st K).trans h
 rw[if_neg h0]at h;by_cases h1:k=1
 ·subst h1;exact(Hk n nm at_ st K).trans h
 rw[if_neg h1]at h;by_cases h2:k=2
 ·subst h2;exact(Hl n nm at_ st K).trans h
 rw[if_neg h2]at h;by_cases h3:k=3
 ·subst h3;exact(Hm n nm at_ st K).trans h
 rw[if_neg h3]at h;by_cases h4:k=4
 ·subst h4;exact(Hn n nm at_ st K).trans h
 rw[if_neg h4]at h;by_cases h5:k=5
 ·subst h5;exact(Ho n nm at_ st K).trans h
 rw[if_neg h5]at h;by_cases h6:k=6
 ·subst h6;exact(Hp n nm at_ st K).trans h
 rw[if_neg h6]at h;exact cZ h
theorem rQ:mw 34 kO:=fun n t st K x h=>(nomatch h)
theorem Cb:mw 10 vm:=fun n t st K x h=>(nomatch h)
theorem Ca:mw 11 vl:=fun n t st K x h=>(nomatch h)
noncomputable def Dk(k:Nat):List o8→Prop
 |[]=>True
 |e::es=>mw k e∧Dk k es
noncomputable def zN:List (Nat×List o8)→Prop
 |[]=>True
 |p::l=>Dk p.1 p.2∧zN l
theorem HH:zN tab:=⟨⟨Eo fun n t st K=>by kernel_rfl,trivial⟩,⟨Eo fun n t st K=>by kernel_rfl,trivial⟩,⟨Cb,trivial⟩,⟨Ca,trivial⟩,⟨Eo fun n t st K=>by kernel_rfl,trivial⟩,⟨Eo fun n t st K=>by kernel_rfl,Eo fun n t st K=>by kernel_rfl,Eo fun n t st K=>by kernel_rfl,trivial⟩,⟨Eo fun n t st K=>by kernel_rfl,trivial⟩,⟨Eo fun n t st K=>by kernel_rfl,trivial⟩,⟨Eo fun n t st K=>by kernel_rfl,Eo fun n t st K=>by kernel_rfl,trivial⟩,⟨Eo fun n t st K=>by kernel_rfl,Eo fun n t st K=>by kernel_rfl,trivial⟩,⟨Eo fun n t st K=>by kernel_rfl,Eo fun n t st K=>by kernel_rfl,trivial⟩,⟨Eo fun n t st K=>by kernel_rfl,trivial⟩,⟨Eo fun n t st K=>by kernel_rfl,trivial⟩,⟨Eo fun n t st K=>by kernel_rfl,trivial⟩,⟨Eo fun n t st K=>by kernel_rfl,trivial⟩,⟨rQ,trivial⟩,⟨Eo fun n t st K=>by kernel_rfl,trivial⟩,⟨Eo fun n t st K=>by kernel_rfl,trivial⟩,⟨Eo fun n t st K=>by kernel_rfl,trivial⟩,⟨Eo fun n t st K=>by kernel_rfl,trivial⟩,⟨Eo fun n t st K=>by kernel_rfl,trivial⟩,⟨Eo fun n t st K=>by kernel_rfl,trivial⟩,⟨Eo fun n t st K=>by kernel_rfl,Eo fun n t st K=>by kernel_rfl,trivial⟩,⟨Eo fun n t st K=>by kernel_rfl,trivial⟩,⟨Eo fun n t st K=>by kernel_rfl,trivial⟩,⟨Eo fun n t st K=>by kernel_rfl,Eo fun n t st K=>by kernel_rfl,Eo fun n t st K=>by kernel_rfl,trivial⟩,⟨Eo fun n t st K=>by kernel_rfl,trivial⟩,⟨Eo fun n t st K=>by kernel_rfl,trivial⟩,⟨Eo fun n t st K=>by kernel_rfl,trivial⟩,⟨Eo fun n t st K=>by kernel_rfl,Eo fun n t st K=>by kernel_rfl,Eo fun n t st K=>by kernel_rfl,trivial⟩,⟨Eo fun n t st K=>by kernel_rfl,trivial⟩,⟨Eo fun n t st K=>by kernel_rfl,trivial⟩,⟨Eo fun n t st K=>by kernel_rfl,trivial⟩,⟨Eo fun n t st K=>by kernel_rfl,trivial⟩,⟨Eo fun n t st K=>by kernel_rfl,Eo fun n t st K=>by kernel_rfl,trivial⟩,⟨Eo fun n t st K=>by kernel_rfl,trivial⟩,⟨Eo fun n t st K=>by kernel_rfl,trivial⟩,⟨Eo fun n t st K=>by kernel_rfl,trivial⟩,⟨Eo fun n t st K=>by kernel_rfl,trivial⟩,⟨Eo fun n t st K=>by kernel_rfl,trivial⟩,⟨Eo fun n t st K=>by kernel_rfl,trivial⟩,⟨Eo fun n t st K=>by kernel_rfl,trivial⟩,⟨zq,trivial⟩,⟨Eo fun n t st K=>by kernel_rfl,trivial⟩,⟨Eo fun n t st K=>by kernel_rfl,trivial⟩,⟨Eo fun n t st K=>by kernel_rfl,trivial⟩,⟨Eo fun n t st K=>by kernel_rfl,trivial⟩,⟨Eo fun n t st K=>by kernel_rfl,trivial⟩,⟨Eo fun n t st K=>by kernel_rfl,trivial⟩,⟨Eo fun n t st K=>by kernel_rfl,trivial⟩,⟨Eo fun n t st K=>by kernel_rfl,trivial⟩,⟨Eo fun n t st K=>by kernel_rfl,trivial⟩,⟨Eo fun n t st K=>by kernel_rfl,trivial⟩,⟨Eo fun n t st K=>by kernel_rfl,trivial⟩,⟨Eo fun n t st K=>by kernel_rfl,Eo fun n t st K=>by kernel_rfl,trivial⟩,⟨Eo fun n t st K=>by kernel_rfl,trivial⟩,⟨Eo fun n t st K=>by kernel_rfl,trivial⟩,⟨Eo fun n t st K=>by kernel_rfl,Eo fun n t st K=>by kernel_rfl,Eo fun n t st K=>by kernel_rfl,trivial⟩,⟨Eo fun n t st K=>by kernel_rfl,trivial⟩,trivial⟩
theorem HG{k i:Nat}{es:List o8}{l:List (Nat×List o8)}:lZ k ((i,es)::l)=cond (Nat.beq i k) (some es) (lZ k l):=rfl
theorem r_{k:Nat}{es:List o8}:∀{l:List (Nat×List o8)},zN l→lZ k l=some es→Dk k es
 |[]=>fun _ h=>by cases h
 |p::l=>fun a h=>by
  rw[HG]at h;cases c:Nat.beq p.1 k with
  |true=>rw[c]at h;cases h;exact NR c▸a.1
  |false=>rw[c]at h;exact r_ a.2 h
theorem wD{ρ:Type}{n k:Nat}{st:St}{K:KV ρ}{args:List AV}{x:ρ}:∀{es:List o8},Dk k es→Ct n st K args es=some x→dy RR TT PP (fw n) k args (aw st) K=some x
 |[]=>fun _ h=>by cases h
 |e::es=>fun a h=>by
  unfold Ct at h;cases c:Kt e.pat args with
  |none=>rw[c]at h;exact wD a.2 h
  |some t=>
   rw[c]at h;refine xA (uc h) fun d h=>?_;have d:=OV d;have:=a.1 (n-e.dep) t st K x h
   rwa [Nat.sub_add_cancel d,←Gf c]at this
theorem vD:∀n,kM (fw n) (ib PP n)
 |0=>⟨fun h=>(nomatch h)⟩
 |n+1=>⟨fun{ρ k args H K x}h=>by
  have S:=(r8 (W:=RR) (T:=TT) (vD n)).c (n:=k) (args:=args) (H:=H) (k:=K) (x:=x)
  change(match Ig H with
   |.none=>dy RR TT PP (fw n) k args H K
   |some st=>match lZ k tab with
    |.none=>dy RR TT PP (fw n) k args H K
    |some es=>Ct n st K args es)=some x at h
  cases c:Ig H with
  |none=>rw[c]at h;exact S h
  |some st=>
   rw[c]at h;cases d:lZ k tab with
   |none=>rw[d]at h;exact S h
   |some es=>
    rw[d]at h;have:=wD (r_ HH d) h;rw[←CU c]at this;exact S this⟩
def gD:zK:=((PP.fn 82)).getD ⟨"","",[],[],[],default⟩
def v8{ρ:Type}(cal:iG)(names:List AV)(st:St)(K:KV ρ):Option ρ:=
 mq ((uD RR TT PP cal iw).x gD.scope) (fun _ _=>.none) (fun v _ H=>K v H) (gD.body.drop 4) [("script",.loc 0 0),("names",.tup names),("builder",.loc 0 3),("m",.loc 0 28)] (aw st) (fun _ H=>K .none H)
def tF(names:List AV)(st:St)(K:Kb ρ):Option ρ:=
 bK (fun(go0:Nat→List AV×PUnit→St→Option ρ)(j1:Nat)(t2:List AV×PUnit)(s3:St)=>bz (aH 0 24 1)[j1]? (if s3.kinds.length<ab then if small (↑s3.kinds.length:Int)=true then if(true&&small (↑s3.kinds.length:Int)&&true)=true then bK (fun(go4:Nat→List AV×PUnit→St→Option ρ)(j5:Nat)(t6:List AV×PUnit)(s7:St)=>bz (aH 0 (↑s3.kinds.length:Int) 1)[j5]? (if t6.1.length<ab then(ae (aw (s7.bt (s7.r6++[AO.list t6.1]))) 6 s7.r6.length).bind fun(x8:List AV)=>if x8.length<ab then if s7.mnames.length<ab then bif !decide ((↑x8.length:Int)=(↑s7.mnames.length:Int))then K false (s7.bt (s7.r6++[AO.list t6.1]))else gv s7.r6.length (s7.bt (s7.r6++[AO.list t6.1])) fun(x9:Bool)(s10:St)=>bif !x9 then K false s10 else(ae (aw s10) 5 s10.mopen).bind fun(x11:List AV)=>bK (fun(go12:Nat→List AV×Nat×PUnit→St→Option ρ)(j13:Nat)(t14:List AV×Nat×PUnit)(s15:St)=>((ae (aw s15) 5 s10.mopen).bind fun(x16:List AV)=>if x16.length=x11.length then some x16[j13]? else none).bind fun(x17:Option AV)=>bz x17 (if t14.1.length<ab then(Option.map (fun(x18:Bool)=>!x18) (fg (aw (s15.aB (s15.r7++[AO.list t14.1]))) (AV.loc 0 16) (AV.loc 7 s15.r7.length))).bind fun(x19:Bool)=>bif x19 then K false (s15.aB (s15.r7++[AO.list t14.1]))else(ae (aw (s15.aB (s15.r7++[AO.list t14.1]))) 6 s15.mlist).bind fun(x20:List AV)=>bK (fun(go21:Nat→List AV×Nat×PUnit→St→Option ρ)(j22:Nat)(t23:List AV×Nat×PUnit)(s24:St)=>((ae (aw s24) 6 s15.mlist).bind fun(x25:List AV)=>if x25.length=x20.length then some x25[j22]? else none).bind fun(x26:Option AV)=>bz x26 (if t23.1.length<ab then(Option.map (fun(x27:Bool)=>!x27) (fg (aw (s24.aB (s24.r7++[AO.list t23.1]))) (AV.loc 0 19) (AV.loc 7 s24.r7.length))).bind fun(x28:Bool)=>bif x28 then K false (s24.aB (s24.r7++[AO.list t23.1]))else bK (fun(go29:Nat→List AV×PUnit→St→Option ρ)(j30:Nat)(t31:List AV×PUnit)(s32:St)=>(if s32.merrs.length=s24.merrs.length then some s32.merrs[j30]? else none).bind fun(x33:Option AV)=>bz x33 (if t31.1.length<ab then(Option.map (fun(x34:Bool)=>!x34) (fg (aw (s32.aB (s32.r7++[AO.list t31.1]))) (AV.loc 0 22) (AV.loc 7 s32.r7.length))).bind fun(x35:Bool)=>bif x35 then K false (s32.aB (s32.r7++[AO.list t31.1]))else bif(PyData.bool s32.free).eqv (PyData.bool s32.ig)then K true (s32.aB (s32.r7++[AO.list t31.1]))else K ((PyData.bool s32.free).eqv (PyData.bool s32.ig)) (s32.aB (s32.r7++[AO.list t31.1]))else none) fun(x36:AV)=>x36.s?.bind fun(x37:Str)=>if t31.1.length<ab then go29 (j30+1) (t31.1++[AV.tup [AV.str x37,AV.str (q "in body")]],()) s32 else none) (cD (s24.merrs.length+1)) 0 ([],()) (s24.aB (s24.r7++[AO.list t23.1]))else none) fun(x38:AV)=>x38.i?.bind fun(x39:Int)=>bif !decide (x39=-1)then(ae (aw s24) 6 t23.2.1).bind fun(x40:List AV)=>(ai x40 (AV.int x39)).bind fun(x41:AV)=>x41.i?.bind fun(x42:Int)=>if t23.1.length<ab then go21 (j22+1) (t23.1++[AV.int x42],t23.2.1,()) s24 else none else if t23.1.length<ab then go21 (j22+1) (t23.1++[AV.int (-1)],t23.2.1,()) s24 else none) (cD (x20.length+1)) 0 ([],s7.r6.length,()) (s15.aB (s15.r7++[AO.list t14.1]))else none) fun(x43:AV)=>x43.i?.bind fun(x44:Int)=>(ae (aw s15) 6 t14.2.1).bind fun(x45:List AV)=>(ai x45 (AV.int x44)).bind fun(x46:AV)=>x46.i?.bind fun(x47:Int)=>if t14.1.length<ab then go12 (j13+1) (t14.1++[AV.int x47],t14.2.1,()) s15 else none) (cD (x11.length+1)) 0 ([],s7.r6.length,()) s10 else none else none else none) fun(x48:AV)=>x48.i?.bind fun(x49:Int)=>(ai s7.kinds (AV.int x49)).bind fun(x50:AV)=>x50.s?.bind fun(x51:Str)=>bif decide (x51=q "element")then if t6.1.length<ab then go4 (j5+1) (t6.1++[AV.int x49],()) s7 else none else go4 (j5+1) (t6.1,()) s7) (cD ((aH 0 (↑s3.kinds.length:Int) 1).length+1)) 0 ([],()) s3 else none else none else none) fun(x52:AV)=>x52.i?.bind fun(x53:Int)=>iI x53 s3 fun(x54:Int)(s55:St)=>bif decide (x54%8=7)then if 0≤97+x53∧97+x53<128 then gV {cps:=#[(97+x53).toNat]} s55 fun(x56:Unit)(s57:St)=>if 0≤97+x53∧97+x53<128 then gW {cps:=#[(97+x53).toNat]} s57 fun(x58:Unit)(s59:St)=>go0 (j1+1) (t2.1,()) s59 else none else none else bif decide (7<x54%16)then(ai t2.1 (AV.int (x54%8))).bind fun(x60:AV)=>x60.s?.bind fun(x61:Str)=>eW x61 s55 fun(x62:Unit)(s63:St)=>(ai t2.1 (AV.int (x54%8))).bind fun(x64:AV)=>x64.s?.bind fun(x65:Str)=>jh (x54%8) x65 s63 fun(x66:Unit)(s67:St)=>go0 (j1+1) (t2.1,()) s67 else(ai t2.1 (AV.int (x54%8))).bind fun(x68:AV)=>x68.s?.bind fun(x69:Str)=>c7 x54 s55 fun(x70:List AV)(s71:St)=>c6 x69 x70 (decide (x54/80%4=3)) s71 fun(x72:Unit)(s73:St)=>(ai t2.1 (AV.int (x54%8))).bind fun(x74:AV)=>x74.s?.bind fun(x75:Str)=>c7 x54 s73 fun(x76:List AV)(s77:St)=>c8 (x54%8) x75 x76 s77 fun(x78:Unit)(s79:St)=>bif decide (x54/80%4=3)then if s79.merrs.length<ab then go0 (j1+1) (t2.1,()) (s79.aX (s79.merrs++[AV.str (q "non-void-html-element-start-tag-with-trailing-solidus")]))else none else go0 (j1+1) (t2.1,()) s79) (cD 25) 0 (names,()) st
theorem EJ{ρ:Type}(n:Nat)(names:List AV)(st:St)(K:KV ρ):v8 (fw (n+60)) names st K=tF names st fun b s=>K (.bool b) (aw s):=by kernel_rfl
def JF:List AO:=[.list (["b","big","code","em","font","i","s","small","strike","strong","tt","u"].map fun s=>AV.str (q s)),.list (["rt","rp","rb","rtc","optgroup","option"].map fun s=>AV.str (q s)),.list [],.list [.int 0],.list [.int 0]]
def Lu(ns:List Int):St where
 dg:=ns.map .int
 kinds:=[.str (q "document"),.str (q "element"),.str (q "element"),.str (q "element")]
 spaces:=[.str (q ""),.str (q "html"),.str (q "html"),.str (q "html")]
 names:=[.str (q ""),.str (q "html"),.str (q "head"),.str (q "body")]
 attrs:=[.loc 1 0,.loc 1 1,.loc 1 2,.loc 1 3]
 texts:=[.str (q ""),.str (q ""),.str (q ""),.str (q "")]
 parents:=[.int (-1),.int 0,.int 1,.int 1]
 chil:=[.loc 2 0,.loc 2 1,.loc 2 2,.loc 2 3]
 stk:=[.int 1,.int 3]
 fmt:=[]
 aq:=[]
 free:=true
 mnames:=[.str (q "html"),.str (q "head"),.str (q "body")]
 mattrs:=[.loc 3 0,.loc 3 1,.loc 3 2]
 mkids:=[.loc 4 0,.loc 4 1,.loc 4 2]
 merrs:=[]
 mopen:=0
 mlist:=0
 ig:=true
 r1:=[.list [],.list [],.list [],.list []]
 r2:=[.list [.int 1],.list [.int 2,.int 3],.list [],.list []]
 r3:=[.list [],.list [],.list []]
 r4:=[.list [.int 1,.int 2],.list [],.list []]
 r5:=[.list [.int 0,.int 2]]
 r6:=[.list []]
 r7:=JF
def oQ:List AV:=["b","big","code","em","font","i","s","small","strike","strong","tt","u"].map fun s=>AV.str (q s)
def lD:List AV:=["rt","rp","rb","rtc","optgroup","option"].map fun s=>AV.str (q s)
def EY(a b c:Str):List AV:=[.str (q "a"),.str a,.str (q "nobr"),.str (q "applet"),.str c,.str (q "table"),.str b]
theorem EH{ρ:Type}(n:Nat)(ns:List Int)(K:KV ρ):dy RR TT PP (fw (n+60)) 82 [.loc 0 0] (H0 ns) K=
 (cQ (ns.map .int)).bind fun l=>(ai oQ (.int (l.sum%12))).bind fun v=>v.s?.bind fun a=>(ai lD (.int (l.sum/24%6))).bind fun v=>v.s?.bind fun b=>
  (ai [.str (q "object"),.str (q "marquee")] (.int (l.sum/12%2))).bind fun v=>v.s?.bind fun c=>v8 (fw (n+60)) (EY a b c) (Lu ns) K:=by kernel_rfl
end Hx
namespace Hx
open PySem
theorem fT{α:Type}{c:Prop} [Decidable c]{a b r:α}(h:c)(k:a=r):(if c then a else b)=r:=(if_pos h).trans k
theorem cT{α:Type}{c:Bool}{a b r:α}(h:c=true)(k:a=r):cond c a b=r:=by refine aa h ?_;exact k
theorem cF{α:Type}{c:Bool}{a b r:α}(h:c=false)(k:b=r):cond c a b=r:=by refine aa h ?_;exact k
theorem oS{α ρ:Type}{o:Option α}{kn:Option ρ}{ks:α→Option ρ}{v:α}{r:Option ρ}(h:o=some v)(k:ks v=r):bz o kn ks=r:=by refine aa h ?_;exact k
theorem oN{α ρ:Type}{o:Option α}{kn:Option ρ}{ks:α→Option ρ}{r:Option ρ}(h:o=none)(k:kn=r):bz o kn ks=r:=by refine aa h ?_;exact k
theorem nT{c:Bool}(h:c=false):(!c)=true:=by refine aa h ?_;rfl
theorem nF{c:Bool}(h:c=true):(!c)=false:=by refine aa h ?_;rfl
theorem dT{c:Prop} [Decidable c](h:c):decide c=true:=decide_eq_true h
theorem dF{c:Prop} [Decidable c](h:¬c):decide c=false:=decide_eq_false h
abbrev cj:=Str×Str
structure Tr where
 (N n:Nat)
 rk:Nat→Option Nat
 id:Nat→Nat
 nm:Nat→Str
 bc:Nat→List cj
 tx:Nat→Str
 par:Nat→Int
 av:Nat→List Nat
structure Bs where
 X:Tr
 aj:List Nat
 ah:List (Option Nat)
 aq:List Str
 free:Bool
structure Ms where
 n:Nat
 nm:Nat→Str
 bc:Nat→List cj
 av:Nat→List (Nat⊕Str)
 aj:List Nat
 ah:List (Option Nat)
 aq:List Str
 free:Bool
structure Jk where
 dg:List AV
 (mo ml:Nat)
 (r5 r6 r7:List AO)
noncomputable def bF{α:Type}(n:Nat)(f:Nat→α):List α:=(List.range n).map f
noncomputable def a8(n:Nat):AV:=.int (n:Int)
noncomputable def MX(f:Nat→Nat):Option Nat→AV
 |.none=>.int (-1)
 |some k=>.int (f k:Int)
noncomputable def cy(p:cj):AV:=.tup [.str p.1,.str p.2]
noncomputable def h_:Nat⊕Str→AV
 |.inl k=>.int (k:Int)
 |.inr s=>.str s
def Tr.kd(X:Tr)(i:Nat):Str:=if i=0 then q "document"else match X.rk i with|some _=>q "element"|.none=>q "text"
def Tr.sp(X:Tr)(i:Nat):Str:=match X.rk i with|some _=>q "html"|.none=>q ""
def Tr.kH(X:Tr)(i:Nat):Str:=match X.rk i with|some k=>X.nm k|.none=>q ""
noncomputable def Tr.sv(X:Tr)(i:Nat):List cj:=match X.rk i with|some k=>X.bc k|.none=>[]
def ag(B:Bs)(M:Ms)(J:Jk):St where
 dg:=J.dg
 kinds:=bF B.X.N fun i=>.str (B.X.kd i)
 spaces:=bF B.X.N fun i=>.str (B.X.sp i)
 names:=bF B.X.N fun i=>.str (B.X.kH i)
 attrs:=bF B.X.N fun i=>.loc 1 i
 texts:=bF B.X.N fun i=>.str (B.X.tx i)
 parents:=bF B.X.N fun i=>.int (B.X.par i)
 chil:=bF B.X.N fun i=>.loc 2 i
 stk:=(B.aj.map fun k=>a8 (B.X.id k)).reverse
 fmt:=(B.ah.map (MX B.X.id)).reverse
 aq:=B.aq.map fun w=>.tup [.str w,.str (q "in body")]
 free:=B.free
 mnames:=bF M.n fun i=>.str (M.nm i)
 mattrs:=bF M.n fun i=>.loc 3 i
 mkids:=bF M.n fun i=>.loc 4 i
 merrs:=M.aq.map .str
 mopen:=J.mo
 mlist:=J.ml
 ig:=M.free
 r1:=bF B.X.N fun i=>.list ((B.X.sv i).map cy)
 r2:=bF B.X.N fun i=>.list ((B.X.av i).map a8)
 r3:=bF M.n fun i=>.list ((M.bc i).map cy)
 r4:=bF M.n fun i=>.list ((M.av i).map h_)
 r5:=J.r5
 r6:=J.r6
 r7:=J.r7
theorem aS{n:Nat}(h:n<1000000000):small (n:Int)=true:=Nat.ble_eq_true_of_le h
theorem hH{i n:Nat}(h:i<n):idx (i:Int) n=some i:=by
 unfold idx;refine aa (if_pos (OI i)) (aa (if_pos (Ox.mpr h)) ?_);rw[Int.toNat_natCast]
theorem bp{vs:List AV}{i:Nat}{v:AV}(h:vs[i]?=some v)(c:i<1000000000):ai vs (.int (i:Int))=some v:=by
 have hl:i<vs.length:=by
  rcases OX i vs.length with q|q
  ·exact q
  ·rw[NO q]at h;exact cZ h
 refine(?_:(if small (i:Int)then(idx (i:Int) vs.length).bind (vs[·]?)else .none)=_);refine aa (if_pos (aS c)) (aa (hH hl) ?_);exact h
theorem cK{α:Type}{n i:Nat}{f:Nat→α}(h:i<n):(bF n f)[i]?=some (f i):=by
 refine aa (Nz) (aa (OF h) ?_);rfl
theorem aW{α:Type}{n:Nat}{f:Nat→α}:(bF n f).length=n:=by simp[bF]
theorem fI{n i:Nat}{f:Nat→AV}(h:i<n)(c:n<1000000000):ai (bF n f) (.int (i:Int))=some (f i):=bp (cK h) (N_ (by assumption) (by assumption))
theorem rH{l:List AV}{v:AV}(c:l.length<1000000):ai (v::l).reverse (.int (((v::l).reverse.length:Int)-1))=some v:=by
 have e:(((v::l).reverse.length:Int)-1)=(l.length:Int):=by simp
 refine aa e ?_;exact bp (by simp) (mu c)
theorem vY{ρ τ σ:Type}{step:(Nat→τ→σ→Option ρ)→Nat→τ→σ→Option ρ}{n:Nat}:∀(m i:Nat)(T:Nat→τ)(S:Nat→σ),(∀j,i≤j→j<i+m→∀go,step go j (T j) (S j)=go (j+1) (T (j+1)) (S (j+1)))→
 bK step (m+n+1) i (T i) (S i)=step (bK step n) (i+m) (T (i+m)) (S (i+m))
 |0=>fun i T S h=>by rw[O0];rfl
 |m+1=>fun i T S h=>by
  refine aa (show m+1+n+1=(m+n+1)+1 by exact(Pb (LE [_,_] (Sx (.a (Sx V0) V1)) (Sx (Sx (.a V0 V1))) rfl) (LE [_,_] (Sx (Sx (.a V0 V1))) (Sx (.a (Sx V0) V1)) rfl))) ?_;show step (bK step (m+n+1)) i (T i) (S i)=_;rw[h i (NQ i) ((LE [_,_] (Sx V0) (.a V0 (Sx V1)) rfl))];have:=vY (step:=step) (n:=n) m (i+1) T S fun j a b go=>h j (NS (by assumption)) ((LA [_,_,_] (Sx V0) (.a V1 (Sx V2)) (Sx V0) (.a (Sx V1) V2) rfl b)) go;exact aa this (aa (show i+1+m=i+(m+1) by exact H5) rfl)
theorem bD{ρ τ σ:Type}{step:(Nat→τ→σ→Option ρ)→Nat→τ→σ→Option ρ}{c:Nat}(m:Nat)(T:Nat→τ)(S:Nat→σ)(hc:m<c)(h:∀j,j<m→∀go,step go j (T j) (S j)=go (j+1) (T (j+1)) (S (j+1))):
 bK step (cD c) 0 (T 0) (S 0)=step (bK step (c-m-1)) m (T m) (S m):=by
 rw[gJ];refine aa (show c=m+(c-m-1)+1 by exact((congrArg (_+·) (Nat.sub_add_cancel (Nat.sub_pos_of_lt hc))).trans (O4 (NS hc))).symm) ?_;refine aa (vY (n:=c-m-1) m 0 T S fun j _ b go=>h j (Nc b) go) ?_;rw[O0];exact aa (show m+(c-m-1)+1-m-1=c-m-1 by exact Nh) rfl
theorem Jq{ρ τ σ:Type}{step:(Nat→τ→σ→Option ρ)→Nat→τ→σ→Option ρ}{c m i:Nat}{t t':τ}{s s':σ}(h:c=m)(ht:t=t')(hs:s=s'):bK step (cD c) i t s=bK step m i t' s':=by rw[gJ];exact aa h (aa ht (aa hs rfl))
theorem eI{ρ τ σ:Type}{step:(Nat→τ→σ→Option ρ)→Nat→τ→σ→Option ρ}{c:Nat}(m:Nat)(T:Nat→τ)(S:Nat→σ){t0:τ}{s0:σ}(ht:t0=T 0)(hs:s0=S 0)(hc:m<c)(h:∀j,j<m→∀go,step go j (T j) (S j)=go (j+1) (T (j+1)) (S (j+1))):
 bK step (cD c) 0 t0 s0=step (bK step (c-m-1)) m (T m) (S m):=by
 subst ht hs;exact bD m T S hc h
structure dn (B:Bs):Prop where
 N:B.X.N<1000000
 aj:B.aj.length<1000000
 ah:B.ah.length<1000000
 aq:B.aq.length<1000000
structure gx (X:Tr):Prop where
 lt:∀k,k<X.n→X.id k<X.N
 rk:∀k,k<X.n→X.rk (X.id k)=some k
 pos:∀k,k<X.n→0<X.id k
section
variable{B:Bs}{M:Ms}{J:Jk}
theorem eZ{k:Nat}{l:List Nat}(h:B.aj=k::l)(F:dn B)(U:gx B.X)(hk:k<B.X.n){ρ:Type}(K:Str→St→Option ρ):fU (ag B M J) K=K (B.X.nm k) (ag B M J):=by
 have e:(ag B M J).stk=(a8 (B.X.id k)::l.map fun k=>a8 (B.X.id k)).reverse:=by show(B.aj.map _).reverse=_;exact aa h rfl
 have hl:l.length<1000000:=by have:=F.aj;rw[h]at this;simp at this;exact NS (by assumption)
 have c1:(ag B M J).stk.length<ab:=by refine aa e ?_;simp[ab];exact(LA [_] (Sx (Sx V0)) (.k 1048576) (Sx V0) (.k 1000000) rfl hl)
 have c2:((ag B M J).stk.length:Int)≠0:=by refine aa e ?_;simp;exact MS
 have it:ai (ag B M J).stk (.int (((ag B M J).stk.length:Int)-1))=some (a8 (B.X.id k)):=by refine aa e ?_;exact rH (by simpa using hl)
 have s1:ai (ag B M J).spaces (.int (B.X.id k:Int))=some (.str (B.X.sp (B.X.id k))):=fI (U.lt k hk) (by have:=F.N;exact mu this);have s2:ai (ag B M J).names (.int (B.X.id k:Int))=some (.str (B.X.kH (B.X.id k))):=fI (U.lt k hk) (by have:=F.N;exact mu this);have s3:B.X.sp (B.X.id k)=q "html":=by unfold Tr.sp;exact aa (U.rk k hk) rfl
 have s4:B.X.kH (B.X.id k)=B.X.nm k:=by unfold Tr.kH;exact aa (U.rk k hk) rfl
 have s5:(B.X.id k:Int)≠-1:=Nd;rw[s3]at s1;rw[s4]at s2;exact fT c1 (cF (dF c2) (fT c1 (bd it (bd rfl (cF (dF s5) (bd s1 (bd rfl (cF (nF (dT rfl)) (bd s2 (bd rfl rfl))))))))))
end
theorem cL{α:Type}{p:α→Bool}:∀{l:List α}{j:Nat},j<(l.takeWhile p).length→∃k,l.drop j=k::l.drop (j+1)∧p k=true
 |[],j=>fun h=>by cases h
 |a::l,j=>fun h=>by
  rw[List.takeWhile_cons]at h;split at h
  ·cases j with
   |zero=>exact⟨a,rfl,‹_›⟩
   |succ j=>exact cL (l:=l) (by simpa using h)
  ·cases h
theorem bM{α:Type}{p:α→Bool}:∀{l:List α},l.drop (l.takeWhile p).length=l.dropWhile p
 |[]=>rfl
 |a::l=>by
  refine aa List.takeWhile_cons (aa N2 ?_);split
  ·exact bM (l:=l)
  ·rfl
theorem gk{α:Type}{p:α→Bool}{l:List α}:(l.takeWhile p).length≤l.length:=(List.takeWhile_sublist p).length_le
section
variable{B:Bs}{M:Ms}{J:Jk}
theorem dn.sub(F:dn B){o:List Nat}(h:o.length≤B.aj.length):dn {B with aj:=o}:=⟨F.N,NA h F.aj,F.ah,F.aq⟩
theorem aE{α:Type}{l:List α}(h:l.length<1000000):l.length<ab:=N_ h (by decide)
theorem ez(F:dn B):(ag B M J).stk.length<ab:=by
 refine aE ?_;refine aa Nx ?_;rw[Nn];exact F.aj
structure Top (B:Bs) (M:Ms) (J:Jk) (k:Nat) (l:List Nat):Prop where
 c1:(ag B M J).stk.length<ab
 c2:decide (((ag B M J).stk.length:Int)=0)=false
 c3:decide (0<((ag B M J).stk.length:Int))=true
 it:ai (ag B M J).stk (.int (((ag B M J).stk.length:Int)-1))=some (.int (B.X.id k:Int))
 gl:(ag B M J).stk.getLast?=some (.int (B.X.id k:Int))
 dl:(ag B M J).ec (ag B M J).stk.dropLast=ag {B with aj:=l} M J
theorem top{k:Nat}{l:List Nat}(h:B.aj=k::l)(F:dn B):Top B M J k l:=by
 have e:(ag B M J).stk=(a8 (B.X.id k)::l.map fun k=>a8 (B.X.id k)).reverse:=by show(B.aj.map _).reverse=_;exact aa h rfl
 have hl:l.length<1000000:=by have:=F.aj;rw[h]at this;simp at this;exact NS (by assumption)
 refine⟨ez F,decide_eq_false (by refine aa e ?_;simp;exact MS),decide_eq_true (by refine aa e ?_;simp),by refine aa e ?_;exact rH (by simpa using hl),by refine aa e ?_;simp[a8],?_⟩;refine aa e (aa NN (aa List.dropLast_concat ?_))
 rfl
def Jn:List AV:=[AV.str (q "dd"),AV.str (q "dt"),AV.str (q "li"),AV.str (q "optgroup"),AV.str (q "option"),AV.str (q "p"),AV.str (q "rb"),AV.str (q "rp"),AV.str (q "rt"),AV.str (q "rtc")]
def impl(x:Str):Bool:=(bg (.str x) Jn).getD false
theorem vW(x:Str):bg (.str x) [AV.str (q "dd"),AV.str (q "dt"),AV.str (q "li"),AV.str (q "optgroup"),AV.str (q "option"),AV.str (q "p"),AV.str (q "rb"),AV.str (q "rp"),AV.str (q "rt"),AV.str (q "rtc")]=some (impl x):=by rfl
def fh(X:Tr)(but:Str)(k:Nat):Bool:=impl (X.nm k)&&!decide (X.nm k=but)
theorem kW{but:Str}{k:Nat}{l:List Nat}(hr:B.aj.dropWhile (fh B.X but)=k::l)(F:dn B)(U:gx B.X)(hk:∀k∈B.aj,k<B.X.n) {ρ:Type} (K:Ku ρ):
 fu but (ag B M J) K=K () (ag {B with aj:=k::l} M J):=by
 let S:Nat→St:=fun j=>ag {B with aj:=B.aj.drop j} M J;have fit:∀j,dn {B with aj:=B.aj.drop j}:=fun j=>F.sub (by refine aa Oj ?_;exact z9);have mem:∀{j a r},B.aj.drop j=a::r→a<B.X.n:=fun{j a r}e=>hk a (Ob (i:=j) (by refine aa e ?_;exact .head _));have hm:(B.aj.takeWhile (fh B.X but)).length<cg:=NA gk (NJ F.aj (by decide));refine(bD _ (fun _=>(but,Jn,())) S hm ?_).trans ?_
 ·intro j hj go;refine ar (cL hj) fun a e p=>?_;refine xA (Nt.mp p) fun p1 p2=>?_;have t:=top (M:=M) (J:=J) e (fit j);refine(eZ e (fit j) U (mem e) _).trans (bd (vW _) (cT p1 ((eZ e (fit j) U (mem e) _).trans (cT p2 (fT t.c1 (cF t.c2 (fT t.c1 (bd t.gl (bd rfl ?_)))))))));exact aa t.dl rfl
 ·have e:B.aj.drop (B.aj.takeWhile (fh B.X but)).length=k::l:=bM.trans hr
  have p:fh B.X but k=false:=by
   have:=OB (fh B.X but) B.aj;rw[hr]at this;exact this
  refine(eZ e (fit _) U (mem e) _).trans (bd (vW _) ?_);cases p1:impl (B.X.nm k)with
  |false=>exact cF rfl (congrArg (fun o=>K () (ag {B with aj:=o} M J)) e)
  |true=>
   have p2:(!decide (B.X.nm k=but))=false:=by unfold fh at p;rw[p1]at p;exact p
   exact cT rfl ((eZ e (fit _) U (mem e) _).trans (cF p2 (congrArg (fun o=>K () (ag {B with aj:=o} M J)) e)))
theorem gx.inj{X:Tr}(U:gx X){a b:Nat}(ha:a<X.n)(hb:b<X.n)(h:X.id a=X.id b):a=b:=by
 have h1:=U.rk a ha;rw[h,U.rk b hb]at h1;clear h ha;revert h1;refine aJ fun h1=>?_;subst h1;rfl
theorem gx.y7{X:Tr}(U:gx X){a b:Nat}(ha:a<X.n)(hb:b<X.n):decide ((X.id a:Int)=(X.id b:Int))=decide (a=b):=
 decide_eq_decide.mpr ⟨fun h=>U.inj ha hb (OM.mp h),fun h=>by exact aa h rfl⟩
theorem jq{k:Nat}{l:List Nat}(hr:B.aj.dropWhile (fun a=>!decide (a=k))=k::l) (F:dn B) (U:gx B.X) (hk:∀k∈B.aj,k<B.X.n) {ρ:Type} (K:Ku ρ):
 bG (B.X.id k:Int) (ag B M J) K=K () (ag {B with aj:=l} M J):=by
 let S:Nat→St:=fun j=>ag {B with aj:=B.aj.drop j} M J;have fit:∀j,dn {B with aj:=B.aj.drop j}:=fun j=>F.sub (by refine aa Oj ?_;exact z9);have mem:∀{j a r},B.aj.drop j=a::r→a<B.X.n:=fun{j a r}e=>hk a (Ob (i:=j) (by refine aa e ?_;exact .head _));have e1:B.aj.drop (B.aj.takeWhile (fun a=>!decide (a=k))).length=k::l:=bM.trans hr;have hm:(B.aj.takeWhile (fun a=>!decide (a=k))).length<cg:=NA gk (NJ F.aj (by decide));refine(bD _ (fun _=>((B.X.id k:Int),())) S hm ?_).trans ?_
 ·intro j hj go;refine ar (cL hj) fun a e p=>?_;have t:=top (M:=M) (J:=J) e (fit j);have d:=U.y7 (mem e) (mem e1);have p':decide (a=k)=false:=by simpa using p
  rw[p']at d;refine fT t.c1 (cF t.c2 (fT t.c1 (bd t.it (bd rfl (cT (nT d) (fT t.c1 (cF t.c2 (fT t.c1 (bd t.gl (bd rfl ?_))))))))));exact aa t.dl rfl
 ·have t:=top (M:=M) (J:=J) e1 (fit _);refine fT t.c1 (cF t.c2 (fT t.c1 (bd t.it (bd rfl (cF (nF (dT rfl)) (fT t.c1 (cF t.c2 (fT t.c1 (bd t.gl (bd rfl ?_))))))))));exact aa t.dl rfl
theorem kX{ns:List AV}{pn:Nat→Bool}(hp:∀k∈B.aj,bg (.str (B.X.nm k)) ns=some (pn k)) {k:Nat} {l:List Nat} (hr:B.aj.dropWhile (fun a=>!pn a)=k::l) (F:dn B) (U:gx B.X) (hk:∀k∈B.aj,k<B.X.n) {ρ:Type} (K:Ki ρ):
 fS ns (ag B M J) K=K (B.X.id k:Int) (ag {B with aj:=l} M J):=by
 let S:Nat→St:=fun j=>ag {B with aj:=B.aj.drop j} M J;have fit:∀j,dn {B with aj:=B.aj.drop j}:=fun j=>F.sub (by refine aa Oj ?_;exact z9);have eS:∀{j a r},B.aj.drop j=a::r→a∈B.aj:=fun{j a r}e=>Ob (i:=j) (by refine aa e ?_;exact .head _);have mem:∀{j a r},B.aj.drop j=a::r→a<B.X.n:=fun{j a r}e=>hk a (eS e);have e1:B.aj.drop (B.aj.takeWhile (fun a=>!pn a)).length=k::l:=bM.trans hr
 have pk:pn k=true:=by
  have:=OB (fun a=>!pn a) B.aj;rw[hr]at this;simpa using this
 have hm:(B.aj.takeWhile (fun a=>!pn a)).length<cg:=NA gk (NJ F.aj (by decide));refine(bD _ (fun _=>(ns,())) S hm ?_).trans ?_
 ·intro j hj go;refine ar (cL hj) fun a e p=>?_;have t:=top (M:=M) (J:=J) e (fit j);have p':pn a=false:=by simpa using p
  refine fT t.c1 (cT t.c3 ((eZ e (fit j) U (mem e) _).trans (fT t.c1 (bd t.gl (bd rfl (bd (hp a (eS e)) (cF p' ?_)))))));exact aa t.dl rfl
 ·have t:=top (M:=M) (J:=J) e1 (fit _);refine fT t.c1 (cT t.c3 ((eZ e1 (fit _) U (mem e1) _).trans (fT t.c1 (bd t.gl (bd rfl (bd (hp k (eS e1)) (cT pk ?_)))))));exact aa t.dl rfl
end
def cO(x:Str):Bool:=decide (q "applet"=x)||(decide (q "caption"=x)||(decide (q "html"=x)||(decide (q "table"=x)||(decide (q "td"=x)||(decide (q "th"=x)||(decide (q "marquee"=x)||(decide (q "object"=x)||(decide (q "template"=x)||false))))))))
section
variable{B:Bs}{M:Ms}{J:Jk}
structure El (B:Bs) (M:Ms) (J:Jk) (k:Nat):Prop where
 sp:ai (ag B M J).spaces (.int (B.X.id k:Int))=some (.str (q "html"))
 nm:ai (ag B M J).names (.int (B.X.id k:Int))=some (.str (B.X.nm k))
 pos:decide ((B.X.id k:Int)=-1)=false
theorem el(F:dn B)(U:gx B.X){k:Nat}(hk:k<B.X.n):El B M J k:=by
 have s3:B.X.sp (B.X.id k)=q "html":=by unfold Tr.sp;exact aa (U.rk k hk) rfl
 have s4:B.X.kH (B.X.id k)=B.X.nm k:=by unfold Tr.kH;exact aa (U.rk k hk) rfl
 exact⟨s3▸fI (f:=fun i=>AV.str (B.X.sp i)) (U.lt k hk) (by have:=F.N;exact mu this),s4▸fI (f:=fun i=>AV.str (B.X.kH i)) (U.lt k hk) (by have:=F.N;exact mu this),dF (sr)⟩
theorem kz(F:dn B)(U:gx B.X){k:Nat}(hk:k<B.X.n){ρ:Type}(K:Kb ρ):iL (B.X.id k:Int) (q "") (ag B M J) K=K (cO (B.X.nm k)) (ag B M J):=by
 refine bd (el (M:=M) (J:=J) F U hk).sp (bd rfl (bd (el (M:=M) (J:=J) F U hk).nm (bd rfl (cF (by decide+kernel) (cF (by decide+kernel) (cF (by decide+kernel) (cF (by decide+kernel) ?_)))))));refine(?_:cond (cO (B.X.nm k)) _ _=_);cases h:cO (B.X.nm k)with
 |true=>rfl
 |false=>exact cF (by decide+kernel) (cF (by decide+kernel) (by refine aa (show decide (q ""=q "button")=false by decide+kernel) ?_;rfl))
theorem q6(F:dn B)(U:gx B.X){k:Nat}(hk:k<B.X.n){x:Str}{ρ:Type}(K:Kb ρ):kP (B.X.id k:Int) x (ag B M J) K=K (decide (B.X.nm k=x)) (ag B M J):=by
 have e:=el (M:=M) (J:=J) F U hk;exact cT (nT e.pos) (bd e.sp (bd rfl (cT (by decide+kernel) (bd e.nm (bd rfl rfl)))))
def i7(x:Str):Bool:=(eC (q "html") x (st0') (fun b _=>some b)).getD false
where st0':St:=⟨[],[],[],[],[],[],[],[],[],[],[],true,[],[],[],[],0,0,true,[],[],[],[],[],[],[]⟩
theorem js{x:Str}{s:St}{ρ:Type}(K:Kb ρ):eC (q "html") x s K=K (i7 x) s:=by
 refine cF (by decide+kernel) (cF (by decide+kernel) (cT (by decide+kernel) ?_));exact congrArg (fun z=>K (Option.getD z false) s) (show some _=eC (q "html") x i7.st0' (fun b _=>some b)from(cF (by decide+kernel) (cF (by decide+kernel) (cT (by decide+kernel) rfl))).symm)
theorem cI{n j:Nat}:(aH ((n:Int)-1) (-1) (-1))[j]?=if j<n then some (.int ((n:Int)-1-j))else none:=by
 unfold aH;refine aa (if_neg (by decide)) (aa (Nz) ?_);have:((n:Int)-1- -1).toNat=n:=by lia
 refine aa this ?_;split
 ·refine aa (OF ‹_›) ?_;rfl
 ·refine aa (NO (by simp only[N0];lia)) ?_;rfl
theorem cJ{n j:Nat}:(aH 0 (n:Int) 1)[j]?=if j<n then some (.int (j:Int))else none:=by
 unfold aH;refine aa (if_pos rfl) (aa (Nz) ?_);have:((n:Int)-0).toNat=n:=by rfl
 refine aa this ?_;split
 ·refine aa (OF ‹_›) ?_;simp
 ·refine aa (NO (by simp only[N0];lia)) ?_;rfl
theorem hU{n:Nat}:(aH ((n:Int)-1) (-1) (-1)).length=n:=by
 unfold aH;refine aa (if_neg (by decide)) ?_;rw[Nn];refine aa N0 ?_;lia
theorem dE{n:Nat}(h:n<1000000):small ((n:Int)-1)=true:=by
 cases n with
 |zero=>rfl
 |succ n=>refine aa (show((n+1:Nat):Int)-1=(n:Int) by exact Ka) ?_;exact aS (FA h)
theorem gP{j:Nat}{a:Nat}{r:List Nat}(F:dn B)(h:B.aj.drop j=a::r):ai (ag B M J).stk (.int (((ag B M J).stk.length:Int)-1-j))=some (.int (B.X.id a:Int)):=by
 have hl:(ag B M J).stk.length=B.aj.length:=by show(List.reverse (List.map _ _)).length=_;refine aa Nx ?_;rw[Nn]
 have hj:j<B.aj.length:=by
  rcases OX j B.aj.length with x|x
  ·exact x
  ·rw[Oz x]at h;cases h
 have ga:B.aj[j]?=some a:=by
  have:=List.getElem?_drop (xs:=B.aj) (i:=j) (j:=0);rw[h]at this;simpa using this.symm
 refine aa hl (aa (show((B.aj.length:Int)-1-j)=((B.aj.length-1-j:Nat):Int) by omega) ?_);refine bp ?_ (by have:=F.aj;exact NA (N1 (Nat.sub_le _ _) (Nat.sub_le _ _)) (N_ this (by decide)));refine aa (OS (by rw[Nn];exact Nat.sub_one_sub_lt_of_lt hj)) ?_;rw[Nn];refine aa (Nz) ?_;refine aa (show B.aj.length-1-(B.aj.length-1-j)=j by exact Nat.sub_sub_self (Nat.le_sub_one_of_lt hj)) (aa ga ?_);rfl
theorem bJ:(ag B M J).stk.length=B.aj.length:=by show(List.reverse (List.map _ _)).length=_;refine aa Nx ?_;rw[Nn]
noncomputable def scope(X:Tr)(p:Nat→Bool):List Nat→Bool
 |[]=>false
 |k::l=>if p k then true else if cO (X.nm k)then false else scope X p l
theorem Hy{X:Tr}{p:Nat→Bool}{k:Nat}{l:List Nat}:scope X p (k::l)=if p k then true else if cO (X.nm k)then false else scope X p l:=rfl
theorem va{X:Tr}{p:Nat→Bool}:∀{l:List Nat},scope X p l=match l.dropWhile (fun k=>!p k&&!cO (X.nm k))with|[]=>false|k::_=>p k
 |[]=>rfl
 |k::l=>by
  rw[Hy];refine aa N2 ?_;cases h:p k with
  |true=>simp[h]
  |false=>
   cases g:cO (X.nm k)with
   |true=>simp[h,g]
   |false=>simp[va (l:=l)]
theorem yH{ns:List AV}{pn:Nat→Bool}(hp:∀k∈B.aj,bg (.str (B.X.nm k)) ns=some (pn k)) {k:Nat} {l:List Nat} (hr:B.aj.dropWhile (fun k=>!pn k&&!cO (B.X.nm k))=k::l) (F:dn B) (U:gx B.X) (hk:∀k∈B.aj,k<B.X.n) {ρ:Type} (K:Kb ρ):
 dz ns (q "") (ag B M J) K=K (pn k) (ag B M J):=by
 have eS:∀{j a r},B.aj.drop j=a::r→a∈B.aj:=fun{j a r}e=>Ob (i:=j) (by refine aa e ?_;exact .head _);refine fT (ez F) (fT (by refine aa ((dE (n:=(ag B M J).stk.length) (by rw[bJ];exact F.aj))) ?_;rfl) (fT (by refine aa ((dE (n:=(ag B M J).stk.length) (by rw[bJ];exact F.aj))) ?_;rfl) ?_));have e1:B.aj.drop (B.aj.takeWhile (fun k=>!pn k&&!cO (B.X.nm k))).length=k::l:=bM.trans hr
 have hj1:∀{j},j≤(B.aj.takeWhile (fun k=>!pn k&&!cO (B.X.nm k))).length→j<(ag B M J).stk.length:=fun{j}h=>by
  refine aa bJ ?_
  have:(B.aj.takeWhile (fun k=>!pn k&&!cO (B.X.nm k))).length<B.aj.length:=by
   rcases OX (B.aj.takeWhile (fun k=>!pn k&&!cO (B.X.nm k))).length B.aj.length with x|x
   ·exact x
   ·rw[Oz x]at e1;cases e1
  exact NA (by assumption) (by assumption)
 refine(bD (B.aj.takeWhile (fun k=>!pn k&&!cO (B.X.nm k))).length (fun _=>(ns,q "",())) (fun _=>ag B M J) ?_ ?_).trans ?_
 ·refine aa hU ?_;exact Om (hj1 (NQ _))
 ·intro j hj go;refine ar (cL hj) fun a e p=>?_;refine xA (Nt.mp p) fun p1 p2=>?_;have ee:=el (M:=M) (J:=J) F U (hk a (eS e));refine oS (cI.trans (if_pos (hj1 (NS hj)))) (bd rfl (bd (gP F e) (bd rfl (bd ee.sp (bd rfl (cT (dT rfl) (bd ee.nm (bd rfl (bd (hp a (eS e)) (cF (by simpa using p1) ?_))))))))));exact(kz F U (hk a (eS e)) _).trans (cF (by simpa using p2) rfl)
 ·have ee:=el (M:=M) (J:=J) F U (hk k (eS e1));refine oS (cI.trans (if_pos (hj1 (NQ _)))) (bd rfl (bd (gP F e1) (bd rfl (bd ee.sp (bd rfl (cT (dT rfl) (bd ee.nm (bd rfl (bd (hp k (eS e1)) ?_)))))))));cases h:pn k with
  |true=>rfl
  |false=>
   refine cF rfl ((kz F U (hk k (eS e1)) _).trans ?_);refine cT ?_ rfl;have:=OB (fun k=>!pn k&&!cO (B.X.nm k)) B.aj;rw[hr]at this;simpa[h]using this
theorem Au{k:Nat}(kn:k<B.X.n){a:Nat}{l:List Nat}(hr:B.aj.dropWhile (fun a=>!decide (a=k)&&!cO (B.X.nm a))=a::l) (F:dn B) (U:gx B.X) (hk:∀k∈B.aj,k<B.X.n) {ρ:Type} (K:Kb ρ):
 iJ (B.X.id k:Int) (q "") (ag B M J) K=K (decide (a=k)) (ag B M J):=by
 have eS:∀{j a r},B.aj.drop j=a::r→a<B.X.n:=fun{j a r}e=>hk a (Ob (i:=j) (by refine aa e ?_;exact .head _));refine fT (ez F) (fT (by refine aa ((dE (n:=(ag B M J).stk.length) (by rw[bJ];exact F.aj))) ?_;rfl) (fT (by refine aa ((dE (n:=(ag B M J).stk.length) (by rw[bJ];exact F.aj))) ?_;rfl) ?_));have e1:B.aj.drop (B.aj.takeWhile (fun a=>!decide (a=k)&&!cO (B.X.nm a))).length=a::l:=bM.trans hr
 have hj1:∀{j},j≤(B.aj.takeWhile (fun a=>!decide (a=k)&&!cO (B.X.nm a))).length→j<(ag B M J).stk.length:=fun{j}h=>by
  refine aa bJ ?_
  have:(B.aj.takeWhile (fun a=>!decide (a=k)&&!cO (B.X.nm a))).length<B.aj.length:=by
   rcases OX (B.aj.takeWhile (fun a=>!decide (a=k)&&!cO (B.X.nm a))).length B.aj.length with x|x
   ·exact x
   ·rw[Oz x]at e1;cases e1
  exact NA (by assumption) (by assumption)
 refine(bD (B.aj.takeWhile (fun a=>!decide (a=k)&&!cO (B.X.nm a))).length (fun _=>((B.X.id k:Int),q "",())) (fun _=>ag B M J) ?_ ?_).trans ?_
 ·refine aa hU ?_;exact Om (hj1 (NQ _))
 ·intro j hj go;refine ar (cL hj) fun b e p=>?_;refine xA (Nt.mp p) fun p1 p2=>?_;have d:=U.y7 (eS e) kn;rw[show decide (b=k)=false by simpa using p1]at d;refine oS (cI.trans (if_pos (hj1 (NS hj)))) (bd rfl (bd (gP F e) (bd rfl (cF d (bd (gP F e) (bd rfl ?_))))));exact(kz F U (eS e) _).trans (cF (by simpa using p2) rfl)
 ·refine oS (cI.trans (if_pos (hj1 (NQ _)))) (bd rfl (bd (gP F e1) (bd rfl ?_)));have d:=U.y7 (eS e1) kn;cases h:decide (a=k)with
  |true=>rw[h]at d;exact cT d rfl
  |false=>
   rw[h]at d;refine cF d (bd (gP F e1) (bd rfl ((kz F U (eS e1) _).trans ?_)));refine cT ?_ rfl;have:=OB (fun a=>!decide (a=k)&&!cO (B.X.nm a)) B.aj;rw[hr]at this;simpa[h]using this
end
theorem fW{n:Int}{f:Nat→Int}:∀{l:List Nat},bg (.int n) (l.map fun k=>.int (f k))=some (l.any fun k=>decide (f k=n))
 |[]=>rfl
 |a::l=>by
  refine bd rfl ?_;exact aa fW rfl
theorem bI{α:Type}{f:α→Int}:∀{l:List α},cQ (l.map fun k=>.int (f k))=some (l.map f)
 |[]=>rfl
 |a::l=>by
  refine bd rfl ?_;exact aa bI rfl
theorem fX{α:Type}{p:α→Bool}{b:α}{c:List α}:∀{a:List α},(∀x∈a,p x=false)→p b=true→(a++b::c).findIdx? p=some a.length
 |[]=>fun _ h=>by simp[List.findIdx?_cons,h]
 |x::a=>fun ha h=>by
  refine aa Oy (aa (List.findIdx?_cons) (aa (ha x (.head _)) (aa (fX (fun y hy=>ha y (.tail _ hy)) h) ?_)));simp
section
variable{B:Bs}{M:Ms}{J:Jk}
theorem gQ:(ag B M J).stk=B.aj.reverse.map fun k=>.int (B.X.id k:Int):=by
 refine aa List.map_reverse ?_;rfl
theorem hV(U:gx B.X)(hk:∀k∈B.aj,k<B.X.n) {k:Nat} (kn:k<B.X.n):bg (.int (B.X.id k:Int)) (ag B M J).stk=some (decide (k∈B.aj)):=by
 refine aa gQ (aa fW ?_);rw[Oi];refine aa List.any_reverse ?_;rw[OL,O5,decide_eq_true_iff];constructor
 ·rintro⟨a,ha,e⟩;refine aa (U.inj kn (hk a ha) (OM.mp (of_decide_eq_true e).symm)) ?_;exact ha
 ·intro h;exact⟨k,h,dT rfl⟩
theorem ny(U:gx B.X)(hk:∀k∈B.aj,k<B.X.n) {k:Nat} {pre l:List Nat} (h:B.aj=pre++k::l) (nd:k∉l):bf (ag B M J).stk [.int (B.X.id k:Int)]=some l.length:=by
 refine bd rfl (bd rfl (bd (gQ▸bI) ?_));have kn:k<B.X.n:=hk k (by refine aa h ?_;simp);refine aa h (aa N3 (aa NN ?_));rw[NK];refine aa Nu ?_
 have:=fX (p:=fun x:Int=>x==(B.X.id k:Int)) (b:=(B.X.id k:Int)) (c:=List.map (fun k=>(B.X.id k:Int)) pre.reverse) (a:=List.map (fun k=>(B.X.id k:Int)) l.reverse) (fun x hx=>by
  refine ar (NU.mp hx) fun a ha e'2=>?_;clear hx;subst e'2;rw[beq_eq_false_iff_ne];intro e;have ha:=N6.mp ha;have:=U.inj (hk a (by refine aa h ?_;simp[ha])) kn (OM.mp e);clear e h kn;subst this;exact nd ha) (by simp)
 rw[Nn,Nx]at this;exact this
theorem Fb(F:dn B){i a:Nat}(h:B.aj.reverse[i]?=some a):ai (ag B M J).stk (.int (i:Int))=some (.int (B.X.id a:Int)):=by
 have hi:i<B.aj.length:=by
  rcases OX i B.aj.length with x|x
  ·exact x
  ·rw[NO (by simpa using x)]at h;exact cZ h
 refine bp ?_ (by have:=F.aj;exact(LA [_,_] (Sx V0) (.k 1000000000) (.a (Sx V0) (Sx V1)) (.a V1 (.k 1000000)) rfl (Nq hi this)));refine aa gQ (aa (Nz) (aa h ?_));rfl
theorem DD{k:Nat}{pre l:List Nat}(h:B.aj=pre++k::l)(nd:k∉l)(hs:∀a∈pre,i7 (B.X.nm a)=false) (F:dn B) (U:gx B.X) (hk:∀k∈B.aj,k<B.X.n) {ρ:Type} (K:Ki ρ):
 ko (B.X.id k:Int) (ag B M J) K=K (-1) (ag B M J):=by
 have kn:k<B.X.n:=hk k (by refine aa h ?_;simp);have hl:B.aj.length=pre.length+l.length+1:=by refine aa h ?_;simp;exact Fv
 refine bd (hV U hk kn) (cT (dT (by refine aa h ?_;simp)) (fT (ez F) (bd (ny U hk h nd) ?_)));refine(bD pre.length (fun j=>((B.X.id k:Int),((l.length+1+j:Nat):Int),())) (fun _=>ag B M J) ?_ ?_).trans ?_
 ·have:=F.aj;show _<1000000;exact(LA [_,_,_,_] (Sx V0) V1 (.a (Sx V2) (Sx (.a V0 V3))) (.a V1 V2) rfl (Nq this (Ny hl.symm)))
 ·intro j hj go
  have ga:B.aj.reverse[l.length+1+j]?=some pre.reverse[j]!:=by
   refine aa h (aa N3 (aa NN (aa (Ow (by simp)) ?_)));simp[hj]
  have am:pre.reverse[j]!∈pre:=by
   have:pre.reverse[j]! =pre.reverse[j]'(by simpa using hj):=by simp[hj]
   refine aa this ?_;exact N6.mp (List.getElem_mem _)
  have an:pre.reverse[j]!<B.X.n:=hk _ (by refine aa h ?_;exact Nr _ am);refine fT (ez F) (cT (dT (by refine aa bJ ?_;dsimp only;exact Mg hj hl)) (bd (Fb F ga) (bd rfl (bd (el (M:=M) (J:=J) F U an).sp (bd rfl (bd (el (M:=M) (J:=J) F U an).nm (bd rfl ((js _).trans ?_))))))));refine cF (hs _ am) ?_
  rfl
 ·refine fT (ez F) (cF (dF (by refine aa bJ ?_;dsimp only;exact L_ hl)) rfl)
end
theorem fA{α:Type}{p:α→Bool}{a:α}{l:List α}(h2:p a=false):∀{pre:List α},(∀b∈pre,p b=true)→(pre++a::l).dropWhile p=a::l
 |[]=>fun _=>by rw[List.nil_append];refine aa N2 (aa h2 ?_);rfl
 |b::pre=>fun h=>by refine aa Oy (aa N2 (aa (h b (.head _)) (aa (if_pos rfl) ?_)));exact fA h2 fun c hc=>h c (.tail _ hc)
section
variable{B:Bs}{M:Ms}{J:Jk}
def cB(X:Tr)(x:Str)(a:Nat):Bool:=!decide (X.nm a=x)&&!i7 (X.nm a)
theorem cE{w:Str}:(ag B M J).b_ ((ag B M J).aq++[.tup [.str w,.str (q "in body")]])=ag {B with aq:=B.aq++[w]} M J:=by
 refine aa (show([AV.tup [.str w,.str (q "in body")]]:List AV)=List.map (fun w=>AV.tup [.str w,.str (q "in body")]) [w]from rfl) ?_;refine bR Nu ?_
 rfl
theorem cH(F:dn B):(ag B M J).aq.length<ab:=aE (by show(List.map _ _).length<_;rw[Nn];exact F.aq)
theorem jR{x:Str}{a:Nat}{l:List Nat}(hr:B.aj.dropWhile (cB B.X x)=a::l)(F:dn B)(U:gx B.X)(hk:∀k∈B.aj,k<B.X.n) {ρ:Type} {K:Ku ρ} {r:Option ρ}
 (h1:B.X.nm a=x→(fu x (ag B M J) fun _ s9=>if s9.stk.length<ab then bif decide ((s9.stk.length:Int)=0)then bif !decide (-1=(B.X.id a:Int))then if s9.aq.length<ab then bG (B.X.id a:Int) (s9.b_ (s9.aq++[AV.tup [AV.str (q "open-elements"),AV.str (q "in body")]])) fun x10 s11=>K () s11 else none else bG (B.X.id a:Int) s9 fun x12 s13=>K () s13 else if s9.stk.length<ab then(ai s9.stk (AV.int ((s9.stk.length:Int)-1))).bind fun x14=>x14.i?.bind fun x15=>bif !decide (x15=(B.X.id a:Int))then if s9.aq.length<ab then bG (B.X.id a:Int) (s9.b_ (s9.aq++[AV.tup [AV.str (q "open-elements"),AV.str (q "in body")]])) fun x16 s17=>K () s17 else none else bG (B.X.id a:Int) s9 fun x18 s19=>K () s19 else none else none)=r)
 (h2:B.X.nm a≠x→K () (ag {B with aq:=B.aq++[q "unexpected-end-tag"]} M J)=r):dU x (ag B M J) K=r:=by
 have eS:∀{j a r},B.aj.drop j=a::r→a<B.X.n:=fun{j a r}e=>hk a (Ob (i:=j) (by refine aa e ?_;exact .head _));have e1:B.aj.drop (B.aj.takeWhile (cB B.X x)).length=a::l:=bM.trans hr
 have hj1:∀{j},j≤(B.aj.takeWhile (cB B.X x)).length→j<B.aj.length:=fun{j}h=>by
  have:(B.aj.takeWhile (cB B.X x)).length<B.aj.length:=by
   rcases OX (B.aj.takeWhile (cB B.X x)).length B.aj.length with y|y
   ·exact y
   ·rw[Oz y]at e1;cases e1
  exact NA (by assumption) (by assumption)
 refine fT (ez F) ?_;have z:((ag B M J).stk.length:Int)-1=(ag B M J).stk.length-1-((0:Nat):Int):=Eq.symm (Int.sub_zero _);refine(eI (B.aj.takeWhile (cB B.X x)).length (fun j=>(x,((ag B M J).stk.length:Int)-1-(j:Int),())) (fun _=>ag B M J) (congrArg (fun z=>(x,z,())) z) rfl ?_ ?_).trans ?_
 ·exact NA gk (NJ F.aj (by decide))
 ·intro j hj go;refine ar (cL hj) fun b e p=>?_;refine xA (Nt.mp p) fun p1 p2=>?_;have ee:=el (M:=M) (J:=J) F U (eS e);have hj2:=hj1 (NS hj);refine cT (dT (by refine aa bJ ?_;dsimp only;exact Kf hj2)) (bd (gP F e) (bd rfl ((q6 F U (eS e) _).trans ?_)));refine cF (by simpa using p1) (bd ee.sp (bd rfl (bd ee.nm (bd rfl ((js _).trans ?_)))));refine cF (by simpa using p2) ?_;exact aa (show((ag B M J).stk.length:Int)-1-((j+1:Nat):Int)=(ag B M J).stk.length-1-(j:Int)-1 by exact Eq.symm (Int.sub_sub _ (↑_) 1)) rfl
 ·have ee:=el (M:=M) (J:=J) F U (eS e1);refine cT (dT (by refine aa bJ ?_;dsimp only;exact Kf (hj1 (NQ _)))) (bd (gP F e1) (bd rfl ((q6 F U (eS e1) _).trans ?_)));cases h:decide (B.X.nm a=x)with
  |true=>exact cT rfl (h1 (of_decide_eq_true h))
  |false=>
   refine cF rfl (bd ee.sp (bd rfl (bd ee.nm (bd rfl ((js _).trans ?_)))));refine cT ?_ (fT (cH F) ?_)
   ·have:=OB (cB B.X x) B.aj;rw[hr]at this;unfold cB at this;simpa[h]using this
   ·refine aa cE ?_;exact h2 (of_decide_eq_false h)
theorem yB{x:Str}{pre l:List Nat}{a:Nat}(h:B.aj=pre++a::l)(hp:∀b∈pre,B.X.nm b≠x∧i7 (B.X.nm b)=false) (ha:B.X.nm a=x) (nd:a∉pre) (F:dn B) (Fe:B.aq.length+1<1000000) (U:gx B.X) (hk:∀k∈B.aj,k<B.X.n) {ρ:Type} (K:Ku ρ):
 dU x (ag B M J) K=K () (ag {B with aj:=l,aq:=if pre.all (fun b=>impl (B.X.nm b))then B.aq else B.aq++[q "open-elements"]} M J):=by
 have d1:∀{p:Nat→Bool},(∀b∈pre,p b=true)→p a=false→B.aj.dropWhile p=a::l:=fun{p}h1 h2=>by refine aa h ?_;exact fA h2 h1
 have kn:a<B.X.n:=hk a (by refine aa h ?_;simp);refine jR (d1 (p:=cB B.X x) (fun b hb=>by unfold cB;refine aa (dF (hp b hb).1) (aa ((hp b hb).2) ?_);rfl) (by unfold cB;refine aa (dT ha) ?_;rfl)) F U hk (fun _=>?_) (fun e=>absurd ha e);have pa:fh B.X x a=false:=by unfold fh;refine aa (dT ha) ?_;simp
 cases ho:pre.all (fun b=>impl (B.X.nm b))with
 |true=>
  have e2:B.aj.dropWhile (fh B.X x)=a::l:=d1 (fun b hb=>by unfold fh;refine aa (N5.mp ho b hb) (aa (dF (hp b hb).1) ?_);rfl) pa;refine(kW e2 F U hk _).trans ?_;have F2:dn {B with aj:=a::l}:=F.sub (by refine aa h ?_;simp);have t:=top (B:={B with aj:=a::l}) (M:=M) (J:=J) rfl F2;refine fT t.c1 (cF t.c2 (fT t.c1 (bd t.it (bd rfl (cF (by simp) ?_)))));exact jq (B:={B with aj:=a::l}) (k:=a) (l:=l) (by simp) F2 U (fun k hh=>hk k (by refine aa h ?_;exact Nm _ hh)) _
 |false=>
  have hne:∃c r,B.aj.dropWhile (fh B.X x)=c::(r++a::l)∧(∀b∈c::r,b∈pre):=by
   have:∀pre:List Nat,pre.all (fun b=>impl (B.X.nm b))=false→∃c r,(pre++a::l).dropWhile (fh B.X x)=c::(r++a::l)∧∀b∈c::r,b∈pre:=by
    intro pre
    induction pre with
    |nil=>intro h;cases h
    |cons b pre ih=>
     intro h;refine aa Oy (aa N2 ?_);split
     ·rename_i hb
      obtain⟨c,r,e,m⟩:=ih (by
       rw[List.all_cons]at h;rw[show impl (B.X.nm b)=true from(Nt.mp hb).1]at h;exact h)
      exact⟨c,r,e,fun y hy=>.tail _ (m y hy)⟩
     ·exact⟨b,pre,rfl,fun y hy=>hy⟩
   refine aa h ?_;exact this pre ho
  obtain⟨c,r,e2,m⟩:=hne;refine(kW e2 F U hk _).trans ?_
  have len2:(c::(r++a::l)).length≤B.aj.length:=by
   refine bR e2 ?_;exact(OD _).length_le
  have F2:dn {B with aj:=c::(r++a::l)}:=F.sub len2;have hk2:∀k∈c::(r++a::l),k<B.X.n:=fun k hh=>hk k ((OD (p:=fh B.X x) (l:=B.aj)).subset (by refine aa e2 ?_;exact hh));have t:=top (B:={B with aj:=c::(r++a::l)}) (M:=M) (J:=J) rfl F2;have ca:¬c=a:=fun e=>nd (e▸m c (.head _));have d:=U.y7 (hk2 c (.head _)) kn;rw[dF ca]at d;refine fT t.c1 (cF t.c2 (fT t.c1 (bd t.it (bd rfl (cT (nT d) (fT (cH F2) ?_))))));refine aa cE ?_;have F3:dn {B with aj:=c::(r++a::l),aq:=B.aq++[q "open-elements"]}:=⟨F.N,F2.aj,F.ah,by show(B.aq++_).length<_;simpa using Fe⟩;refine(jq (B:={B with aj:=c::(r++a::l),aq:=B.aq++[q "open-elements"]}) (k:=a) (l:=l) ?_ F3 U hk2 _).trans rfl;refine bR Oy ?_;exact fA (by simp) fun b hb=>by refine aa (dF (show¬b=a from fun e=>nd (e▸m b hb))) ?_;rfl
theorem yC{x:Str}{a:Nat}{l:List Nat}(hr:B.aj.dropWhile (cB B.X x)=a::l)(ha:B.X.nm a≠x)(F:dn B)(U:gx B.X)(hk:∀k∈B.aj,k<B.X.n) {ρ:Type} (K:Ku ρ):
 dU x (ag B M J) K=K () (ag {B with aq:=B.aq++[q "unexpected-end-tag"]} M J):=jR hr F U hk (fun e=>absurd e ha) fun _=>rfl
end
noncomputable def eU(f:Nat→Nat):Option Nat→Int
 |.none=>-1
 |some k=>(f k:Int)
theorem g9{α:Type}{n:Int}{f:α→Int}:∀{l:List α},bg (.int n) (l.map fun k=>.int (f k))=some (l.any fun k=>decide (f k=n))
 |[]=>rfl
 |a::l=>by
  refine bd rfl ?_;exact aa g9 rfl
theorem mT{α β:Type}{g:α→β}{x:α}{pre l:List α}:((pre++x::l).reverse.map g).eraseIdx l.length=(pre++l).reverse.map g:=by
 refine aa N3 (aa NN ?_);rw[NK];refine aa Nu (aa N3 (aa Nu ?_));rw[List.eraseIdx_append_of_length_le (by simp)];simp
section
variable{B:Bs}{M:Ms}{J:Jk}
theorem cC:(ag B M J).fmt=B.ah.reverse.map fun o=>.int (eU B.X.id o):=by
 show List.reverse (List.map _ _)=_;refine aa List.map_reverse ?_
 congr 1
 refine NY fun o _=>?_;cases o<;>rfl
theorem aL:(ag B M J).fmt.length=B.ah.length:=by refine aa cC ?_;simp
theorem eu(F:dn B):(ag B M J).fmt.length<ab:=aE (by refine aa aL ?_;exact F.ah)
theorem jx{j:Nat}{a:Option Nat}{r:List (Option Nat)}(F:dn B)(h:B.ah.drop j=a::r):ai (ag B M J).fmt (.int (((ag B M J).fmt.length:Int)-1-j))=some (.int (eU B.X.id a)):=by
 have hj:j<B.ah.length:=by
  rcases OX j B.ah.length with x|x
  ·exact x
  ·rw[Oz x]at h;cases h
 have ga:B.ah[j]?=some a:=by
  have:=List.getElem?_drop (xs:=B.ah) (i:=j) (j:=0);rw[h]at this;simpa using this.symm
 refine aa aL (aa (show((B.ah.length:Int)-1-j)=((B.ah.length-1-j:Nat):Int) by omega) ?_);refine bp ?_ (by have:=F.ah;exact NA (N1 (Nat.sub_le _ _) (Nat.sub_le _ _)) (N_ this (by decide)));refine aa cC (aa (Nz) (aa (OS (Nat.sub_one_sub_lt_of_lt hj)) ?_));refine aa (show B.ah.length-1-(B.ah.length-1-j)=j by exact Nat.sub_sub_self (Nat.le_sub_one_of_lt hj)) (aa ga ?_);rfl
theorem JB(U:gx B.X){k:Nat}(kn:k<B.X.n){o:Option Nat}(ho:∀a,o=some a→a<B.X.n):decide (eU B.X.id o=(B.X.id k:Int))=decide (o=some k):=by
 cases o with
 |none=>exact(dF (by show¬(-1:Int)=_;exact Mr)).trans (dF (by simp)).symm
 |some a=>exact(U.y7 (ho a rfl) kn).trans (by simp)
theorem kD(U:gx B.X)(hl:∀k,some k∈B.ah→k<B.X.n) {k:Nat} (kn:k<B.X.n):bg (.int (B.X.id k:Int)) (ag B M J).fmt=some (decide (some k∈B.ah)):=by
 refine aa cC (aa g9 ?_);rw[Oi];refine aa List.any_reverse ?_;rw[OL,O5,decide_eq_true_iff];constructor
 ·rintro⟨a,ha,e⟩;rw[JB U kn (fun b hb=>hl b (hb▸ha))]at e;refine bR (of_decide_eq_true e) ?_;exact ha
 ·intro h;exact⟨_,h,dT rfl⟩
theorem yG{k:Nat}{pre l:List (Option Nat)}(h:B.ah=pre++some k::l)(nd:some k∉l)(F:dn B)(U:gx B.X)(hl:∀k,some k∈B.ah→k<B.X.n) {ρ:Type} (K:Ku ρ):
 cV (B.X.id k:Int) (ag B M J) K=K () (ag {B with ah:=pre++l} M J):=by
 have kn:k<B.X.n:=hl k (by refine aa h ?_;simp)
 have pl:bf (ag B M J).fmt [.int (B.X.id k:Int)]=some l.length:=by
  refine bd rfl (bd rfl (bd (cC▸bI) ?_));refine aa h (aa N3 (aa NN ?_));rw[NK];refine aa Nu ?_
  have:=fX (p:=fun x:Int=>x==(B.X.id k:Int)) (b:=(B.X.id k:Int)) (c:=List.map (eU B.X.id) pre.reverse) (a:=List.map (eU B.X.id) l.reverse) (fun x hx=>by
   refine ar (NU.mp hx) fun a ha e'2=>?_;clear hx;subst e'2;have ha:=N6.mp ha;rw[beq_eq_false_iff_ne];intro e;have:=JB U kn (o:=a) (fun b hb=>hl b (by refine aa h ?_;refine bR hb ?_;simp[ha]));rw[dT e]at this;rw[of_decide_eq_true this.symm]at ha;exact nd ha) (by simp)
  rw[Nn,Nx]at this;exact this
 refine bd (kD U hl kn) (cT (dT (by refine aa h ?_;simp)) (fT (eu F) (bd pl ?_)));refine congrArg (K ()) ?_;refine aa cC (aa h (aa mT ?_));refine(?_:St.cc _ _=St.cc (ag B M J) (ag {B with ah:=pre++l} M J).fmt);exact aa cC rfl
theorem t9{k:Nat}(nd:some k∉B.ah)(kn:k<B.X.n)(U:gx B.X)(hl:∀k,some k∈B.ah→k<B.X.n) {ρ:Type} (K:Ku ρ):
 cV (B.X.id k:Int) (ag B M J) K=K () (ag B M J):=bd (kD U hl kn) (cF (dF nd) rfl)
theorem yI{k:Nat}{pre l:List Nat}(h:B.aj=pre++k::l)(nd:k∉l)(F:dn B)(U:gx B.X)(hk:∀k∈B.aj,k<B.X.n) {ρ:Type} (K:Ku ρ):
 eE (B.X.id k:Int) (ag B M J) K=K () (ag {B with aj:=pre++l} M J):=by
 have kn:k<B.X.n:=hk k (by refine aa h ?_;simp);refine bd (hV U hk kn) (cT (dT (by refine aa h ?_;simp)) (fT (ez F) (bd (ny U hk h nd) ?_)));refine congrArg (K ()) ?_;refine aa gQ (aa h (aa mT ?_));refine(?_:St.ec _ _=St.ec (ag B M J) (ag {B with aj:=pre++l} M J).stk);exact aa gQ rfl
noncomputable def jd(nm:Nat→Str)(x:Str):List (Option Nat)→Option Nat
 |[]=>.none
 |.none::_=>.none
 |some k::l=>if nm k=x then some k else jd nm x l
noncomputable def lA(nm:Nat→Str)(x:Str):Option Nat→Bool
 |.none=>false
 |some k=>!decide (nm k=x)
theorem Jg{nm:Nat→Str}{x:Str}{k:Nat}{l:List (Option Nat)}:jd nm x (some k::l)=if nm k=x then some k else jd nm x l:=rfl
theorem Bp{nm:Nat→Str}{x:Str}:∀{l:List (Option Nat)},jd nm x l=(l.dropWhile (lA nm x)).head?.bind id
 |[]=>rfl
 |.none::l=>rfl
 |some k::l=>by
  rw[Jg];refine aa N2 ?_;by_cases h:nm k=x
  ·refine aa (if_pos h) (aa (show lA nm x (some k)=false by show(!decide (nm k=x))=false;exact aa (dT h) rfl) ?_);rfl
  ·exact aa (if_neg h) (aa (show lA nm x (some k)=true by show(!decide (nm k=x))=true;exact aa (dF h) rfl) (aa (if_pos rfl) (aa Bp rfl)))
theorem tY{x:Str}(F:dn B)(U:gx B.X)(hl:∀k,some k∈B.ah→k<B.X.n) {ρ:Type} (K:Ki ρ):nH x (ag B M J) K=K (eU B.X.id (jd B.X.nm x B.ah)) (ag B M J):=by
 refine fT (eu F) (fT (by refine aa ((dE (n:=(ag B M J).fmt.length) (by rw[aL];exact F.ah))) ?_;rfl) (fT (by refine aa ((dE (n:=(ag B M J).fmt.length) (by rw[aL];exact F.ah))) ?_;rfl) ?_));have tl:(B.ah.takeWhile (lA B.X.nm x)).length≤(ag B M J).fmt.length:=by refine aa aL ?_;exact gk
 have mem:∀{j a r},B.ah.drop j=some a::r→a<B.X.n:=fun{j a r}e=>hl a (Ob (i:=j) (by refine aa e ?_;exact .head _));refine(bD (B.ah.takeWhile (lA B.X.nm x)).length (fun _=>(x,())) (fun _=>ag B M J) ?_ ?_).trans ?_
 ·refine aa hU ?_;exact Ol tl
 ·intro j hj go;refine ar (cL hj) fun b e p=>?_;cases b with
  |none=>first|exact ns p|exact gz p
  |some b=>
   have ee:=el (M:=M) (J:=J) F U (mem e);exact oS (cI.trans (if_pos (NJ hj tl))) (bd rfl (bd (jx F e) (bd rfl (cF ee.pos (bd ee.nm (bd rfl (cF (by simpa[lA]using p) rfl)))))))
 ·refine aa Bp ?_;refine bR bM ?_;cases e:B.ah.drop (B.ah.takeWhile (lA B.X.nm x)).length with
  |nil=>
   refine oN (cI.trans (if_neg ?_)) rfl;refine aa aL ?_;exact Nat.not_lt.mpr (List.drop_eq_nil_iff.mp e)
  |cons b r=>
   have hj:(B.ah.takeWhile (lA B.X.nm x)).length<(ag B M J).fmt.length:=by
    refine aa aL ?_;rcases OX (B.ah.takeWhile (lA B.X.nm x)).length B.ah.length with y|y
    ·exact y
    ·rw[Oz y]at e;cases e
   refine oS (cI.trans (if_pos hj)) (bd rfl (bd (jx F e) (bd rfl ?_)));cases b with
   |none=>exact cT rfl rfl
   |some b=>
    refine cF (el (M:=M) (J:=J) F U (mem e)).pos (bd (el (M:=M) (J:=J) F U (mem e)).nm (bd rfl (cT ?_ rfl)));have:=OB (lA B.X.nm x) B.ah;rw[←bM,e]at this;simpa[lA]using this
theorem vr{pre l:List (Option Nat)}(h:B.ah=pre++.none::l)(hp:∀o∈pre,o≠.none) (F:dn B) {ρ:Type} (K:Ku ρ):kq (ag B M J) K=K () (ag {B with ah:=l} M J):=by
 let S:Nat→St:=fun j=>ag {B with ah:=B.ah.drop j} M J;have hl:B.ah.length=pre.length+l.length+1:=by refine aa h ?_;simp;exact Fv
 have stepF:∀{j:Nat}{o:Option Nat}{r:List (Option Nat)},B.ah.drop j=o::r→(S j).fmt.length<ab∧decide (0<((S j).fmt.length:Int))=true∧(S j).fmt.getLast?=some (.int (eU B.X.id o))∧(S j).cc (S j).fmt.dropLast=ag {B with ah:=r} M J:=fun{j o r}e=>by
  have ef:(S j).fmt=(o::r).reverse.map fun o=>.int (eU B.X.id o):=by refine bR e ?_;exact cC (B:={B with ah:=B.ah.drop j})
  have hlen:(o::r).length≤B.ah.length:=by refine bR e ?_;refine aa Oj ?_;exact z9
  have:=F.ah;refine⟨by refine aa ef ?_;simp at hlen⊢;exact N_ (show r.length+1<1000000 by exact NA (by assumption) (by assumption)) (by decide),dT (by refine aa ef ?_;simp),by refine aa ef ?_;simp,?_⟩;show St.cc (S j) _=St.cc (S j) (ag {B with ah:=r} M J).fmt;exact aa ef (aa cC (aa NN (aa Nu (aa Of (aa List.map_nil (aa List.dropLast_concat rfl))))))
 refine(bD pre.length (fun _=>()) S (by have:=F.ah;show _<1000000;exact(LA [_,_,_,_] (Sx V0) V1 (.a (Sx V2) (Sx (.a V0 V3))) (.a V1 V2) rfl (Nq this (Ny hl.symm)))) ?_).trans ?_
 ·intro j hj go
  have e:∃o,B.ah.drop j=o::B.ah.drop (j+1)∧o≠.none:=by
   refine⟨pre[j],?_,hp _ (List.getElem_mem _)⟩;have:j<B.ah.length:=(LA [_,_,_,_] (Sx V0) V1 (.a (Sx V0) (Sx (.a V2 V3))) (.a V2 V1) rfl (Nq hj (Ny hl.symm)));refine aa (OG this) ?_
   congr 1
   simp only[h,List.getElem_append_left hj]
  revert e;refine JI fun o e no=>?_;refine ja (stepF e) fun a1 a2 a3 a4=>?_;refine fT a1 (cT a2 (fT a1 (bd a3 (bd rfl (cF (dF ?_) ?_)))))
  ·cases o with
   |none=>exact absurd rfl no
   |some k=>show¬((B.X.id k:Int)=-1);exact sr
  ·exact aa a4 rfl
 ·have e:B.ah.drop pre.length=.none::l:=by refine aa h ?_;simp
  refine ja (stepF e) fun a1 a2 a3 a4=>?_;refine fT a1 (cT a2 (fT a1 (bd a3 (bd rfl (cT rfl ?_)))));exact aa a4 rfl
end
def eG(x:Str)(B:Bs):Bs:=match B.aj.dropWhile (cB B.X x)with
 |[]=>B
 |a::l=>if B.X.nm a=x then{B with aj:=l,aq:=if(B.aj.takeWhile (cB B.X x)).all (fun b=>impl (B.X.nm b))then B.aq else B.aq++[q "open-elements"]}else{B with aq:=B.aq++[q "unexpected-end-tag"]}
def rF(X:Tr)(k a:Nat):Bool:=!decide (a=k)&&!cO (X.nm a)
def eA(k:Nat)(B:Bs):Bs:=
 if k∈B.aj then
  if(B.aj.dropWhile (rF B.X k)).head?=some k then
   {B with aj:=(B.aj.dropWhile (rF B.X k)).tail,ah:=B.ah.erase (some k),aq:=if B.aj.head?=some k then B.aq else B.aq++[q "adoption"]}
  else{B with aq:=B.aq++[q "adoption"]}
 else{B with ah:=B.ah.erase (some k),aq:=B.aq++[q "adoption"]}
def ie(x:Str)(B:Bs):Bs:=match jd B.X.nm x B.ah with
 |.none=>eG x B
 |some k=>eA k B
def aU(x:Str)(B:Bs):Bs:=match B.aj with
 |[]=>B
 |a::l=>if B.X.nm a=x∧some a∉B.ah then{B with aj:=l}else ie x B
structure Wf (B:Bs):Prop where
 F:dn B
 Fe:B.aq.length+40<1000000
 U:gx B.X
 hk:∀k∈B.aj,k<B.X.n
 nd:B.aj.Nodup
 bot:∃t,B.aj=t++[2,0]∧∀a∈t,2<a
 Hf:B.X.nm 0=q "html"
 Hg:B.X.nm 2=q "body"
 n2:2<B.X.n
 hl:∀k,some k∈B.ah→k<B.X.n
 ln:B.ah.Pairwise fun a b=>a=b→a=.none
 l2:∀k,some k∈B.ah→2<k∧cO (B.X.nm k)=false
 ok:∀k,2<k→k<B.X.n→cO (B.X.nm k)=false→i7 (B.X.nm k)=false
theorem bB{α:Type}{p:α→Bool}{l r:List α}{a:α}(h:l.dropWhile p=a::r):l=l.takeWhile p++a::r:=by refine bR h ?_;exact NB.symm
theorem b8{α:Type}{p:α→Bool}:∀{l:List α}{b:α},b∈l.takeWhile p→p b=true
 |a::l,b,h=>by
  rw[List.takeWhile_cons]at h;split at h
  ·rcases Nv.mp h with rfl|h
   ·assumption
   ·exact b8 h
  ·cases h
theorem et{α:Type}{p:α→Bool}{l r:List α}{a:α}(h:l.dropWhile p=a::r):p a=false:=by
 have:=OB p l;rw[h]at this;exact this
section
variable{B:Bs}{M:Ms}{J:Jk}
theorem CB:i7 (q "body")=true:=by decide+kernel
theorem Wf.ug(W:Wf B)(x:Str):∃a l,B.aj.dropWhile (cB B.X x)=a::l:=by
 cases h:B.aj.dropWhile (cB B.X x)with
 |cons a l=>exact⟨a,l,rfl⟩
 |nil=>
  refine ar (W.bot) fun t e _=>?_
  have h2:cB B.X x 2=true:=by
   have:∀{l:List Nat},l.dropWhile (cB B.X x)=[]→∀a∈l,cB B.X x a=true:=by
    intro l
    induction l with
    |nil=>intro _ a ha;cases ha
    |cons b l ih=>
     intro h a ha;rw[N2]at h;split at h
     ·rcases Nv.mp ha with rfl|ha
      ·assumption
      ·exact ih h a ha
     ·cases h
   exact this h 2 (by refine aa e ?_;simp)
  unfold cB at h2;rw[W.Hg,CB]at h2;simp at h2
theorem FH(W:Wf B){x:Str}{ρ:Type}(K:Ku ρ):dU x (ag B M J) K=K () (ag (eG x B) M J):=by
 refine sk (W.ug x) fun a l h=>?_;unfold eG;refine aa h ?_;dsimp only;by_cases ha:B.X.nm a=x
 ·refine aa (if_pos ha) ?_
  exact yB (bB h) (fun b hb=>by
   have:=b8 hb;unfold cB at this
   simpa using this) ha (fun hb=>by
    have:=b8 hb;unfold cB at this;rw[dT ha]at this;exact gz this) W.F (by have:=W.Fe;exact HY this) W.U W.hk K
 ·refine aa (if_neg ha) ?_;exact yC h ha W.F W.U W.hk K
theorem jT{l:List (Option Nat)}{k:Nat}(hp:l.Pairwise fun a b=>a=b→a=none) (h:some k∈l):∃pre suf,l=pre++some k::suf∧some k∉suf∧l.erase (some k)=pre++suf:=by
 refine sk (List.append_of_mem h) fun pre suf e=>?_;have hp2:=e▸hp;rw[List.pairwise_append,OC]at hp2;obtain⟨_,⟨h1,_⟩,h2⟩:=hp2;refine⟨pre,suf,e,fun hs=>(nomatch (h1 _ hs rfl)),?_⟩;refine aa e (aa (List.erase_append_right _ (fun hs=>(nomatch (h2 _ hs _ (.head _) rfl)))) ?_);rw[List.erase_cons_head]
theorem tZ(F:dn B)(U:gx B.X)(hl:∀k,some k∈B.ah→k<B.X.n) (ln:B.ah.Pairwise fun a b=>a=b→a=none) {k:Nat} (kn:k<B.X.n) {ρ:Type} (K:Ku ρ):
 cV (B.X.id k:Int) (ag B M J) K=K () (ag {B with ah:=B.ah.erase (some k)} M J):=by
 by_cases h:some k∈B.ah
 ·refine bx (jT ln h) fun pre suf e nd ee=>?_;refine aa ee ?_;exact yG e nd F U hl K
 ·refine aa (O_ h) ?_;exact t9 h kn U hl K
theorem A6(W:Wf B){k:Nat}{l:List Nat}(h2:2<k)(h:B.aj.dropWhile (rF B.X k)=k::l):∀a∈B.aj.takeWhile (rF B.X k),i7 (B.X.nm a)=false:=by
 intro a ha;have p:=b8 ha;refine xA (Nt.mp p) fun p1 p2=>?_;have sp:=bB h;have am:a∈B.aj:=by refine aa sp ?_;exact Nr _ ha
 refine W.ok a ?_ (W.hk a am) (by simpa using p2);refine ar (W.bot) fun t e ht=>?_
 have kt:k∈t:=by
  have:k∈B.aj:=by refine aa sp ?_;simp
  rw[e]at this;clear h p p1;rcases Nw.mp this with x|x
  ·exact x
  ·rcases Nv.mp x with rfl|x
   ·exact(OZ 0 (LA [_] (.k 1) (.k 0) (Sx V0) V0 rfl h2)).elim
   ·rcases Nv.mp x with rfl|x
    ·exact(OZ 0 (LA [_] (.k 1) (.k 0) (Sx V0) (.k 0) rfl h2)).elim
    ·cases x
 have:a∈t:=by
  rw[e]at sp ha;rcases List.append_eq_append_iff.mp sp with⟨c,e1,e2⟩|⟨c,e1,e2⟩
  ·cases c with
   |nil=>
    rw[N7]at e1;refine bR e1 ?_;exact ha
   |cons y c=>
    exfalso
    have nd:=W.nd;rw[e]at nd;refine gS (Oh.mp nd) fun _ _ dj=>?_
    have k2:k∈[2,0]:=by
     refine aa e2 ?_;simp
    exact dj k kt k k2 rfl
  ·refine aa e1 ?_;exact Nr _ ha
 exact ht a this
theorem yJ(W:Wf B){k:Nat}(hf:some k∈B.ah){x:Str}(hx:jd B.X.nm x B.ah=some k){ρ:Type}{K:Ki ρ}{r:Option ρ}
 (h1:k∉B.aj→K (-1) (ag {B with ah:=B.ah.erase (some k),aq:=B.aq++[q "adoption"]} M J)=r)
 (h2:k∈B.aj→(B.aj.dropWhile (rF B.X k)).head?≠some k→K (-1) (ag {B with aq:=B.aq++[q "adoption"]} M J)=r)
 (h3:k∈B.aj→(B.aj.dropWhile (rF B.X k)).head?=some k→K (B.X.id k:Int) (ag {B with aq:=if B.aj.head?=some k then B.aq else B.aq++[q "adoption"]} M J)=r):gX x (ag B M J) K=r:=by
 have kn:=W.hl k hf;have Fe:∀{w},dn {B with aq:=B.aq++[w]}:=fun{w}=>⟨W.F.N,W.F.aj,W.F.ah,by have:=W.Fe;show(B.aq++_).length<_;simp;exact HY this⟩;refine(tY W.F W.U W.hl _).trans ?_;refine aa hx ?_;refine cF (dF (by show¬((B.X.id k:Int)=-1);exact sr)) (bd (hV W.U W.hk kn) ?_);by_cases hk:k∈B.aj
 ·refine cF (nF (dT hk)) ?_;clear hf hx;cases e:B.aj.dropWhile (rF B.X k)with
  |nil=>
   exfalso
   refine ar (W.bot) fun t eb _=>?_
   have:∀{l:List Nat},k∈l→l.dropWhile (rF B.X k)≠[]:=by
    intro l
    induction l with
    |nil=>intro h;cases h
    |cons b l ih=>
     intro h;refine aa N2 ?_;split
     ·rename_i hb;rcases Nv.mp h with rfl|h
      ·unfold rF at hb;simp at hb
      ·exact ih h
     ·simp
   exact this hk e
  |cons a l=>
   refine(Au kn (B:=B) e W.F W.U W.hk _).trans ?_;have eh:(B.aj.dropWhile (rF B.X k)).head?=some a:=by exact aa e rfl
   by_cases ak:a=k
   ·subst ak;refine cF (nF (dT rfl)) ?_;have:=h3 hk eh;cases eo:B.aj with
    |nil=>rw[eo]at hk;cases hk
    |cons top rest=>
     have t:=Hx.top (B:=B) (M:=M) (J:=J) eo W.F;refine fT t.c1 (cF t.c2 (fT t.c1 (bd t.it (bd rfl ?_))));have d:=W.U.y7 (W.hk top (by refine aa eo ?_;exact .head _)) kn;have hh:B.aj.head?=some top:=by exact aa eo rfl
     rw[hh]at this;by_cases tk:top=a
     ·rw[dT tk]at d;refine cF (nF d) ?_;rw[if_pos (by exact aa tk rfl)]at this;exact this
     ·rw[dF tk]at d;refine cT (nT d) (fT (cH W.F) ?_);refine aa cE ?_;rw[if_neg (by simpa using tk)]at this;exact this
   ·refine cT (nT (dF ak)) (fT (cH W.F) ?_);refine aa cE ?_;exact h2 hk (by refine aa eh ?_;simpa using ak)
 ·refine cT (nT (dF hk)) (fT (cH W.F) ?_);refine aa cE ?_;refine(tZ (B:={B with aq:=B.aq++[q "adoption"]}) Fe W.U W.hl W.ln kn _).trans ?_;exact h1 hk
end
theorem hG{nm:Nat→Str}{x:Str}{k:Nat}:∀{l:List (Option Nat)},jd nm x l=some k→some k∈l∧nm k=x
 |[]=>fun h=>by cases h
 |.none::_=>fun h=>by cases h
 |some a::l=>fun h=>by
  rw[Jg]at h;split at h
  ·revert h;refine aJ fun h=>?_;subst h;exact⟨.head _,‹_›⟩
  ·obtain⟨a,b⟩:=hG h;exact⟨.tail _ a,b⟩
section
variable{B:Bs}{M:Ms}{J:Jk}
def Gy{ρ:Type}(K:Ku ρ)(go5:Nat→Str×Int×PUnit→St→Option ρ)(j6:Nat)(t7:Str×Int×PUnit)(s8:St):Option ρ:=
 bif decide (t7.snd.fst<8)then gX t7.fst s8 fun(x9:Int)(s10:St)=>bif decide (x9=-1)then K () s10 else ko x9 s10 fun(x11:Int)(s12:St)=>bif decide (x11=-1)then bG x9 s12 fun(x13:Unit)(s14:St)=>cV x9 s14 fun(x15:Unit)(s16:St)=>K () s16 else kR x9 x11 s12 fun(x17:Unit)(s18:St)=>go5 (j6+1) (t7.fst,t7.snd.fst+1,()) s18 else K () s8
theorem Ar(W:Wf B){x:Str}{ρ:Type}(K:Ku ρ):bK (Gy K) (cD cg) 0 (x,0,()) (ag B M J)=K () (ag (ie x B) M J):=by
 refine(bD 0 (fun _=>(x,(0:Int),())) (fun _=>ag B M J) (by decide) (fun j hj=>by cases hj)).trans ?_;refine cT (dT (show(0:Int)<8 by decide)) ?_;unfold ie;cases hx:jd B.X.nm x B.ah with
 |none=>
  refine(tY W.F W.U W.hl _).trans ?_;refine aa hx ?_;exact cT (dT rfl) ((FH W _).trans (cT (dT rfl) rfl))
 |some k=>
  refine xA (hG hx) fun hf hn=>?_;refine xA (W.l2 k hf) fun k2 ks=>?_;dsimp only;refine yJ W hf hx ?_ ?_ ?_
  ·intro h;refine cT (dT rfl) ?_;unfold eA;exact aa (if_neg h) rfl
  ·intro h h';refine cT (dT rfl) ?_;unfold eA;exact aa (if_pos h) (aa (if_neg h') rfl)
  ·intro h h';unfold eA;refine aa (if_pos h) (aa (if_pos h') ?_);generalize he:(if B.aj.head?=some k then B.aq else B.aq++[q "adoption"])=e'
   have Fe:dn {B with aq:=e'}:=⟨W.F.N,W.F.aj,W.F.ah,by
    have:=W.Fe;show e'.length<_;refine bR he ?_;split
    ·exact Kj this
    ·simp;exact HY this⟩
   refine cF (dF (by show¬((B.X.id k:Int)=-1);exact sr)) ?_;cases e:B.aj.dropWhile (rF B.X k)with
   |nil=>rw[e]at h';exact cZ h'
   |cons a l=>
    rw[e]at h';cases h';have sp:=bB e;have nd:=W.nd;rw[sp]at nd;refine gS (Oh.mp nd) fun _ nd2 nd3=>?_;have kl:k∉l:=(NZ.mp nd2).1;refine(DD (B:={B with aq:=e'}) sp kl (A6 W k2 e) Fe W.U W.hk _).trans (cT (dT rfl) ?_)
    have dp:B.aj.dropWhile (fun a=>!decide (a=k))=k::l:=by
     refine aa sp ?_;exact fA (by simp) fun b hb=>by exact aa (dF (show¬b=k from fun e=>nd3 b hb k (.head _) e)) rfl
    refine(jq (B:={B with aq:=e'}) dp Fe W.U W.hk _).trans ?_;have F2:dn {B with aq:=e',aj:=l}:=⟨W.F.N,by have:=W.F.aj;rw[sp]at this;simp at this;show l.length<_;exact(LA [_,_,_] (Sx V0) V1 (Sx (.a V2 (Sx V0))) V1 rfl this),W.F.ah,Fe.aq⟩;exact tZ (B:={B with aq:=e',aj:=l}) F2 W.U W.hl W.ln (W.hl k hf) _
theorem nR(W:Wf B){x:Str}{ρ:Type}(K:Ku ρ):ed x (ag B M J) K=K () (ag (aU x B) M J):=by
 unfold aU;cases eo:B.aj with
 |nil=>obtain⟨t,e,_⟩:=W.bot;rw[eo]at e;cases t<;>cases e
 |cons a l=>
  have t:=top (M:=M) (J:=J) eo W.F;refine(eZ eo W.F W.U (W.hk a (by refine aa eo ?_;exact .head _)) _).trans ?_;dsimp only;by_cases h1:B.X.nm a=x
  ·refine cT (dT h1) (fT t.c1 (cF t.c2 (fT t.c1 (bd t.it (bd rfl (bd (kD W.U W.hl (W.hk a (by refine aa eo ?_;exact .head _))) ?_))))));by_cases h2:some a∈B.ah
   ·refine cF (nF (dT h2)) ?_;refine aa (if_neg (fun h=>h.2 h2)) ?_;exact Ar W K
   ·refine cT (nT (dF h2)) (fT t.c1 (cF t.c2 (fT t.c1 (bd t.gl (bd rfl ?_)))));exact aa (if_pos ⟨h1,h2⟩) (aa t.dl rfl)
  ·refine cF (dF h1) ?_;refine aa (if_neg (fun h=>h1 h.1)) ?_;exact Ar W K
end
theorem rX{α:Type}{l:List α}{a b:α}:(l++[a]).set l.length b=l++[b]:=by
 refine aa (List.set_append_right _ _ (NQ _)) ?_;rw[Nat.sub_self];rfl
theorem aG{α:Type}{l:List α}{a:α}:(l++[a])[l.length]?=some a:=by
 refine aa (Ow (NQ _)) ?_;rw[Nat.sub_self];rfl
theorem bT{a b:Nat}{α:Type}{x y r:α}(h:a=b)(k:x=r):cond (a.beq b) x y=r:=by
 subst h;refine aa (show a.beq a=true from Nat.beq_refl a) ?_;exact k
theorem eJ{ρ τ σ:Type}{step:(Nat→τ→σ→Option ρ)→Nat→τ→σ→Option ρ}{n j:Nat}{t:τ}{s:σ}:bK step (n+1) j t s=step (bK step n) j t s:=rfl
section
variable{B:Bs}{M:Ms}{J:Jk}
theorem ew{n i:Nat}{f:Nat→AV}(h:i<n)(c:n<1000000):ai (bF n f) (.int (i:Int))=some (f i):=fI h (mu c)
theorem oR(F:dn B){i:Nat}(h:i<B.X.N):ai (ag B M J).parents (.int (i:Int))=some (.int (B.X.par i)):=ew (f:=fun i=>AV.int (B.X.par i)) h F.N
theorem iQ(F:dn B){i:Nat}(h:i<B.X.N):ai (ag B M J).chil (.int (i:Int))=some (.loc 2 i):=ew (f:=fun i=>AV.loc 2 i) h F.N
theorem f5{i:Nat}(h:i<B.X.N):ae (aw (ag B M J)) 2 i=some ((B.X.av i).map a8):=by
 show((bF _ _)[i]?).bind _=_;exact aa (cK h) rfl
theorem mJ(F:dn B){i:Nat}(h:i<B.X.N):ai (ag B M J).attrs (.int (i:Int))=some (.loc 1 i):=ew (f:=fun i=>AV.loc 1 i) h F.N
theorem AG{i:Nat}(h:i<B.X.N):ae (aw (ag B M J)) 1 i=some ((B.X.sv i).map cy):=by
 show((bF _ _)[i]?).bind _=_;exact aa (cK h) rfl
theorem oJ(F:dn B){i:Nat}(h:i<B.X.N):ai (ag B M J).kinds (.int (i:Int))=some (.str (B.X.kd i)):=ew (f:=fun i=>AV.str (B.X.kd i)) h F.N
theorem wH(F:dn B){i:Nat}(h:i<B.X.N):ai (ag B M J).texts (.int (i:Int))=some (.str (B.X.tx i)):=ew (f:=fun i=>AV.str (B.X.tx i)) h F.N
noncomputable def w7(J:Jk)(l:List Int):Jk:={J with r7:=J.r7++[.list (l.map .int)]}
theorem Jl{l:List Int}:ae (aw (ag B M (w7 J l))) 7 J.r7.length=some (l.map .int):=by
 show((J.r7++[_])[_]?).bind _=_;exact aa aG rfl
theorem DB(F:dn B)(hp:∀i,i<B.X.N→-1≤B.X.par i∧B.X.par i<i) {n:Nat} (hn:n<B.X.N):∃c:List Int,(∀x∈c,x<n)∧∀{ρ:Type}(K:Nat→St→Option ρ),nE (n:Int) (ag B M J) K=K J.r7.length (ag B M (w7 J c)):=by
 have chain:∀(f:Nat)(up:Int)(acc:List Int),-1≤up→up<f→f≤B.X.N→acc.length+f<1000000→∃c:List Int,(∀x∈c,x≤up)∧∀{ρ:Type}(K:Nat→St→Option ρ)(j e:Nat),
  bK (fun(go2:Nat→Int×Nat×Int×PUnit→St→Option ρ)(j3:Nat)(t4:Int×Nat×Int×PUnit)(s5:St)=>bif !decide (t4.snd.snd.fst=-1)then(ae (aw s5) 7 t4.snd.fst).bind fun(x6:List AV)=>(ae (aw s5) 7 t4.snd.fst).bind fun(x7:List AV)=>if x7.length<ab then(ai s5.parents (AV.int t4.snd.snd.fst)).bind fun(x8:AV)=>x8.i?.bind fun(x9:Int)=>go2 (j3+1) (t4.fst,t4.snd.fst,x9,()) (s5.aB (s5.r7.set t4.snd.fst (AO.list (x7++[AV.int t4.snd.snd.fst]))))else none else K t4.snd.fst s5)
   (f+1+e) j ((n:Int),J.r7.length,up,()) (ag B M (w7 J acc))=K J.r7.length (ag B M (w7 J (acc++c))):=by
  intro f
  induction f with
  |zero=>
   intro up acc h1 h2 _ _;have:up=-1:=Int.le_antisymm (Int.le_of_lt_add_one h2) h1;refine aa this ?_;exact⟨[],by simp,fun K j e=>by rw[N7,O0,O8];rfl⟩
  |succ f ih=>
   intro up acc h1 h2 h3 h4;by_cases h:up=-1
   ·refine aa h ?_;exact⟨[],by simp,fun K j e=>by rw[N7];refine aa (show f+1+1+e=(f+1+e)+1 by exact Ih) ?_;rfl⟩
   ·refine xE (Int.eq_ofNat_of_zero_le (show 0≤up by exact LH h1 h)) fun u e'1=>?_;subst e'1;have uN:u<B.X.N:=NJ (Ox.mp h2) h3;refine xA (hp u uN) fun p1 p2=>?_;obtain⟨c,hc,hK⟩:=ih (B.X.par u) (acc++[(u:Int)]) p1 (OP p2 (Int.lt_add_one_iff.mp h2)) (NS (by assumption)) (by simp;exact Dc h4);refine⟨(u:Int)::c,fun x hx=>?_,fun K j e=>?_⟩
    ·rcases Nv.mp hx with rfl|hx
     ·exact Int.le_refl _
     ·have:=hc x hx;exact Int.le_trans this (Int.le_of_lt p2)
    ·refine aa (show f+1+1+e=(f+1+e)+1 by exact Ih) (aa (show acc++(u:Int)::c=(acc++[(u:Int)])++c by simp) ?_);refine bR (hK K (j+1) e) ?_;refine eJ.trans ?_;refine cT (nT (dF h)) (bd Jl (bd Jl (fT ?_ (bd (oR F uN) (bd rfl ?_)))))
     ·refine aE ?_;rw[Nn];exact Kj h4
     ·refine congrArg (bK _ _ _ _) ?_;show St.aB _ (List.set (J.r7++[_]) _ _)=_;refine aa rX ?_;show _=St.aB (ag B M (w7 J acc)) (J.r7++[.list ((acc++[(u:Int)]).map .int)]);refine aa Nu ?_;rfl
 refine xA (hp n hn) fun p1 p2=>?_;have:=F.N;obtain⟨c,hc,hK⟩:=chain n (B.X.par n) [] p1 p2 (by exact NS (by assumption)) (by simp;exact N_ (by assumption) (by assumption));refine⟨c,fun x hx=>by have:=hc x hx;exact Int.lt_of_le_of_lt this p2,fun K=>?_⟩;refine bd (oR F hn) (bd rfl ?_);exact(Jq (show cg=n+1+(999999-n) by unfold cg;exact((Ot _ _ _).trans (congrArg (·+1) (O4 (O1 (N_ hn this))))).symm) rfl rfl).trans (hK K 0 (999999-n))
end
noncomputable def aN{α:Type}(f:Nat→α)(a:Nat)(b:α)(i:Nat):α:=if i=a then b else f i
theorem ay{α:Type}{f:Nat→α}{a i:Nat}{b:α}(h:i≠a):aN f a b i=f i:=if_neg h
theorem az{α:Type}{f:Nat→α}{a:Nat}{b:α}:aN f a b a=b:=if_pos rfl
theorem i8{α:Type}{n p:Nat}{f g:Nat→α}(h:p<n)(hg:∀i,i<n→i≠p→g i=f i):(bF n f).set p (g p)=bF n g:=by
 apply List.ext_getElem?;intro i;refine aa (List.getElem?_set) ?_;rcases OX i n with hi|hi
 ·by_cases e:p=i
  ·subst e;exact aa (if_pos rfl) (aa (if_pos (by refine aa aW ?_;exact h)) (aa (cK hi) rfl))
  ·exact aa (if_neg e) (aa (cK hi) (aa (cK hi) (aa (hg i hi (fun x=>e x.symm)) rfl)))
 ·refine aa (NO (l:=bF n g) (by refine aa aW ?_;exact hi)) ?_;by_cases e:p=i
  ·exact(OZ 0 (LA [_,_,_] (.k 1) (.k 0) (.a (.a (Sx V0) V2) V1) (.a (.a V1 V0) V2) rfl (Nq (Nq h (Ny e.symm)) hi))).elim
  ·exact aa (if_neg e) (aa (NO (by refine aa aW ?_;exact hi)) rfl)
theorem aM{α:Type}{n:Nat}{f g:Nat→α}(hg:∀i,i<n→g i=f i):bF n f++[g n]=bF (n+1) g:=by
 unfold bF;refine aa OW (aa Nu ?_)
 congr 1
 exact NY fun i hi=>(hg i (NV.mp hi)).symm
structure eP (X:Tr):Prop extends gx X where
 inv:∀i k,i<X.N→X.rk i=some k→k<X.n∧X.id k=i
 par:∀i,i<X.N→-1≤X.par i∧X.par i<i
 Np:0<X.N
def Tr.link(X:Tr)(n p:Nat):Tr:={X with par:=aN X.par n p,av:=aN X.av p (X.av p++[n])}
def Tr.bo(X:Tr)(x:Str)(l:List cj):Tr:=⟨X.N+1,X.n+1,aN X.rk X.N (some X.n),aN X.id X.n X.N,aN X.nm X.n x,aN X.bc X.n l,aN X.tx X.N (q ""),aN X.par X.N (-1),aN X.av X.N []⟩
def Tr.bq(X:Tr)(t:Str):Tr:=⟨X.N+1,X.n,aN X.rk X.N none,X.id,X.nm,X.bc,aN X.tx X.N t,aN X.par X.N (-1),aN X.av X.N []⟩
section
variable{B:Bs}{M:Ms}{J:Jk}
theorem Hh{l:List Int}{n:Nat}(h:∀x∈l,x<(n:Int)):m9 (aw (ag B M (w7 J l))) (.int (n:Int)) (.loc 7 J.r7.length)=some false:=by
 show(((J.r7++[_])[_]?)).bind _=_;refine aa aG ?_;refine(?_:bg _ (l.map .int)=_);have:=g9 (n:=(n:Int)) (f:=fun x:Int=>x) (l:=l);refine aa (show(l.map AV.int)=l.map fun k=>AV.int k from rfl) (aa this ?_);rw[Oi];rw[List.any_eq_false];intro x hx;have:=h x hx;simp;exact Int.ne_of_lt this
theorem A1{n:Nat}{v:Int}(h:n<B.X.N):(ag B M J).aZ ((ag B M J).parents.set n (.int v))=ag {B with X:={B.X with par:=aN B.X.par n v} } M J:=by
 have:=i8 (f:=fun i=>AV.int (B.X.par i)) (g:=fun i=>AV.int (aN B.X.par n v i)) h (fun i _ hne=>by exact aa (ay hne) rfl);rw[az]at this;exact aa this rfl
theorem y5{p:Nat}{l:List Nat}(h:p<B.X.N):(ag B M J).gq ((ag B M J).r2.set p (.list (l.map a8)))=ag {B with X:={B.X with av:=aN B.X.av p l} } M J:=by
 have:=i8 (f:=fun i=>AO.list ((B.X.av i).map a8)) (g:=fun i=>AO.list ((aN B.X.av p l i).map a8)) h (fun i _ hne=>by exact aa (ay hne) rfl);rw[az]at this;exact aa this rfl
theorem q5(F:dn B)(U:eP B.X){p n:Nat}(hpn:p<n)(hn:n<B.X.N)(h1:B.X.par n=-1)(hl:(B.X.av p).length<1000000):∃c:List Int,∀{ρ:Type}(K:Ku ρ),bA (p:Int) (n:Int) (-1) (ag B M J) K=K () (ag {B with X:=B.X.link n p} M (w7 J c)):=by
 refine ar (DB (M:=M) (J:=J) F U.par (show p<B.X.N by exact Fy hpn hn)) fun c hc hK=>?_;refine⟨c,fun K=>?_⟩;have hN:=F.N;have kp:=f5 (B:=B) (M:=M) (J:=w7 J c) (show p<B.X.N by exact Fy hpn hn);have cp:=iQ (M:=M) (J:=w7 J c) F (show p<B.X.N by exact Fy hpn hn);have ll:((B.X.av p).map a8).length<ab:=aE (by rw[Nn];exact hl);refine cF (dF (LX hpn)) ((hK _).trans (bd (Hh fun x hx=>by have:=hc x hx;exact OH this (Ox.mpr hpn)) (cF rfl (cF (nF (dT rfl)) (cF (dF (Mr)) ?_)))));refine bd (oR F hn) (bd rfl (cF (nF (dT h1)) (bd cp (bd rfl (bT rfl (bd kp (fT ll (cF (nF (dT rfl)) ?_))))))));refine bd cp (bd rfl (bT rfl (bd kp (bd kp (fT ll (fT ⟨OI _,aS (by rw[Nn];exact mu hl)⟩ (fT (aS ((LA [_,_] (Sx V0) (.k 1000000000) (.a (Sx V0) (Sx V1)) (.a V1 (.k 1000000)) rfl (Nq hn hN)))) (bd (hH ?_) ?_))))))))
 ·refine(?_:n<(bF _ _).length);refine aa aW ?_;exact hn
 ·refine congrArg (K ()) ?_
  have e:List.take ((B.X.av p).map a8).length ((B.X.av p).map a8)++AV.int (n:Int)::List.drop ((B.X.av p).map a8).length ((B.X.av p).map a8)=(B.X.av p++[n]).map a8:=by
   refine aa List.take_length (aa List.drop_length (aa Nu ?_));rfl
  dsimp only;refine aa e (aa (y5 (Fy hpn hn)) ?_);have:=A1 (B:={B with X:={B.X with av:=aN B.X.av p (B.X.av p++[n])} }) (M:=M) (J:=w7 J c) (n:=n) (v:=p) hn;exact this
theorem yZ(U:eP B.X){x:Str}{l:List cj}(ho:∀k∈B.aj,k<B.X.n) (hl:∀k,some k∈B.ah→k<B.X.n):
 (((((((((((ag B M J).kK ((ag B M J).kinds++[AV.str (q "element")])).i_ ((ag B M J).spaces++[AV.str (q "html")])).kL ((ag B M J).names++[AV.str x])).Fp ((ag B M J).r1++[AO.list (l.map cy)])).kJ ((ag B M J).attrs++[AV.loc 1 (ag B M J).r1.length])).gf ((ag B M J).texts++[AV.str (q "")])).aZ ((ag B M J).parents++[AV.int (-1)])).gq ((ag B M J).r2++[AO.list []])).o4 ((ag B M J).chil++[AV.loc 2 (ag B M J).r2.length])))=
 ag {B with X:=B.X.bo x l} M J:=by
 have rk:∀i,i<B.X.N→aN B.X.rk B.X.N (some B.X.n) i=B.X.rk i:=fun i h=>ay (gT h);have nk:∀{α:Type}{f:Nat→α}{b:α}(i:Nat)(k:Nat),i<B.X.N→B.X.rk i=some k→aN f B.X.n b k=f k:=fun i k h e=>ay (by have:=(U.inv i k h e).1;exact gT this)
 have e1:(ag B M J).kinds++[AV.str (q "element")]=(ag {B with X:=B.X.bo x l} M J).kinds:=by
  have:=aM (n:=B.X.N) (f:=fun i=>AV.str (B.X.kd i)) (g:=fun i=>AV.str ((B.X.bo x l).kd i)) (fun i h=>by unfold Tr.kd;exact aa (show(B.X.bo x l).rk i=B.X.rk i from rk i h) rfl);rw[show(B.X.bo x l).kd B.X.N=q "element" by unfold Tr.kd;exact aa (if_neg (by have:=U.Np;exact OY (by assumption))) (aa (show(B.X.bo x l).rk B.X.N=some B.X.n from az) rfl)]at this;exact this
 have e2:(ag B M J).spaces++[AV.str (q "html")]=(ag {B with X:=B.X.bo x l} M J).spaces:=by
  have:=aM (n:=B.X.N) (f:=fun i=>AV.str (B.X.sp i)) (g:=fun i=>AV.str ((B.X.bo x l).sp i)) (fun i h=>by unfold Tr.sp;exact aa (show(B.X.bo x l).rk i=B.X.rk i from rk i h) rfl);rw[show(B.X.bo x l).sp B.X.N=q "html" by unfold Tr.sp;exact aa (show(B.X.bo x l).rk B.X.N=some B.X.n from az) rfl]at this;exact this
 have e3:(ag B M J).names++[AV.str x]=(ag {B with X:=B.X.bo x l} M J).names:=by
  have:=aM (n:=B.X.N) (f:=fun i=>AV.str (B.X.kH i)) (g:=fun i=>AV.str ((B.X.bo x l).kH i)) (fun i h=>by
   unfold Tr.kH;refine aa (show(B.X.bo x l).rk i=B.X.rk i from rk i h) ?_;cases e:B.X.rk i with
   |none=>rfl
   |some k=>exact congrArg AV.str (nk i k h e))
  rw[show(B.X.bo x l).kH B.X.N=x by unfold Tr.kH;refine aa (show(B.X.bo x l).rk B.X.N=some B.X.n from az) ?_;exact az]at this;exact this
 have e4:(ag B M J).r1++[AO.list (l.map cy)]=(ag {B with X:=B.X.bo x l} M J).r1:=by
  have:=aM (n:=B.X.N) (f:=fun i=>AO.list ((B.X.sv i).map cy)) (g:=fun i=>AO.list (((B.X.bo x l).sv i).map cy)) (fun i h=>by
   unfold Tr.sv;refine aa (show(B.X.bo x l).rk i=B.X.rk i from rk i h) ?_;cases e:B.X.rk i with
   |none=>rfl
   |some k=>exact congrArg (fun z=>AO.list (List.map cy z)) (nk i k h e))
  rw[show(B.X.bo x l).sv B.X.N=l by unfold Tr.sv;refine aa (show(B.X.bo x l).rk B.X.N=some B.X.n from az) ?_;exact az]at this;exact this
 have e5:(ag B M J).attrs++[AV.loc 1 (ag B M J).r1.length]=(ag {B with X:=B.X.bo x l} M J).attrs:=by
  refine aa (show(ag B M J).r1.length=B.X.N from aW) ?_;exact aM (f:=fun i=>AV.loc 1 i) (g:=fun i=>AV.loc 1 i) (fun i h=>rfl)
 have e6:(ag B M J).texts++[AV.str (q "")]=(ag {B with X:=B.X.bo x l} M J).texts:=by
  have:=aM (n:=B.X.N) (f:=fun i=>AV.str (B.X.tx i)) (g:=fun i=>AV.str ((B.X.bo x l).tx i)) (fun i h=>congrArg AV.str (ay (gT h)));rw[show(B.X.bo x l).tx B.X.N=q ""from az]at this;exact this
 have e7:(ag B M J).parents++[AV.int (-1)]=(ag {B with X:=B.X.bo x l} M J).parents:=by
  have:=aM (n:=B.X.N) (f:=fun i=>AV.int (B.X.par i)) (g:=fun i=>AV.int ((B.X.bo x l).par i)) (fun i h=>congrArg AV.int (ay (gT h)));rw[show(B.X.bo x l).par B.X.N=-1 from az]at this;exact this
 have e8:(ag B M J).r2++[AO.list []]=(ag {B with X:=B.X.bo x l} M J).r2:=by
  have:=aM (n:=B.X.N) (f:=fun i=>AO.list ((B.X.av i).map a8)) (g:=fun i=>AO.list (((B.X.bo x l).av i).map a8)) (fun i h=>congrArg (fun z=>AO.list (List.map a8 z)) (ay (gT h)));rw[show(B.X.bo x l).av B.X.N=[]from az]at this;exact this
 have e9:(ag B M J).chil++[AV.loc 2 (ag B M J).r2.length]=(ag {B with X:=B.X.bo x l} M J).chil:=by
  refine aa (show(ag B M J).r2.length=B.X.N from aW) ?_;exact aM (f:=fun i=>AV.loc 2 i) (g:=fun i=>AV.loc 2 i) (fun i h=>rfl)
 have e10:(ag B M J).stk=(ag {B with X:=B.X.bo x l} M J).stk:=by
  show List.reverse _=List.reverse _;refine congrArg _ (NY fun k hk=>?_);exact congrArg a8 (show B.X.id k=aN B.X.id B.X.n B.X.N k from(ay (by have:=ho k hk;exact gT this)).symm)
 have e11:(ag B M J).fmt=(ag {B with X:=B.X.bo x l} M J).fmt:=by
  show List.reverse _=List.reverse _;refine congrArg _ (NY fun o hk=>?_);cases o with
  |none=>rfl
  |some k=>exact congrArg a8 (show B.X.id k=aN B.X.id B.X.n B.X.N k from(ay (by have:=hl k hk;exact gT this)).symm)
 refine aa e1 (aa e2 (aa e3 (aa e4 (aa e5 (aa e6 (aa e7 (aa e8 (aa e9 ?_))))))));refine(?_:({(ag {B with X:=B.X.bo x l} M J)with stk:=(ag B M J).stk,fmt:=(ag B M J).fmt}:St)=_);exact aa e10 (aa e11 rfl)
end
def aI(x:Str)(l:List cj)(B:Bs):Bs:=match B.aj with
 |[]=>B
 |k::_=>{B with X:=(B.X.bo x l).link B.X.N (B.X.id k),aj:=B.X.n::B.aj}
theorem eP.bo{X:Tr}(U:eP X)(x:Str)(l:List cj):eP (X.bo x l)where
 lt k hk:=by
  show aN X.id X.n X.N k<X.N+1;by_cases e:k=X.n
  ·subst e;refine aa az ?_;exact Nat.lt_add_one _
  ·refine aa (ay e) ?_;have:=U.lt k (by have:k<X.n+1:=hk;exact eV this e);exact O2 (by assumption)
 rk k hk:=by
  show aN X.rk X.N (some X.n) (aN X.id X.n X.N k)=some k;by_cases e:k=X.n
  ·subst e;exact aa az (aa az rfl)
  ·have hk:k<X.n:=by have:k<X.n+1:=hk;exact eV this e
   refine aa (ay e) (aa (ay (by have:=U.lt k hk;exact Oa (by assumption))) ?_);exact U.rk k hk
 pos k hk:=by
  show 0<aN X.id X.n X.N k;by_cases e:k=X.n
  ·subst e;refine aa az ?_;exact U.Np
  ·refine aa (ay e) ?_;exact U.pos k (by have:k<X.n+1:=hk;exact eV this e)
 inv i k hi h:=by
  have h:aN X.rk X.N (some X.n) i=some k:=h;show k<X.n+1∧aN X.id X.n X.N k=i;by_cases e:i=X.N
  ·subst e;rw[az]at h;revert h;refine aJ fun h=>?_;refine aa h ?_;exact⟨NT _,az⟩
  ·rw[ay e]at h;obtain⟨a,b⟩:=U.inv i k (by have:i<X.N+1:=hi;exact eV this e) h;exact⟨Df a,by refine aa (ay (gT a)) ?_;exact b⟩
 par i hi:=by
  show-1≤aN X.par X.N (-1) i∧aN X.par X.N (-1) i<i;by_cases e:i=X.N
  ·subst e;refine aa az ?_;exact⟨z2,OP (by decide) (OI _)⟩
  ·refine aa (ay e) ?_;exact U.par i (by have:i<X.N+1:=hi;exact eV this e)
 Np:=Nat.succ_pos _
theorem eP.bq{X:Tr}(U:eP X)(t:Str):eP (X.bq t)where
 lt k hk:=Om (U.lt k hk)
 rk k hk:=by
  refine(?_:aN X.rk X.N none (X.id k)=some k);refine aa (ay (by have:=U.lt k hk;exact gT this)) ?_;exact U.rk k hk
 pos k hk:=U.pos k hk
 inv i k hi h:=by
  have h:aN X.rk X.N none i=some k:=h;by_cases e:i=X.N
  ·subst e;rw[az]at h;exact cZ h
  ·rw[ay e]at h;exact U.inv i k (by have:i<X.N+1:=hi;exact eV this e) h
 par i hi:=by
  refine(?_:-1≤aN X.par X.N (-1) i∧aN X.par X.N (-1) i<i);by_cases e:i=X.N
  ·subst e;refine aa az ?_;exact⟨z2,OP (by decide) (OI _)⟩
  ·refine aa (ay e) ?_;exact U.par i (by have:i<X.N+1:=hi;exact eV this e)
 Np:=Nat.succ_pos _
theorem eP.link{X:Tr}(U:eP X){n p:Nat}(h:p<n)(hn:n<X.N):eP (X.link n p)where
 lt:=U.lt
 rk:=U.rk
 pos:=U.pos
 inv:=U.inv
 par i hi:=by
  refine(?_:-1≤aN X.par n p i∧aN X.par n p i<i);by_cases e:i=n
  ·refine aa e ?_;refine aa az ?_;exact⟨Int.neg_ofNat_le_natCast 1 _,H9 h⟩
  ·refine aa (ay e) ?_;exact U.par i hi
 Np:=U.Np
section
variable{B:Bs}{M:Ms}{J:Jk}
theorem aV{α:Type}{n:Nat}{f:Nat→α}(h:n<1000000):(bF n f).length<ab:=aE (by refine aa aW ?_;exact h)
theorem nB{α:Type}{n:Nat}{f:Nat→α}{a:α}(h:n+1<1000000):(bF n f++[a]).length<ab:=aE (by refine aa NH (aa aW ?_);exact h)
theorem nC{α:Type}{n:Nat}{f:Nat→α}{a:α}:(((bF n f++[a]).length:Nat):Int)-1=(n:Int):=by refine aa NH (aa aW (aa List.length_singleton ?_));exact Ka
theorem yD(F:dn B)(hN:B.X.N+1<1000000)(U:eP B.X){x:Str}{l:List cj}(hx:x≠q "template")(hl1:l.length<1000000)(ho:∀k∈B.aj,k<B.X.n) (hl:∀k,some k∈B.ah→k<B.X.n) {ρ:Type} (K:Ki ρ):
 fp x (q "html") (l.map cy) (ag B M J) K=K (B.X.N:Int) (ag {B with X:=B.X.bo x l} M J):=by
 have N:=F.N;refine fT (aV N) (fT (aV N) (fT (aV N) (fT (aE (by rw[Nn];exact hl1)) (fT (aV N) (fT (aV N) (fT (aV N) (fT (aV N) (fT (nB hN) (cT (dT rfl) (cF (dF hx) ?_))))))))));exact(congrArg (K _) (yZ U ho hl)).trans (congrArg (K · _) nC)
theorem DG(F:dn B)(hN:B.X.N+1<1000000)(hO:B.aj.length+1<1000000)(U:eP B.X){x:Str}{l:List cj}(hx:x≠q "template")(hl1:l.length<1000000)(ho:∀k∈B.aj,k<B.X.n) (hl:∀k,some k∈B.ah→k<B.X.n) (hne:B.aj≠[])
 (hk:∀i,i<B.X.N→(B.X.av i).length<1000000):∃c:List Int,∀{ρ:Type}(K:Ki ρ),bE x (l.map cy) (q "html") (ag B M J) K=K (B.X.N:Int) (ag (aI x l B) M (w7 J c)):=by
 unfold aI;cases eo:B.aj with
 |nil=>exact absurd eo hne
 |cons k r=>
  have kn:=ho k (by refine aa eo ?_;exact .head _);have F2:dn {B with X:=B.X.bo x l}:=⟨hN,F.aj,F.ah,F.aq⟩;have idk:B.X.id k<B.X.N:=U.lt k kn
  obtain⟨c,hc⟩:=q5 (B:={B with X:=B.X.bo x l}) (M:=M) (J:=J) F2 (U.bo x l) (p:=B.X.id k) (n:=B.X.N) idk (NT _) (az) (by
   refine(?_:(aN B.X.av B.X.N [] (B.X.id k)).length<_);refine aa (ay (Oa (by assumption))) ?_;exact hk _ idk)
  refine⟨c,fun K=>?_⟩;have t:=top (M:=M) (J:=J) eo F;refine fT t.c1 (cF t.c2 (fT t.c1 (bd t.it (bd rfl (cF (dF (sr)) ?_)))));refine(yD F hN U hx hl1 ho hl _).trans ?_;refine(hc _).trans ?_;refine fT (ez (B:={B with X:=(B.X.bo x l).link B.X.N (B.X.id k)}) ⟨hN,F.aj,F.ah,F.aq⟩) ?_;refine congrArg (K _) ?_;refine(?_:St.ec (ag {B with X:=(B.X.bo x l).link B.X.N (B.X.id k)} M (w7 J c)) _=St.ec (ag {B with X:=(B.X.bo x l).link B.X.N (B.X.id k)} M (w7 J c)) (ag {B with X:=(B.X.bo x l).link B.X.N (B.X.id k),aj:=B.X.n::k::r} M (w7 J c)).stk);refine bR eo ?_;refine congrArg _ ?_;refine aa gQ (aa gQ (aa NN (aa Nu ?_)))
  congr 1
  refine(?_:[AV.int (B.X.N:Int)]=[AV.int ((aN B.X.id B.X.n B.X.N B.X.n:Nat):Int)]);exact aa az rfl
end
theorem eF{l:List AV}{v:AV}:ai (l++[v]) (.int (-1))=some v:=by
 show(if small (-1)=true then(idx (-1) (l++[v]).length).bind ((l++[v])[·]?)else none)=_
 have:idx (-1) (l++[v]).length=some l.length:=by
  unfold idx;refine aa (if_neg (by decide)) (aa (if_pos (by refine aa NH (aa List.length_singleton ?_);exact LD)) (aa NH (aa List.length_singleton ?_)))
  congr 1;exact Kc
 refine aa this ?_;exact aG
def a9(sg:Str)(B:Bs):Bs:=match B.aj with
 |[]=>B
 |k::_=>match(B.X.av (B.X.id k)).getLast? with
  |none=>{B with X:=(B.X.bq sg).link B.X.N (B.X.id k)}
  |some c=>match B.X.rk c with
   |none=>{B with X:={B.X with tx:=aN B.X.tx c (B.X.tx c++sg)} }
   |some _=>{B with X:=(B.X.bq sg).link B.X.N (B.X.id k)}
section
variable{B:Bs}{M:Ms}{J:Jk}
theorem uu(U:eP B.X){t:Str}:
 (((((((((((ag B M J).kK ((ag B M J).kinds++[AV.str (q "text")])).i_ ((ag B M J).spaces++[AV.str (q "")])).kL ((ag B M J).names++[AV.str (q "")])).Fp ((ag B M J).r1++[AO.list []])).kJ ((ag B M J).attrs++[AV.loc 1 (ag B M J).r1.length])).gf ((ag B M J).texts++[AV.str t])).aZ ((ag B M J).parents++[AV.int (-1)])).gq ((ag B M J).r2++[AO.list []])).o4 ((ag B M J).chil++[AV.loc 2 (ag B M J).r2.length])))=
 ag {B with X:=B.X.bq t} M J:=by
 have rk:∀i,i<B.X.N→(B.X.bq t).rk i=B.X.rk i:=fun i h=>ay (gT h);have rN:(B.X.bq t).rk B.X.N=none:=az
 have e1:(ag B M J).kinds++[AV.str (q "text")]=(ag {B with X:=B.X.bq t} M J).kinds:=by
  have:=aM (n:=B.X.N) (f:=fun i=>AV.str (B.X.kd i)) (g:=fun i=>AV.str ((B.X.bq t).kd i)) (fun i h=>by unfold Tr.kd;exact aa (rk i h) rfl);rw[show(B.X.bq t).kd B.X.N=q "text" by unfold Tr.kd;exact aa (if_neg (by have:=U.Np;exact KA this)) (aa rN rfl)]at this;exact this
 have e2:(ag B M J).spaces++[AV.str (q "")]=(ag {B with X:=B.X.bq t} M J).spaces:=by
  have:=aM (n:=B.X.N) (f:=fun i=>AV.str (B.X.sp i)) (g:=fun i=>AV.str ((B.X.bq t).sp i)) (fun i h=>by unfold Tr.sp;exact aa (rk i h) rfl);rw[show(B.X.bq t).sp B.X.N=q "" by unfold Tr.sp;exact aa rN rfl]at this;exact this
 have e3:(ag B M J).names++[AV.str (q "")]=(ag {B with X:=B.X.bq t} M J).names:=by
  have:=aM (n:=B.X.N) (f:=fun i=>AV.str (B.X.kH i)) (g:=fun i=>AV.str ((B.X.bq t).kH i)) (fun i h=>by unfold Tr.kH;exact aa (rk i h) rfl);rw[show(B.X.bq t).kH B.X.N=q "" by unfold Tr.kH;exact aa rN rfl]at this;exact this
 have e4:(ag B M J).r1++[AO.list []]=(ag {B with X:=B.X.bq t} M J).r1:=by
  have:=aM (n:=B.X.N) (f:=fun i=>AO.list ((B.X.sv i).map cy)) (g:=fun i=>AO.list (((B.X.bq t).sv i).map cy)) (fun i h=>by unfold Tr.sv;exact aa (rk i h) rfl);rw[show(B.X.bq t).sv B.X.N=[] by unfold Tr.sv;exact aa rN rfl]at this;exact this
 have e5:(ag B M J).attrs++[AV.loc 1 (ag B M J).r1.length]=(ag {B with X:=B.X.bq t} M J).attrs:=by
  refine aa (show(ag B M J).r1.length=B.X.N from aW) ?_;exact aM (f:=fun i=>AV.loc 1 i) (g:=fun i=>AV.loc 1 i) (fun i h=>rfl)
 have e6:(ag B M J).texts++[AV.str t]=(ag {B with X:=B.X.bq t} M J).texts:=by
  have:=aM (n:=B.X.N) (f:=fun i=>AV.str (B.X.tx i)) (g:=fun i=>AV.str ((B.X.bq t).tx i)) (fun i h=>congrArg AV.str (ay (gT h)));rw[show(B.X.bq t).tx B.X.N=t from az]at this;exact this
 have e7:(ag B M J).parents++[AV.int (-1)]=(ag {B with X:=B.X.bq t} M J).parents:=by
  have:=aM (n:=B.X.N) (f:=fun i=>AV.int (B.X.par i)) (g:=fun i=>AV.int ((B.X.bq t).par i)) (fun i h=>congrArg AV.int (ay (gT h)));rw[show(B.X.bq t).par B.X.N=-1 from az]at this;exact this
 have e8:(ag B M J).r2++[AO.list []]=(ag {B with X:=B.X.bq t} M J).r2:=by
  have:=aM (n:=B.X.N) (f:=fun i=>AO.list ((B.X.av i).map a8)) (g:=fun i=>AO.list (((B.X.bq t).av i).map a8)) (fun i h=>congrArg (fun z=>AO.list (List.map a8 z)) (ay (gT h)));rw[show(B.X.bq t).av B.X.N=[]from az]at this;exact this
 have e9:(ag B M J).chil++[AV.loc 2 (ag B M J).r2.length]=(ag {B with X:=B.X.bq t} M J).chil:=by
  refine aa (show(ag B M J).r2.length=B.X.N from aW) ?_;exact aM (f:=fun i=>AV.loc 2 i) (g:=fun i=>AV.loc 2 i) (fun i h=>rfl)
 refine aa e1 (aa e2 (aa e3 (aa e4 (aa e5 (aa e6 (aa e7 (aa e8 (aa e9 ?_))))))))
 rfl
theorem Gr(F:dn B)(hN:B.X.N+1<1000000)(U:eP B.X){t:Str}{ρ:Type}(K:Ki ρ):d7 t (ag B M J) K=K (B.X.N:Int) (ag {B with X:=B.X.bq t} M J):=by
 have N:=F.N;refine fT (aV N) (fT (aV N) (fT (aV N) (fT (aV N) (fT (aV N) (fT (aV N) (fT (aV N) (fT (nB hN) ?_)))))));exact(congrArg (K _) (uu U)).trans (congrArg (K · _) nC)
theorem Gp(F:dn B)(hN:B.X.N+1<1000000)(U:eP B.X){sg:Str}(ho:∀k∈B.aj,k<B.X.n) (hne:B.aj≠[]) (hk:∀i,i<B.X.N→(B.X.av i).length<1000000) (hc:∀i c,i<B.X.N→c∈B.X.av i→0<c∧c<B.X.N)
 (ht:∀i,(B.X.tx i).length+sg.length<1000000):∃c:List Int,∃w:Bool,∀{ρ:Type}(K:Ku ρ),jm sg (ag B M J) K=K () (ag (a9 sg B) M (cond w (w7 J c) J)):=by
 cases eo:B.aj with
 |nil=>exact absurd eo hne
 |cons k r=>
  have kn:=ho k (by refine aa eo ?_;exact .head _);have F2:dn {B with X:=B.X.bq sg}:=⟨hN,F.aj,F.ah,F.aq⟩;have idk:B.X.id k<B.X.N:=U.lt k kn
  obtain⟨c,hI⟩:=q5 (B:={B with X:=B.X.bq sg}) (M:=M) (J:=J) F2 (U.bq sg) (p:=B.X.id k) (n:=B.X.N) idk (NT _) (az) (by
   show(aN B.X.av B.X.N [] (B.X.id k)).length<_;refine aa (ay (gT idk)) ?_;exact hk _ idk)
  have t:=top (M:=M) (J:=J) eo F;have kdk:B.X.kd (B.X.id k)=q "element":=by unfold Tr.kd;exact aa (if_neg (by have:=U.pos k kn;exact KA this)) (aa (U.rk k kn) rfl)
  have ki:=oJ (M:=M) (J:=J) F idk;rw[kdk]at ki;have ck:=iQ (M:=M) (J:=J) F idk;have kk:=f5 (B:=B) (M:=M) (J:=J) idk
  have start:∀{ρ:Type}{K:Ku ρ}{r:Option ρ},(dG (aw (ag B M J)) (.loc 2 (B.X.id k))).bind (fun(x60:Bool)=>bif !x60 then d7 sg (ag B M J) fun(x61:Int)(s62:St)=>bA (B.X.id k:Int) x61 (-1) s62 fun(x63:Unit)(s64:St)=>K () s64 else(ai (ag B M J).chil (AV.int (B.X.id k:Int))).bind fun(x65:AV)=>x65.l?.bind fun(x66:Nat×Nat)=>bif x66.fst.beq 2 then(ae (aw (ag B M J)) 2 x66.snd).bind fun(x67:List AV)=>(ai x67 (AV.int (-1))).bind fun(x68:AV)=>x68.i?.bind fun(x69:Int)=>bif !decide (x69=-1)then(ai (ag B M J).kinds (AV.int x69)).bind fun(x70:AV)=>x70.s?.bind fun(x71:Str)=>bif decide (x71=q "text")then(ai (ag B M J).texts (AV.int x69)).bind fun(x72:AV)=>x72.s?.bind fun(x73:Str)=>if x73.length+sg.length<ab then if small x69=true then(idx x69 (ag B M J).texts.length).bind fun(x74:Nat)=>K () ((ag B M J).gf ((ag B M J).texts.set x74 (AV.str (x73++sg))))else none else none else d7 sg (ag B M J) fun(x75:Int)(s76:St)=>bA (B.X.id k:Int) x75 (-1) s76 fun(x77:Unit)(s78:St)=>K () s78 else d7 sg (ag B M J) fun(x79:Int)(s80:St)=>bA (B.X.id k:Int) x79 (-1) s80 fun(x81:Unit)(s82:St)=>K () s82 else none)=r→jm sg (ag B M J) K=r:=fun{ρ K r}h=>
   fT t.c1 (cF t.c2 (fT t.c1 (bd t.it (bd rfl (cF (dF (sr)) (bd ki (bd rfl (cF (dF (by decide+kernel)) (bd ck (bd rfl (bT rfl h)))))))))))
  have ll:((B.X.av (B.X.id k)).map a8).length<ab:=aE (by rw[Nn];exact hk _ idk);have tr:dG (aw (ag B M J)) (.loc 2 (B.X.id k))=some (!((B.X.av (B.X.id k)).map a8).isEmpty):=bd kk (if_pos ll);have ins:∀{ρ:Type}(K:Ku ρ),(d7 sg (ag B M J) fun(x61:Int)(s62:St)=>bA (B.X.id k:Int) x61 (-1) s62 fun(x63:Unit)(s64:St)=>K () s64)=K () (ag {B with X:=(B.X.bq sg).link B.X.N (B.X.id k)} M (w7 J c)):=fun K=>(Gr F hN U _).trans (hI _);cases e:(B.X.av (B.X.id k)).getLast? with
  |none=>
   have e':=List.getLast?_eq_none_iff.mp e;refine aa (show a9 sg B={B with X:=(B.X.bq sg).link B.X.N (B.X.id k)} by unfold a9;refine aa eo ?_;dsimp only;exact aa e rfl) ?_;exact⟨c,true,fun K=>start (bd tr (cT (by refine aa e' ?_;rfl) (ins K)))⟩
  |some d=>
   obtain⟨l',e'⟩:=List.getLast?_eq_some_iff.mp e;obtain⟨d0,dN⟩:=hc _ d idk (by refine aa e' ?_;simp);have kdd:=oJ (M:=M) (J:=J) F dN;have la:ai ((B.X.av (B.X.id k)).map a8) (.int (-1))=some (a8 d):=by refine aa e' (aa Nu ?_);exact eF
   have ne:(!!((B.X.av (B.X.id k)).map a8).isEmpty)=false:=by refine aa e' ?_;simp
   cases er:B.X.rk d with
   |some z=>
    have:B.X.kd d=q "element":=by unfold Tr.kd;exact aa (if_neg (KA d0)) (aa er rfl)
    rw[this]at kdd;rw[show a9 sg B={B with X:=(B.X.bq sg).link B.X.N (B.X.id k)} by unfold a9;rw[eo];dsimp only;rw[e];dsimp only;rw[er]];exact⟨c,true,fun K=>start (bd tr (cF ne (bd ck (bd rfl (bT rfl (bd kk (bd la (bd rfl (cT (nT (dF (sr))) (bd kdd (bd rfl (cF (dF (by decide+kernel)) (ins K)))))))))))))⟩
   |none=>
    have:B.X.kd d=q "text":=by unfold Tr.kd;rw[if_neg (KA d0),er]
    rw[this]at kdd;have tt:=wH (M:=M) (J:=J) F dN;rw[show a9 sg B={B with X:={B.X with tx:=aN B.X.tx d (B.X.tx d++sg)} } by unfold a9;rw[eo];dsimp only;rw[e];dsimp only;rw[er]];refine⟨c,false,fun K=>start (bd tr (cF ne (bd ck (bd rfl (bT rfl (bd kk (bd la (bd rfl (cT (nT (dF (sr))) (bd kdd (bd rfl (cT (dT rfl) (bd tt (bd rfl (fT (N_ (ht d) (by decide)) (fT (aS (by have:=F.N;exact De dN hN)) (bd (hH ?_) ?_)))))))))))))))))⟩
    ·show d<(bF _ _).length;rw[aW];exact dN
    ·refine congrArg (K ()) ?_;show St.gf _ (List.set (bF _ _) _ _)=_;have:=i8 (f:=fun i=>AV.str (B.X.tx i)) (g:=fun i=>AV.str (aN B.X.tx d (B.X.tx d++sg) i)) dN (fun i _ hne=>by rw[ay hne]);rw[az]at this;rw[this];rfl
end
def bX:List (List cj):=[[],[(q "class",q "x")],[(q "class",q "x"),(q "id",q "y")],[(q "id",q "y"),(q "class",q "x")],[(q "class",q "y")]]
theorem fB:∀a∈bX,a.length≤10:=by decide+kernel
structure Ok (B:Bs) (b:Nat):Prop where
 U:eP B.X
 N:B.X.N+b<999900
 oN:B.aj.length≤B.X.N
 lN:B.ah.length+b<999900
 eN:B.aq.length+b<999900
 tN:∀i,(B.X.tx i).length+b<999900
 kl:∀i,i<B.X.N→(B.X.av i).length≤B.X.N
 kc:∀i c,i<B.X.N→c∈B.X.av i→0<c∧c<B.X.N
 hk:∀k∈B.aj,k<B.X.n
 nd:B.aj.Nodup
 bot:∃t,B.aj=t++[2,0]∧∀a∈t,2<a
 Hf:B.X.nm 0=q "html"
 Hg:B.X.nm 2=q "body"
 n2:2<B.X.n
 hl:∀k,some k∈B.ah→k<B.X.n
 ln:B.ah.Pairwise fun a b=>a=b→a=.none
 l2:∀k,some k∈B.ah→2<k∧cO (B.X.nm k)=false
 ok:∀k,2<k→k<B.X.n→cO (B.X.nm k)=false→i7 (B.X.nm k)=false
 nt:∀k,k<B.X.n→B.X.nm k≠q "template"
 al:∀k,k<B.X.n→B.X.bc k∈bX
section
variable{B:Bs}{M:Ms}{J:Jk}{b:Nat}
theorem Ok.F(W:Ok B b):dn B:=⟨by have:=W.N;lia,by have:=W.N;have:=W.oN;lia,by have:=W.lN;lia,by have:=W.eN;lia⟩
theorem Ok.wf(W:Ok B b):Wf B:=⟨W.F,by have:=W.eN;exact(LA [_,_] (Sx (.a V0 (.k 40))) (.k 1000000) (Sx (.a V0 V1)) (.k 999900) rfl this),W.U.togx,W.hk,W.nd,W.bot,W.Hf,W.Hg,W.n2,W.hl,W.ln,W.l2,W.ok⟩
theorem Ok.ne(W:Ok B b):B.aj≠[]:=by obtain⟨t,e,_⟩:=W.bot;refine aa e ?_;simp
theorem Ok.le(W:Ok B b){c:Nat}(h:c≤b):Ok B c:={W with N:=by have:=W.N;exact Fz this h,lN:=by have:=W.lN;exact Fz this h,eN:=by have:=W.eN;exact Fz this h,tN:=fun i=>by have:=W.tN i;exact Fz this h}
theorem Ok.cut(W:Ok B b){o:List Nat}{l:List (Option Nat)}{t:List Nat}(ho:o.Sublist B.aj)(hb:o=t++[2,0])(hl:l.Sublist B.ah):Ok {B with aj:=o,ah:=l} b:=
 {W with
  oN:=N1 ho.length_le W.oN
  lN:=by have:=hl.length_le;have:=W.lN;show l.length+b<_;lia
  hk:=fun k h=>W.hk k (ho.subset h)
  nd:=ho.nodup W.nd
  bot:=⟨t,hb,fun a ha=>by
   refine ar (W.bot) fun t' e h=>?_;have am:a∈B.aj:=ho.subset (by refine aa hb ?_;exact Nr _ ha);have nd:=ho.nodup W.nd;rw[hb]at nd;rw[e]at am;rcases Nw.mp am with x|x
   ·exact h a x
   ·exact absurd rfl (((Oh.mp nd).2.2) a ha a x)⟩
  hl:=fun k h=>W.hl k (hl.subset h)
  ln:=W.ln.sublist hl
  l2:=fun k h=>W.l2 k (hl.subset h)}
theorem Ok.err(W:Ok B (b+1)){e:List Str}(h:e.length≤B.aq.length+1):Ok {B with aq:=e} b:=
 {W.le (Oe b)with eN:=by have:=W.eN;show e.length+b<_;exact(LA [_,_,_,_] (Sx (.a V0 V1)) V2 (.a V0 (Sx (.a V3 (Sx V1)))) (.a (Sx V3) V2) rfl (Nq h this))}
theorem Ok.new(W:Ok B (b+1)){x:Str}{l:List cj}(hx:x≠q "template")(hs:cO x=false→i7 x=false)(hl:l∈bX):Ok (aI x l B) b:=by
 unfold aI;cases eo:B.aj with
 |nil=>exact absurd eo W.ne
 |cons k r=>
  have kn:=W.hk k (by refine aa eo ?_;exact .head _);have idk:B.X.id k<B.X.N:=W.U.lt k kn;have nmo:∀i,i<B.X.n→((B.X.bo x l).link B.X.N (B.X.id k)).nm i=B.X.nm i:=fun i h=>ay (Oa (by assumption));have n2:=W.n2;refine{U:=(W.U.bo x l).link idk (NT _),N:=by have:=W.N;show B.X.N+1+b<_;exact Dc this,oN:=?_,lN:=by have:=W.lN;show B.ah.length+b<_;exact NS (by assumption),eN:=by have:=W.eN;show B.aq.length+b<_;exact Pd this,tN:=?_,kl:=?_,kc:=?_,hk:=?_,nd:=?_,bot:=?_,Hf:=(nmo 0 (LW n2)).trans W.Hf,Hg:=(nmo 2 n2).trans W.Hg,n2:=Om n2,hl:=fun k h=>Om (W.hl k h),ln:=W.ln,l2:=?_,ok:=?_,nt:=?_,al:=?_}
  ·show(B.X.n::k::r).length≤B.X.N+1;have:=W.oN;rw[eo]at this;simpa using this
  ·intro i;show(aN B.X.tx B.X.N (q "") i).length+b<_;by_cases e:i=B.X.N
   ·refine aa e ?_;refine aa az ?_;have:=W.N;show(q "").length+b<_;refine aa (show(q "").length=0 by decide+kernel) ?_;exact(LA [_,_,_] (Sx (.a (.k 0) V0)) V1 (Sx (.a V2 (Sx V0))) V1 rfl this)
   ·refine aa (ay e) ?_;have:=W.tN i;exact Pd this
  ·intro i hi;show(aN (aN B.X.av B.X.N []) (B.X.id k) (aN B.X.av B.X.N [] (B.X.id k)++[B.X.N]) i).length≤B.X.N+1;by_cases e:i=B.X.id k
   ·refine aa e ?_;refine aa az (aa (ay (gT idk)) (aa NH ?_));have:=W.kl _ idk;simpa using this
   ·refine aa (ay e) ?_;by_cases e2:i=B.X.N
    ·refine aa e2 ?_;refine aa az ?_;exact Ov _
    ·refine aa (ay e2) ?_;have:=W.kl i (by have:i<B.X.N+1:=hi;exact eV this e2);exact H_ this
  ·intro i c hi hc;show 0<c∧c<B.X.N+1;have hc:c∈aN (aN B.X.av B.X.N []) (B.X.id k) (aN B.X.av B.X.N [] (B.X.id k)++[B.X.N]) i:=hc;by_cases e:i=B.X.id k
   ·subst e;rw[az,ay (gT idk)]at hc;rcases Nw.mp hc with h|h
    ·obtain⟨p,q⟩:=W.kc _ c idk h;exact⟨p,Df q⟩
    ·have:=NX.mp h;have:=W.U.Np;lia
   ·rw[ay e]at hc;by_cases e2:i=B.X.N
    ·subst e2;rw[az]at hc;cases hc
    ·rw[ay e2]at hc;obtain⟨p,q⟩:=W.kc i c (by have:i<B.X.N+1:=hi;exact eV this e2) hc;exact⟨p,Df q⟩
  ·intro a ha;show a<B.X.n+1;rcases Nv.mp ha with rfl|ha
   ·exact NT _
   ·exact Om (W.hk a (by refine aa eo ?_;exact ha))
  ·refine NZ.mpr ⟨fun h=>?_,by have:=W.nd;rwa [eo]at this⟩;have:=W.hk _ (by refine aa eo ?_;exact h);exact M_ this
  ·refine ar (W.bot) fun t e h=>?_;refine⟨B.X.n::t,by show B.X.n::k::r=_;refine bR eo ?_;refine aa e ?_;rfl,fun a ha=>?_⟩;rcases Nv.mp ha with rfl|ha
   ·exact n2
   ·exact h a ha
  ·intro a ha;refine aa (nmo a (W.hl a ha)) ?_;exact W.l2 a ha
  ·intro a h2 hn hs';have hn:a<B.X.n+1:=hn;by_cases e:a=B.X.n
   ·subst e;have hs':cO (aN B.X.nm B.X.n x B.X.n)=false:=hs';show i7 (aN B.X.nm B.X.n x B.X.n)=false;rw[az]at hs'⊢;exact hs hs'
   ·rw[nmo a (eV hn e)]at hs'⊢;exact W.ok a h2 (eV hn e) hs'
  ·intro a hn;have hn:a<B.X.n+1:=hn;by_cases e:a=B.X.n
   ·refine aa e ?_;show aN B.X.nm B.X.n x B.X.n≠_;refine aa az ?_;exact hx
   ·refine aa (nmo a (eV hn e)) ?_;exact W.nt a (eV hn e)
  ·intro a hn;have hn:a<B.X.n+1:=hn;show aN B.X.bc B.X.n l a∈bX;by_cases e:a=B.X.n
   ·refine aa e ?_;refine aa az ?_;exact hl
   ·refine aa (ay e) ?_;exact W.al a (eV hn e)
theorem vu(W:Ok B (b+1)){x:Str}{l:List cj}(hx:x≠q "template")(hl:l∈bX):∃c:List Int,∀{ρ:Type}(K:Ki ρ),bE x (l.map cy) (q "html") (ag B M J) K=K (B.X.N:Int) (ag (aI x l B) M (w7 J c)):=
 DG W.F (by have:=W.N;lia) (by have:=W.N;have:=W.oN;lia) W.U hx (by have:=fB _ hl;lia) W.hk W.hl W.ne fun i h=>by have:=W.kl i h;have:=W.N;lia
end
noncomputable def jr(J:Jk)(r:List AO):Jk:={J with r7:=r}
noncomputable def fN:List (Option Nat)→List (Option Nat)→Bs→Bs
 |_,[],B=>B
 |_,.none::_,B=>B
 |done,some k::ks,B=>fN (some B.X.n::done) ks {aI (B.X.nm k) (B.X.bc k) B with ah:=ks.reverse++some B.X.n::done}
noncomputable def aT(o:List Nat):Option Nat→Bool
 |.none=>false
 |some k=>decide (k∉o)
def aP(B:Bs):Bs:=fN (B.ah.dropWhile (aT B.aj)) (B.ah.takeWhile (aT B.aj)).reverse B
theorem bQ{x:Str}{l:List cj}{B:Bs}:(aI x l B).ah=B.ah:=by unfold aI;split<;>rfl
theorem iA{x:Str}{l:List cj}{B:Bs}(h:B.aj≠[]):∃k,(aI x l B).X=(B.X.bo x l).link B.X.N (B.X.id k)∧(aI x l B).aj=B.X.n::B.aj:=by
 unfold aI;cases e:B.aj with
 |nil=>exact absurd e h
 |cons k r=>exact⟨k,rfl,rfl⟩
section
variable{B:Bs}{M:Ms}{J:Jk}{b:Nat}
theorem Ok.re(W:Ok B (b+1)){k:Nat}{ks done:List (Option Nat)}(h:B.ah=ks.reverse++some k::done):Ok {aI (B.X.nm k) (B.X.bc k) B with ah:=ks.reverse++some B.X.n::done} b:=by
 have km:some k∈B.ah:=by refine aa h ?_;simp
 have kn:=W.hl k km;refine xA (W.l2 k km) fun k2 ks2=>?_;have W1:=W.new (W.nt k kn) (W.ok k k2 kn) (W.al k kn);refine ar (iA (x:=B.X.nm k) (l:=B.X.bc k) W.ne) fun p hX hO=>?_;have hn:(aI (B.X.nm k) (B.X.bc k) B).X.n=B.X.n+1:=by exact aa hX rfl
 have nm:∀i,(aI (B.X.nm k) (B.X.bc k) B).X.nm i=aN B.X.nm B.X.n (B.X.nm k) i:=fun i=>by refine aa hX ?_;rfl
 have old:∀{a},some a∈ks.reverse∨some a∈done→some a∈B.ah:=fun{a}h'=>by
  refine aa h ?_;refine Or.elim h' (fun x=>?_) fun x=>?_
  ·exact Nr _ x
  ·exact Nm _ (.tail _ x)
 have new:∀{a},some a∈ks.reverse++some B.X.n::done→a=B.X.n∨some a∈B.ah:=fun{a}h'=>by
  rcases Nw.mp h' with x|x
  ·exact .inr (old (.inl x))
  ·rcases Nv.mp x with x|x
   ·revert x;refine aJ fun x=>?_;refine aa x ?_;exact .inl rfl
   ·exact .inr (old (.inr x))
 refine{W1 with lN:=?_,hl:=?_,ln:=?_,l2:=?_}
 ·have:=W.lN;rw[h]at this;show(ks.reverse++some B.X.n::done).length+b<_;simp at this⊢;exact NS (by assumption)
 ·intro a ha;refine aa hn ?_;rcases new ha with rfl|x
  ·exact NT _
  ·exact Om (W.hl a x)
 ·have p:=W.ln;rw[h,List.pairwise_append,OC]at p;obtain⟨p1,⟨p2,p3⟩,p4⟩:=p;rw[List.pairwise_append,OC];refine⟨p1,⟨fun a ha e=>?_,p3⟩,fun a ha c hc e=>?_⟩
  ·subst e;exact absurd (W.hl _ (old (.inr ha))) (Oc _)
  ·rcases Nv.mp hc with rfl|hc
   ·subst e;exact absurd (W.hl _ (old (.inl ha))) (Oc _)
   ·exact p4 a ha c (.tail _ hc) e
 ·intro a ha;show 2<a∧cO ((aI (B.X.nm k) (B.X.bc k) B).X.nm a)=false;rw[nm];rcases new ha with rfl|x
  ·refine aa az ?_;exact⟨W.n2,ks2⟩
  ·refine aa (ay (by have:=W.hl a x;exact gT this)) ?_;exact W.l2 a x
def wA{ρ:Type}(K:Ku ρ)(go9:Nat→Int×PUnit→St→Option ρ)(j10:Nat)(t11:Int×PUnit)(s12:St):Option ρ:=
 if s12.fmt.length<ab then bif decide (t11.fst<(↑s12.fmt.length:Int))then(ai s12.fmt (AV.int t11.fst)).bind fun(x13:AV)=>x13.i?.bind fun(x14:Int)=>(ai s12.names (AV.int x14)).bind fun(x15:AV)=>x15.s?.bind fun(x16:Str)=>(ai s12.attrs (AV.int x14)).bind fun(x17:AV)=>x17.l?.bind fun(x18:Nat×Nat)=>bif x18.fst.beq 1 then(ae (aw s12) 1 x18.snd).bind fun(x19:List AV)=>if x19.length<ab then bE x16 x19 (q "html") s12 fun(x20:Int)(s21:St)=>if small t11.fst=true then(idx t11.fst s21.fmt.length).bind fun(x22:Nat)=>go9 (j10+1) (t11.fst+1,()) (s21.cc (s21.fmt.set x22 (AV.int x20)))else none else none else none else K () s12 else none
theorem rU:∀(ks done:List (Option Nat))(B:Bs)(J:Jk),B.ah=ks.reverse++done→Ok B (b+ks.length)→(∀o∈ks,o≠.none)→∃r,∀{ρ:Type}(K:Ku ρ)(j e:Nat),
 bK (wA K) (ks.length+1+e) j ((done.length:Int),()) (ag B M J)=K () (ag (fN done ks B) M (jr J r))
 |[]=>fun done B J h W _=>⟨J.r7,fun K j e=>by
  refine aa (show([]:List (Option Nat)).length+1+e=e+1 by simp;exact O8 1 _) ?_;refine eJ.trans ?_;exact fT (eu W.F) (cF (dF (by refine aa aL (aa h ?_);simp)) rfl)⟩
 |.none::ks=>fun done B J h W hs=>absurd rfl (hs _ (.head _))
 |some k::ks=>fun done B J h W hs=>by
  have h':B.ah=ks.reverse++some k::done:=by refine aa h ?_;simp
  have km:some k∈B.ah:=by refine aa h' ?_;simp
  have kn:=W.hl k km;have W1:Ok B (b+ks.length+1):=W;refine xE (vu (M:=M) (J:=J) W1 (W.nt k kn) (W.al k kn)) fun c hc=>?_;refine xE (rU ks (some B.X.n::done) {aI (B.X.nm k) (B.X.bc k) B with ah:=ks.reverse++some B.X.n::done} (w7 J c) rfl (W1.re h') (fun o ho=>hs o (.tail _ ho))) fun r hr=>?_;refine⟨r,fun K j e=>?_⟩;have F:=W.F;have idk:=W.U.lt k kn;have dl:done.length<B.ah.length:=by refine aa h' ?_;simp;exact Mp
  have dN:done.length<1000000:=by have:=F.ah;exact N_ (by assumption) (by assumption)
  have it:ai (ag B M J).fmt (.int (done.length:Int))=some (.int (B.X.id k:Int)):=by
   refine bp ?_ (mu dN);refine aa cC (aa h' (aa (Nz) (aa N3 (aa NN ?_))));rw[NK];refine aa (Ow (by simp)) ?_;simp[eU]
  have at_:B.X.sv (B.X.id k)=B.X.bc k:=by unfold Tr.sv;exact aa (W.U.rk k kn) rfl
  refine aa (show(some k::ks).length+1+e=(ks.length+1+e)+1 by simp;exact Ih) ?_;refine eJ.trans ?_;refine fT (eu F) (cT (dT (by refine aa aL ?_;dsimp only;exact H9 dl)) (bd it (bd rfl (bd (el (M:=M) (J:=J) F W.U.togx kn).nm (bd rfl (bd (mJ F idk) (bd rfl (bT rfl (bd (AG idk) (fT ?_ ?_))))))))))
  ·refine aa at_ ?_;exact aE (by rw[Nn];have:=fB _ (W.al k kn);exact zH this)
  ·refine aa at_ ?_;refine(hc _).trans ?_;refine fT (aS (mu dN)) (bd (hH ?_) ?_)
   ·refine aa aL (aa bQ ?_);exact dl
   ·refine Eq.trans ?_ (hr K (j+1) e);refine congrArg (bK _ _ _ _) ?_;refine ar (iA (x:=B.X.nm k) (l:=B.X.bc k) W.ne) fun p hX hO=>?_;refine(?_:St.cc (ag (aI (B.X.nm k) (B.X.bc k) B) M (w7 J c)) _=St.cc (ag (aI (B.X.nm k) (B.X.bc k) B) M (w7 J c)) (ag {aI (B.X.nm k) (B.X.bc k) B with ah:=ks.reverse++some B.X.n::done} M (w7 J c)).fmt);refine congrArg _ ?_;refine aa cC (aa cC (aa bQ (aa h' ?_)));have idn:(aI (B.X.nm k) (B.X.bc k) B).X.id B.X.n=B.X.N:=by refine aa hX ?_;exact az
    simp[eU,idn]
end
section
variable{B:Bs}{M:Ms}{J:Jk}{b:Nat}
theorem Ok.fN:∀(ks done:List (Option Nat))(B:Bs),B.ah=ks.reverse++done→Ok B (b+ks.length)→(∀o∈ks,o≠.none)→Ok (Hx.fN done ks B) b
 |[]=>fun done B h W _=>W
 |.none::ks=>fun done B h W hs=>absurd rfl (hs _ (.head _))
 |some k::ks=>fun done B h W hs=>by
  have h':B.ah=ks.reverse++some k::done:=by refine aa h ?_;simp
  have W1:Ok B (b+ks.length+1):=W;exact Ok.fN ks (some B.X.n::done) {aI (B.X.nm k) (B.X.bc k) B with ah:=ks.reverse++some B.X.n::done} rfl (W1.re h') (fun o ho=>hs o (.tail _ ho))
theorem Ok.aP(W:Ok B (b+B.ah.length)):Ok (Hx.aP B) b:=by
 refine Ok.fN _ _ B ?_ (W.le ?_) ?_
 ·rw[Oq];exact aa NB rfl
 ·refine aa Nx ?_;have:=gk (p:=aT B.aj) (l:=B.ah);exact vj this
 ·intro o ho e;have:=b8 (N6.mp ho);clear ho;subst e;exact gz this
theorem iM(W:Ok B (b+B.ah.length)):∃r,∀{ρ:Type}(K:Ku ρ),dJ (ag B M J) K=K () (ag (aP B) M (jr J r)):=by
 have F:=W.F;have ltw:=gk (p:=aT B.aj) (l:=B.ah);have F4:=F.ah
 obtain⟨r,hr⟩:=rU (M:=M) (b:=b) (B.ah.takeWhile (aT B.aj)).reverse (B.ah.dropWhile (aT B.aj)) B J (by rw[Oq,NB]) (W.le (by refine aa Nx ?_;exact vj ltw)) (fun o ho e=>by
  have:=b8 (N6.mp ho);clear ho;subst e;cases this)
 refine⟨r,fun K=>?_⟩
 have hdl:((B.ah.length:Nat):Int)-((B.ah.takeWhile (aT B.aj)).length:Nat)=((B.ah.dropWhile (aT B.aj)).length:Nat):=by
  have:=congrArg List.length (NB (p:=aT B.aj) (l:=B.ah));rw[NH]at this;exact Int.sub_eq_iff_eq_add'.mpr (congrArg Nat.cast (id (Eq.symm this)))
 have fin:bK (wA K) (cD cg) 0 (((B.ah.length:Nat):Int)-((B.ah.takeWhile (aT B.aj)).length:Nat),()) (ag B M J)=K () (ag (aP B) M (jr J r)):=by
  rw[hdl,gJ,show cg=(B.ah.takeWhile (aT B.aj)).reverse.length+1+(999999-(B.ah.takeWhile (aT B.aj)).reverse.length) by refine aa Nx ?_;unfold cg;exact((Ot _ _ _).trans (congrArg (·+1) (O4 (O1 (NA ltw F4))))).symm];exact hr K 0 _
 refine fT (eu F) ?_;have z:((ag B M J).fmt.length:Int)=((B.ah.length:Nat):Int)-((0:Nat):Int):=by refine aa aL ?_;exact Eq.symm (Int.sub_zero _)
 refine aa z ?_;refine(bD (B.ah.takeWhile (aT B.aj)).length (fun j=>(((B.ah.length:Nat):Int)-(j:Int),())) (fun _=>ag B M J) ?_ ?_).trans ?_
 ·show _<1000000;exact NA (by assumption) (by assumption)
 ·intro j hj go;refine ar (cL hj) fun o e p=>?_;have it:=jx (M:=M) (J:=J) F e;rw[aL]at it;cases o with
  |none=>first|exact ns p|cases p
  |some k=>
   have kn:=W.hl k (Ob (i:=j) (by refine aa e ?_;exact .head _));have q1:((B.ah.length:Nat):Int)-(j:Int)-1=((B.ah.length:Nat):Int)-1-(j:Int):=(Int.sub_sub _ _ _).trans ((congrArg _ (Int.add_comm _ _)).trans (Int.sub_sub _ _ _).symm);have q2:((B.ah.length:Nat):Int)-((j+1:Nat):Int)=((B.ah.length:Nat):Int)-1-(j:Int):=L5;have it':=q1.symm▸it;refine cT (dT (by dsimp only;exact Int.sub_pos_of_lt (Ox.mpr (NJ hj ltw)))) (bd it' (bd rfl (cT (nT (dF (by show¬((B.X.id k:Int)=-1);exact sr))) (bd it' (bd rfl (bd (hV W.U.togx W.hk kn) (cT (nT ?_) (congrArg (fun z=>go (j+1) (z,()) (ag B M J)) (q1.trans q2.symm)))))))));have p:decide (k∉B.aj)=true:=p;simpa using p
 ·have dt:=bM (p:=aT B.aj) (l:=B.ah);cases e:B.ah.dropWhile (aT B.aj)with
  |nil=>
   rw[e]at hdl;refine cF (dF (by dsimp only;rw[hdl];simp)) ?_;exact fin
  |cons o l=>
   have e2:=dt.trans e;have it:=jx (M:=M) (J:=J) F e2;rw[aL]at it;have q1:((B.ah.length:Nat):Int)-((B.ah.takeWhile (aT B.aj)).length:Int)-1=((B.ah.length:Nat):Int)-1-((B.ah.takeWhile (aT B.aj)).length:Int):=(Int.sub_sub _ _ _).trans ((congrArg _ (Int.add_comm _ _)).trans (Int.sub_sub _ _ _).symm);have hpos:0<((B.ah.length:Nat):Int)-((B.ah.takeWhile (aT B.aj)).length:Nat):=by rw[hdl,e];simp
   refine cT (dT hpos) (bd (q1▸it) (bd rfl ?_));cases o with
   |none=>exact cF (nF (dT rfl)) fin
   |some k=>
    have kn:=W.hl k (Ob (i:=(B.ah.takeWhile (aT B.aj)).length) (by rw[e2];exact .head _));refine cT (nT (dF (by show¬((B.X.id k:Int)=-1);exact sr))) (bd (q1▸it) (bd rfl (bd (hV W.U.togx W.hk kn) (cF (nF ?_) fin))));have:=et e;have:decide (k∉B.aj)=false:=this;simpa using this
end
noncomputable def BQ(x:Str):List cj→Option Str
 |[]=>.none
 |p::l=>if p.1=x then some p.2 else BQ x l
theorem Ld{x:Str}{p:cj}{l:List cj}:BQ x (p::l)=if p.1=x then some p.2 else BQ x l:=rfl
noncomputable def Mw:Option Str→AV
 |.none=>.none
 |some s=>.str s
theorem BS{x:Str}:∀{l:List cj},BQ x l=(l.dropWhile (fun p=>!decide (p.1=x))).head?.map (·.2)
 |[]=>rfl
 |p::l=>by
  rw[Ld];refine aa N2 ?_;by_cases h:p.1=x
  ·refine aa (if_pos h) (aa (dT h) ?_);rfl
  ·refine aa (if_neg h) (aa (dF h) ?_);exact BS
noncomputable def Kl(a b:List cj):Bool:=decide (a.length=b.length)&&a.all fun p=>decide (BQ p.1 b=some p.2)
theorem mU:∀a∈bX,∀b∈bX,a.length=b.length→∀p∈a,BQ p.1 b≠none:=by decide+kernel
section
variable{B:Bs}{M:Ms}{J:Jk}
theorem ju(U:gx B.X){k:Nat}(kn:k<B.X.n):ae (aw (ag B M J)) 1 (B.X.id k)=some ((B.X.bc k).map cy):=by
 have at_:B.X.sv (B.X.id k)=B.X.bc k:=by unfold Tr.sv;exact aa (U.rk k kn) rfl
 have:=AG (M:=M) (J:=J) (U.lt k kn)
 rwa [at_]at this
theorem nh(U:gx B.X){k j:Nat}(kn:k<B.X.n){o:Option cj}(h:(B.X.bc k)[j]?=o):((ae (aw (ag B M J)) 1 (B.X.id k)).bind fun(x7:List AV)=>if x7.length=((B.X.bc k).map cy).length then some x7[j]? else none)=some (o.map cy):=
 bd (ju U kn) ((if_pos rfl).trans (by exact aa (Nz) (aa h rfl)))
theorem dY{α:Type}{l r:List α}{j:Nat}{a:α}(h:l.drop j=a::r):l[j]?=some a:=by
 have:=List.getElem?_drop (xs:=l) (i:=j) (j:=0);rw[h]at this;simpa using this.symm
theorem mZ{α:Type}{l:List α}{j:Nat}(h:l.drop j=[]):l[j]?=none:=NO (List.drop_eq_nil_iff.mp h)
theorem vy(F:dn B)(U:gx B.X){k:Nat}(kn:k<B.X.n){x:Str}{ρ:Type}(K:AV→St→Option ρ):nP (B.X.id k:Int) x (ag B M J) K=K (Mw (BQ x (B.X.bc k))) (ag B M J):=by
 refine bd (mJ F (U.lt k kn)) (bd rfl (bT rfl (bd (ju U kn) ?_)));refine(bD ((B.X.bc k).takeWhile (fun p=>!decide (p.1=x))).length (fun _=>((B.X.id k:Int),x,())) (fun _=>ag B M J) ?_ ?_).trans ?_
 ·rw[Nn];exact Ol gk
 ·intro j hj go;refine ar (cL hj) fun p e hp=>?_;exact bd (nh U kn (dY e)) (oS rfl (bd rfl (cF (by simpa using hp) rfl)))
 ·refine aa BS ?_;refine bR bM ?_;cases e:(B.X.bc k).drop ((B.X.bc k).takeWhile (fun p=>!decide (p.1=x))).length with
  |nil=>exact bd (nh U kn (mZ e)) (oN rfl rfl)
  |cons p r=>
   refine bd (nh U kn (dY e)) (oS rfl (bd rfl (cT ?_ rfl)));have:=et (bM.symm.trans e);simpa using this
theorem FW{H:AH}{o:Option Str}{s:Str}(h:o≠none):fg H (Mw o) (.str s)=some (decide (o=some s)):=by
 cases o with
 |none=>exact absurd rfl h
 |some t=>
  refine(show fg H (.str t) (.str s)=some (t==s)from rfl).trans ?_;rw[Oi,OL,beq_iff_eq,decide_eq_true_iff];simp
theorem DC(F:dn B)(U:gx B.X){a b:Nat}(an:a<B.X.n)(bn:b<B.X.n)(ha:B.X.bc a∈bX)(hb:B.X.bc b∈bX){ρ:Type}(K:Kb ρ):
 nG (B.X.id a:Int) (B.X.id b:Int) (ag B M J) K=K (decide (B.X.nm a=B.X.nm b)&&Kl (B.X.bc a) (B.X.bc b)) (ag B M J):=by
 have la:=fB _ ha;have lb:=fB _ hb;have ea:=el (M:=M) (J:=J) F U an;have eb:=el (M:=M) (J:=J) F U bn;have fa:((B.X.bc a).map cy).length<ab:=aE (by rw[Nn];exact zH la);have fb:((B.X.bc b).map cy).length<ab:=aE (by rw[Nn];exact zH lb);refine bd ea.nm (bd rfl (bd eb.nm (bd rfl ?_)));by_cases hn:B.X.nm a=B.X.nm b
 ·refine cF (nF (dT hn)) (bd ea.sp (bd rfl (bd eb.sp (bd rfl (cF (nF (dT rfl)) (bd (mJ F (U.lt a an)) (bd rfl (bT rfl (bd (ju U an) (fT fa (bd (mJ F (U.lt b bn)) (bd rfl (bT rfl (bd (ju U bn) (fT fb ?_)))))))))))))));unfold Kl;by_cases hl:(B.X.bc a).length=(B.X.bc b).length
  ·refine cF (nF (dT (by simp[hl]))) (bd (mJ F (U.lt a an)) (bd rfl (bT rfl (bd (ju U an) ?_))));refine aa (dT hn) (aa (dT hl) ?_);rw[Bool.true_and,Bool.true_and];refine(bD ((B.X.bc a).takeWhile (fun p=>decide (BQ p.1 (B.X.bc b)=some p.2))).length (fun _=>((B.X.id a:Int),(B.X.id b:Int),())) (fun _=>ag B M J) ?_ ?_).trans ?_
   ·rw[Nn];exact Ol gk
   ·intro j hj go;refine ar (cL hj) fun p e hp=>?_;refine bd (nh U an (dY e)) (oS rfl (bd rfl ((vy F U bn _).trans ?_)));refine bd (by refine aa (FW (mU _ ha _ hb hl p (Oo (dY e)))) (aa hp ?_);rfl) (cF rfl rfl)
   ·cases e:(B.X.bc a).drop ((B.X.bc a).takeWhile (fun p=>decide (BQ p.1 (B.X.bc b)=some p.2))).length with
    |nil=>
     refine bd (nh U an (mZ e)) (oN rfl ?_)
     congr 1
     symm
     rw[N5];intro p hp;have e2:=bM.symm.trans e;have:=NB (p:=fun p=>decide (BQ p.1 (B.X.bc b)=some p.2)) (l:=B.X.bc a);rw[e2,N7]at this;rw[←this]at hp;exact b8 (p:=fun p:cj=>decide (BQ p.1 (B.X.bc b)=some p.2)) hp
    |cons p r=>
     refine bd (nh U an (dY e)) (oS rfl (bd rfl ((vy F U bn _).trans ?_)));refine bd (by refine aa (FW (mU _ ha _ hb hl p (Oo (dY e)))) (aa ((et (bM.symm.trans e))) ?_);rfl) (cT rfl ?_)
     congr 1
     symm
     rw[List.all_eq_false];exact⟨p,Oo (dY e),by simpa using(et (bM.symm.trans e))⟩
  ·refine aa (dF hl) ?_;rw[Bool.false_and,Bool.and_false];exact cT (nT (dF (by simp only[Nn];exact Nat.ToInt.of_diseq rfl rfl hl))) rfl
 ·exact cT (nT (dF hn)) (by exact aa (dF hn) rfl)
end
noncomputable def mI(nm:Nat→Str)(bc:Nat→List cj)(n:Nat):Option Nat→Bool
 |.none=>false
 |some k=>decide (nm k=nm n)&&Kl (bc k) (bc n)
noncomputable def gn(al:Option Nat→Bool)(pre:List (Option Nat))(r:Nat):Option Nat:=(pre.reverse.findIdx? al).map (r+·)
noncomputable def Bb:Option Nat→Int
 |.none=>-1
 |some i=>(i:Int)
def gh(al:Option Nat→Bool)(n:Nat)(l:List (Option Nat)):List (Option Nat):=
 some n::(if 3≤(l.takeWhile Option.isSome).countP al then match gn al (l.takeWhile Option.isSome) (l.dropWhile Option.isSome).length with
  |.none=>l
  |some i=>(l.reverse.eraseIdx i).reverse else l)
theorem y6{al:Option Nat→Bool}{pre:List (Option Nat)}{a:Option Nat}{r:Nat}:gn al (pre++[a]) r=if al a then some r else gn al pre (r+1):=by
 unfold gn;refine aa N3 (aa List.reverse_singleton (aa List.singleton_append (aa (List.findIdx?_cons) ?_)));split
 ·rfl
 ·cases pre.reverse.findIdx? al with
  |none=>rfl
  |some i=>simp;exact Eq.symm (Nat.succ_add_eq_add_succ _ _)
theorem vL{al:Option Nat→Bool}{pre:List (Option Nat)}{r i:Nat}(h:gn al pre r=some i):i<r+pre.length:=by
 unfold gn at h;cases e:pre.reverse.findIdx? al with
 |none=>rw[e]at h;exact cZ h
 |some j=>
  rw[e]at h;revert h;refine aJ fun h=>?_;subst h;have:=List.findIdx?_eq_some_iff_findIdx_eq.mp e;have:=this.1;rw[Nx]at this
  lia
theorem mR{al:Option Nat→Bool}{pre:List (Option Nat)}{r:Nat}(h:0<pre.countP al):∃i,gn al pre r=some i:=by
 unfold gn;cases e:pre.reverse.findIdx? al with
 |some i=>exact⟨_,rfl⟩
 |none=>
  exfalso
  rw[List.findIdx?_eq_none_iff]at e;refine ar (List.countP_pos_iff.mp h) fun a ha hp=>?_;have:=e a (N6.mpr ha);rw[hp]at this;cases this
theorem jw{α β:Type}{g:α→β}:∀{l:List α}{i:Nat},(l.map g).eraseIdx i=(l.eraseIdx i).map g
 |[],_=>rfl
 |a::l,0=>rfl
 |a::l,i+1=>congrArg (g a::·) (jw (l:=l) (i:=i))
section
variable{B:Bs}{M:Ms}{J:Jk}{b:Nat}
theorem lg{l:List (Option Nat)}{f:List AV}(h:f=l.reverse.map fun o=>.int (eU B.X.id o)):(ag B M J).cc f=ag {B with ah:=l} M J:=by
 refine aa h ?_;refine(?_:St.cc _ _=St.cc (ag B M J) (ag {B with ah:=l} M J).fmt);exact aa cC rfl
theorem DF(W:Ok B (b+1)){n:Nat}(hn:n<B.X.n){ρ:Type}(K:Ku ρ):
 dI (B.X.id n:Int) (ag B M J) K=K () (ag {B with ah:=gh (mI B.X.nm B.X.bc n) n B.ah} M J):=by
 have F:=W.F;have F4:=F.ah;have sl:=dE (n:=(ag B M J).fmt.length) (by refine aa aL ?_;exact F.ah);refine fT (eu F) (fT (by refine aa sl ?_;rfl) (fT (by refine aa sl ?_;rfl) ?_));have ltw:(B.ah.takeWhile Option.isSome).length≤(ag B M J).fmt.length:=by refine aa aL ?_;exact gk
 have lad:=congrArg List.length (NB (p:=Option.isSome) (l:=B.ah));rw[NH]at lad
 have tk:B.ah.take (B.ah.takeWhile Option.isSome).length=B.ah.takeWhile Option.isSome:=by
  conv=>lhs;arg 2;rw[←NB (p:=Option.isSome) (l:=B.ah)]
  exact aa List.take_left rfl
 have fin:∀{c:Int}{e:Int},c=((B.ah.takeWhile Option.isSome).countP (mI B.X.nm B.X.bc n):Nat)→e=Bb (gn (mI B.X.nm B.X.bc n) (B.ah.takeWhile Option.isSome) (B.ah.dropWhile Option.isSome).length)→
  (bif decide (3≤c)then if(ag B M J).fmt.length<ab then if small e=true then(idx e (ag B M J).fmt.length).bind fun(x4:Nat)=>(ag B M J).fmt[x4]?.bind fun(x5:AV)=>if((ag B M J).fmt.eraseIdx x4).length<ab then K () (((ag B M J).cc ((ag B M J).fmt.eraseIdx x4)).cc ((ag B M J).fmt.eraseIdx x4++[AV.int (B.X.id n:Int)]))else none else none else none else if(ag B M J).fmt.length<ab then K () ((ag B M J).cc ((ag B M J).fmt++[AV.int (B.X.id n:Int)]))else none)=K () (ag {B with ah:=gh (mI B.X.nm B.X.bc n) n B.ah} M J):=by
  intro c e hc he;subst hc he;unfold gh;by_cases h3:3≤(B.ah.takeWhile Option.isSome).countP (mI B.X.nm B.X.bc n)
  ·refine xE (mR (al:=mI B.X.nm B.X.bc n) (r:=(B.ah.dropWhile Option.isSome).length) (NJ (by decide) h3)) fun i hi=>?_;have il:=vL hi;refine aa hi (aa (if_pos h3) ?_);have li:i<(ag B M J).fmt.length:=by refine aa aL ?_;exact(LA [_,_,_,_] (Sx V0) V1 (.a (Sx V0) (.a V3 V2)) (.a (.a V2 V3) V1) rfl (Nq il (Ny lad)))
   have i9:i<1000000000:=(LA [_,_,_,_] (Sx V0) (.k 1000000000) (.a (.a (Sx V0) (.a V2 V1)) (Sx V3)) (.a (.a (.a V1 V2) V3) (.k 1000000)) rfl (Nq (Nq il (Ny lad)) F4));refine cT (dT (Int.toNat_le.mp h3)) (fT (eu F) (fT (show small (i:Int)=true from aS i9) (bd (hH li) (bd (NP li) (fT ?_ ?_)))))
   ·refine aE ?_;refine aa (List.length_eraseIdx_of_lt li) (aa aL ?_);exact Nat.sub_lt_of_lt F4
   ·refine congrArg (K ()) ?_;show(ag B M J).cc _=_;refine lg ?_;rw[cC,NN,Oq,Nu,jw]
    rfl
  ·refine aa (if_neg h3) ?_;refine cF (dF (JZ h3)) (fT (eu F) (congrArg (K ()) (lg ?_)));rw[cC,NN,Nu]
   rfl
 refine(bD (B.ah.takeWhile Option.isSome).length (fun j=>((B.X.id n:Int),(((B.ah.take j).countP (mI B.X.nm B.X.bc n):Nat):Int),Bb (gn (mI B.X.nm B.X.bc n) (B.ah.take j) (B.ah.length-j)),())) (fun _=>ag B M J) ?_ ?_).trans ?_
 ·rw[hU];exact Ol ltw
 ·intro j hj go;refine ar (cL hj) fun o e p=>?_;have jl:j<B.ah.length:=by rw[aL]at ltw;exact NJ hj ltw
  have it:=jx (M:=M) (J:=J) F e;cases o with
  |none=>first|exact ns p|cases p
  |some k=>
   have kn:=W.hl k (Ob (i:=j) (by rw[e];exact .head _));have ts:B.ah.take (j+1)=B.ah.take j++[some k]:=by rw[List.take_add_one,dY e];rfl
   refine oS (cI.trans (if_pos (NJ hj ltw))) (bd rfl (bd it (bd rfl (cF (dF (by show¬((B.X.id k:Int)=-1);exact sr)) (bd it (bd rfl ((DC F W.U.togx kn hn (W.al k kn) (W.al n hn) _).trans ?_)))))));rw[ts,y6,OQ,show B.ah.length-(j+1)+1=B.ah.length-j by exact Nat.sub_add_cancel (Nat.sub_pos_of_lt (NJ hj (Nat.le.intro lad)))];cases ha:mI B.X.nm B.X.bc n (some k)with
   |true=>
    refine cT ha ?_;rw[if_pos rfl,show([some k]:List (Option Nat)).countP (mI B.X.nm B.X.bc n)=1 by rw[List.countP_singleton,ha];rfl];rw[show((ag B M J).fmt.length:Int)-1-(j:Int)=Bb (some (B.ah.length-(j+1))) by rw[aL];show _=((B.ah.length-(j+1):Nat):Int);lia]
    rfl
   |false=>
    refine cF ha ?_;rw[if_neg NG,show([some k]:List (Option Nat)).countP (mI B.X.nm B.X.bc n)=0 by rw[List.countP_singleton,ha];rfl]
    rfl
 ·have dt:=bM (p:=Option.isSome) (l:=B.ah);have e1:((List.countP (mI B.X.nm B.X.bc n) (List.take (B.ah.takeWhile Option.isSome).length B.ah):Nat):Int)=((B.ah.takeWhile Option.isSome).countP (mI B.X.nm B.X.bc n):Nat):=by rw[tk]
  have e2:Bb (gn (mI B.X.nm B.X.bc n) (List.take (B.ah.takeWhile Option.isSome).length B.ah) (B.ah.length-(B.ah.takeWhile Option.isSome).length))=Bb (gn (mI B.X.nm B.X.bc n) (B.ah.takeWhile Option.isSome) (B.ah.dropWhile Option.isSome).length):=by
   rw[tk,show B.ah.length-(B.ah.takeWhile Option.isSome).length=(B.ah.dropWhile Option.isSome).length by exact Eq.symm (Nat.eq_sub_of_add_eq' lad)]
  cases e:B.ah.dropWhile Option.isSome with
  |nil=>
   refine oN (cI.trans (if_neg ?_)) (fin e1 e2);rw[aL];rw[e]at lad;simp at lad;exact(Nat.not_lt_of_le (LA [_,_] V1 V0 V1 V0 rfl (Ny lad.symm)))
  |cons o r=>
   have it:=jx (M:=M) (J:=J) F (dt.trans e);refine oS (cI.trans (if_pos ?_)) (bd rfl (bd it (bd rfl ?_)))
   ·rw[aL];rw[e]at lad;simp at lad;exact(LA [_,_,_] (Sx V0) V1 (.a V0 (Sx V2)) V1 rfl (Ny lad))
   ·clear it;cases o with
    |some k=>have:=et e;cases this
    |none=>exact cT (dT rfl) (fin e1 e2)
end
section
variable{B:Bs}{M:Ms}{J:Jk}{b:Nat}
theorem Ok.tail(W:Ok B b){pre l:List Nat}{a:Nat}(h:B.aj=pre++a::l)(ha:2<a):∃t,l=t++[2,0]:=by
 refine ar (W.bot) fun t e _=>?_;rw[e]at h;rcases List.append_eq_append_iff.mp h with⟨c,e1,e2⟩|⟨c,e1,e2⟩
 ·exfalso
  have:a∈[2,0]:=by refine aa e2 ?_;simp
  rcases Nv.mp this with x|x
  ·exact J_ ha x
  ·have:=NX.mp x;exact J9 ha this
 ·cases c with
  |nil=>
   exfalso
   have:a∈[2,0]:=by rw[List.nil_append]at e2;refine bR e2 ?_;simp
   rcases Nv.mp this with x|x
   ·exact J_ ha x
   ·have:=NX.mp x;exact J9 ha this
  |cons y c=>
   clear e1 h;cases e2;exact⟨c,rfl⟩
theorem Ok.named(W:Ok B b){a:Nat}{x:Str}(ha:a∈B.aj)(hn:B.X.nm a=x)(h1:x≠q "html")(h2:x≠q "body"):2<a:=by
 refine ar (W.bot) fun t e h=>?_;rw[e]at ha;rcases Nw.mp ha with y|y
 ·exact h a y
 ·clear ha;rcases Nv.mp y with rfl|y
  ·exact absurd (hn.symm.trans W.Hg) h2
  ·have:=NX.mp y;subst this;exact absurd (hn.symm.trans W.Hf) h1
theorem eM{α:Type}{l pre r:List α}{a:α}(h:l=pre++a::r):r.Sublist l:=by
 refine aa h ?_;exact(List.sublist_cons_self a r).trans (List.sublist_append_right _ _)
theorem Ok.eG(W:Ok B (b+1)){x:Str}(h1:x≠q "html")(h2:x≠q "body"):Ok (eG x B) b:=by
 refine sk (W.wf.ug x) fun a l h=>?_;have sp:=bB h;unfold Hx.eG;refine aa h ?_;dsimp only;split
 ·rename_i hn;have am:a∈B.aj:=by refine aa sp ?_;simp
  refine xE (W.tail sp (W.named am hn h1 h2)) fun t ht=>?_;exact(W.cut (o:=l) (l:=B.ah) (t:=t) (eM sp) ht (NW _)).err (by dsimp only;split<;>simp)
 ·exact W.err (by simp)
theorem Ok.eA(W:Ok B (b+1)){k:Nat}(hf:some k∈B.ah):Ok (eA k B) b:=by
 unfold Hx.eA;split
 ·split
  ·rename_i h1 h2;cases e:B.aj.dropWhile (rF B.X k)with
   |nil=>rw[e]at h2;exact cZ h2
   |cons a l=>
    rw[e]at h2;cases h2;have sp:=bB e;refine xE (W.tail sp (W.l2 k hf).1) fun t ht=>?_;exact(W.cut (o:=l) (l:=B.ah.erase (some k)) (t:=t) (eM sp) ht (OJ)).err (by dsimp only;split<;>simp)
  ·exact W.err (by simp)
 ·refine ar (W.bot) fun t ht _=>?_;exact(W.cut (o:=B.aj) (l:=B.ah.erase (some k)) (t:=t) (NW _) ht (OJ)).err (by simp)
theorem Ok.aU(W:Ok B (b+1)){x:Str}(h1:x≠q "html")(h2:x≠q "body"):Ok (aU x B) b:=by
 unfold Hx.aU;cases eo:B.aj with
 |nil=>exact absurd eo W.ne
 |cons a l=>
  dsimp only;split
  ·rename_i hh;obtain⟨t,ht⟩:=W.tail (pre:=[]) (by refine aa eo ?_;rfl) (W.named (by refine aa eo ?_;exact .head _) hh.1 h1 h2);exact(W.cut (o:=l) (l:=B.ah) (t:=t) (by refine aa eo ?_;exact List.sublist_cons_self _ _) ht (NW _)).le (Oe b)
  ·unfold ie;cases hx:jd B.X.nm x B.ah with
   |none=>exact W.eG h1 h2
   |some k=>exact W.eA (hG hx).1
theorem Ok.push(W:Ok B (b+1)){n:Nat}(hn:n<B.X.n)(h2:2<n)(hs:cO (B.X.nm n)=false)(hnew:some n∉B.ah){l:List (Option Nat)}(hl:l.Sublist B.ah):Ok {B with ah:=some n::l} b:=by
 refine ar (W.bot) fun t ht _=>?_;have W1:=W.cut (o:=B.aj) (l:=l) (t:=t) (NW _) ht hl;refine{W1.le (Oe b)with lN:=?_,hl:=?_,ln:=?_,l2:=?_}
 ·have:=W1.lN;show(some n::l).length+b<_;simp only[Od];have:l.length+(b+1)<999900:=this;exact Dc this
 ·intro a ha;rcases Nv.mp ha with x|x
  ·revert x;refine aJ fun x=>?_;subst x;exact hn
  ·exact W1.hl a x
 ·refine OC.mpr ⟨fun a ha e=>?_,W1.ln⟩;subst e;exact absurd (hl.subset ha) hnew
 ·intro a ha;rcases Nv.mp ha with x|x
  ·revert x;refine aJ fun x=>?_;subst x;exact⟨h2,hs⟩
  ·exact W1.l2 a x
theorem Ok.mark(W:Ok B (b+1)):Ok {B with ah:=.none::B.ah} b:=by
 refine{W.le (Oe b)with lN:=?_,hl:=?_,ln:=?_,l2:=?_}
 ·have:=W.lN;show(none::B.ah).length+b<_;simp only[Od];exact Dc this
 ·intro a ha;rcases Nv.mp ha with x|x
  ·cases x
  ·exact W.hl a x
 ·exact OC.mpr ⟨fun a ha e=>rfl,W.ln⟩
 ·intro a ha;rcases Nv.mp ha with x|x
  ·cases x
  ·exact W.l2 a x
theorem Ok.free(W:Ok B b){f:Bool}:Ok {B with free:=f} b:={W with}
end
def bj(B:Bs):Bs:=match jd B.X.nm (q "a") B.ah with
 |.none=>B
 |some k=>{aU (q "a") {B with aq:=B.aq++[q "unexpected-start-tag"]}with
  ah:=(aU (q "a") {B with aq:=B.aq++[q "unexpected-start-tag"]}).ah.erase (some k),
  aj:=(aU (q "a") {B with aq:=B.aq++[q "unexpected-start-tag"]}).aj.erase k}
section
variable{B:Bs}{M:Ms}{J:Jk}{b:Nat}
theorem HE{k:Nat}:(eA k B).X=B.X:=by
 unfold eA;split
 ·split<;>rfl
 ·rfl
theorem Gz{x:Str}:(eG x B).X=B.X:=by
 unfold eG;split
 ·rfl
 ·split<;>rfl
theorem kZ{x:Str}:(aU x B).X=B.X:=by
 unfold aU;split
 ·rfl
 ·split
  ·rfl
  ·unfold ie;split
   ·exact Gz
   ·exact HE
theorem Gq(F:dn B)(U:gx B.X)(hk:∀k∈B.aj,k<B.X.n) (nd:B.aj.Nodup) {k:Nat} (h:k∈B.aj) {ρ:Type} (K:Ku ρ):
 eE (B.X.id k:Int) (ag B M J) K=K () (ag {B with aj:=B.aj.erase k} M J):=by
 refine sk (List.append_of_mem h) fun pre l e=>?_;have nd2:=nd;rw[e]at nd2;refine gS (Oh.mp nd2) fun _ n2 n3=>?_
 have:B.aj.erase k=pre++l:=by
  refine aa e (aa (List.erase_append_right _ (fun hh=>n3 k hh k (.head _) rfl)) ?_);rw[List.erase_cons_head]
 refine aa this ?_;exact yI e (NZ.mp n2).1 F U hk K
theorem Ok.GW(W:Ok B b){k:Nat}(h2:2<k):Ok {B with aj:=B.aj.erase k} b:=by
 by_cases h:k∈B.aj
 ·refine ar (W.bot) fun t e ht=>?_
  have kt:k∈t:=by
   rw[e]at h;rcases Nw.mp h with x|x
   ·exact x
   ·rcases Nv.mp x with x|x
    ·exact(OZ 0 (LA [_,_] (.k 1) (.k 0) (.a (Sx V0) V1) (.a V1 V0) rfl (Nq h2 (Ny x)))).elim
    ·have:=NX.mp x;exact(OZ 0 (LA [_,_] (.k 1) (.k 0) (.a (Sx V0) V1) (.a V1 (.k 0)) rfl (Nq h2 (Ny this)))).elim
  exact W.cut (o:=B.aj.erase k) (l:=B.ah) (t:=t.erase k) OJ (by exact aa e (aa (List.erase_append_left _ kt) rfl)) (NW _)
 ·refine aa (O_ h) ?_;exact W
theorem Ok.Bi(W:Ok B b){k:Nat}:Ok {B with ah:=B.ah.erase (some k)} b:=by
 refine ar (W.bot) fun t e ht=>?_;exact W.cut (o:=B.aj) (l:=B.ah.erase (some k)) (t:=t) (NW _) e OJ
theorem Lh:q "a"≠q "html":=by decide+kernel
theorem Li:q "a"≠q "body":=by decide+kernel
theorem Ok.bj(W:Ok B (b+2)):Ok (bj B) b:=by
 unfold Hx.bj;cases e:jd B.X.nm (q "a") B.ah with
 |none=>exact W.le (LB)
 |some k=>
  have W1:Ok {B with aq:=B.aq++[q "unexpected-start-tag"]} (b+1):=W.err (by simp);exact((W1.aU Lh Li).Bi (k:=k)).GW (W.l2 k (hG e).1).1
theorem yE(W:Ok B (b+2)){ρ:Type}(K:Ku ρ):jg (ag B M J) K=K () (ag (bj B) M J):=by
 unfold bj;refine(tY W.F W.U.togx W.hl _).trans ?_;cases e:jd B.X.nm (q "a") B.ah with
 |none=>exact cT (dT rfl) rfl
 |some k=>
  have kn:=W.hl k (hG e).1;have W1:Ok {B with aq:=B.aq++[q "unexpected-start-tag"]} (b+1):=W.err (by simp);have W2:=W1.aU Lh Li;have hX:(aU (q "a") {B with aq:=B.aq++[q "unexpected-start-tag"]}).X=B.X:=kZ;refine cF (dF (by show¬((B.X.id k:Int)=-1);exact sr)) (fT (cH W.F) ?_);refine(congrArg (fun s=>ed (q "a") s _) cE).trans ((nR W1.wf _).trans ?_);generalize hB:aU (q "a") {B with aq:=B.aq++[q "unexpected-start-tag"]}=B1 at*;rw[←hX]at kn⊢;refine bd (kD W2.U.togx W2.hl kn) ?_
  have rest:∀{L:List (Option Nat)},Ok {B1 with ah:=L} b→((bg (AV.int (B1.X.id k:Int)) (ag {B1 with ah:=L} M J).stk).bind fun(x7:Bool)=>bif x7 then eE (B1.X.id k:Int) (ag {B1 with ah:=L} M J) fun(x8:Unit)(s9:St)=>K () s9 else K () (ag {B1 with ah:=L} M J))=K () (ag {B1 with ah:=L,aj:=B1.aj.erase k} M J):=fun{L}W3=>by
   refine bd (hV (B:={B1 with ah:=L}) W3.U.togx W3.hk kn) ?_;by_cases h:k∈B1.aj
   ·exact cT (dT h) (Gq (B:={B1 with ah:=L}) W3.F W3.U.togx W3.hk W3.nd h _)
   ·refine cF (dF h) ?_;exact aa (O_ h) rfl
  by_cases h:some k∈B1.ah
  ·refine cT (dT h) ((tZ W2.F W2.U.togx W2.hl W2.ln kn _).trans ?_);exact rest (W2.Bi (k:=k))
  ·refine cF (dF h) ?_;dsimp only;refine aa (O_ h) ?_;exact rest (L:=B1.ah) W2
end
noncomputable def d8(X:Tr)(x:Str)(k:Nat):Bool:=decide (x=X.nm k)||false
def fZ(B:Bs)(x:Str):Bool:=match B.aj.dropWhile (fun k=>!d8 B.X x k&&!cO (B.X.nm k))with
 |[]=>false
 |k::_=>d8 B.X x k
section
variable{B:Bs}{M:Ms}{J:Jk}{b:Nat}
theorem CI:cO (q "html")=true:=by decide+kernel
theorem Ok.Ga(W:Ok B b){p:Nat→Bool}:∃k l,B.aj.dropWhile (fun k=>!p k&&!cO (B.X.nm k))=k::l:=by
 cases h:B.aj.dropWhile (fun k=>!p k&&!cO (B.X.nm k))with
 |cons a l=>exact⟨a,l,rfl⟩
 |nil=>
  refine ar (W.bot) fun t e _=>?_
  have all:∀{l:List Nat},l.dropWhile (fun k=>!p k&&!cO (B.X.nm k))=[]→∀a∈l,(!p a&&!cO (B.X.nm a))=true:=by
   intro l
   induction l with
   |nil=>intro _ a ha;cases ha
   |cons b l ih=>
    intro h a ha;rw[N2]at h;split at h
    ·rcases Nv.mp ha with rfl|ha
     ·assumption
     ·exact ih h a ha
    ·cases h
  have:=all h 0 (by refine aa e ?_;simp);rw[W.Hf,CI]at this;simp at this
theorem Gn(W:Ok B b){x:Str}{ρ:Type}(K:Kb ρ):dz [AV.str x] (q "") (ag B M J) K=K (fZ B x) (ag B M J):=by
 refine sk (W.Ga (p:=d8 B.X x)) fun k l h=>?_;refine(yH (pn:=d8 B.X x) (fun k _=>rfl) h W.F W.U.togx W.hk K).trans ?_;unfold fZ;exact aa h rfl
theorem u2{x:Str}{l:List cj}(W:Ok B b):(aI x l B).X.n=B.X.n+1∧(aI x l B).X.id B.X.n=B.X.N∧(aI x l B).X.nm B.X.n=x:=by
 refine ar (iA (x:=x) (l:=l) W.ne) fun p hX hO=>?_;refine aa hX ?_;exact⟨rfl,az,az⟩
def fc(x:Str)(l:List cj)(B:Bs):Bs:={aI x l (aP B)with ah:=.none::(aI x l (aP B)).ah,free:=false}
theorem rT:∀(ks done:List (Option Nat))(B:Bs),B.ah=ks.reverse++done→(fN done ks B).ah.length=B.ah.length
 |[]=>fun done B h=>rfl
 |.none::ks=>fun done B h=>rfl
 |some k::ks=>fun done B h=>by
  refine(rT ks (some B.X.n::done) {aI (B.X.nm k) (B.X.bc k) B with ah:=ks.reverse++some B.X.n::done} rfl).trans ?_;refine aa h ?_;simp
theorem fO:(aP B).ah.length=B.ah.length:=rT _ _ B (by rw[Oq];exact aa NB rfl)
theorem Ok.fc(W:Ok B (b+2+B.ah.length)){x:Str}{l:List cj}(hx:x≠q "template")(hs:cO x=false→i7 x=false)(hl:l∈bX):Ok (fc x l B) b:=
 ((W.aP.new hx hs hl).mark (b:=b)).free
theorem q7(W:Ok B (b+2+B.ah.length)){x:Str}{l:List cj}{sl:Bool}(hx:x≠q "template")(hs:cO x=false→i7 x=false)(hl:l∈bX):∃r,∀{ρ:Type}(K:Ku ρ),eY x (l.map cy) sl (ag B M J) K=K () (ag (fc x l B) M (jr J r)):=by
 refine xE (iM (M:=M) (J:=J) W) fun r hr=>?_;have W1:Ok (aP B) (b+2):=W.aP;refine xE (vu (M:=M) (J:=jr J r) (x:=x) (l:=l) W1 hx hl) fun c hc=>?_;have W2:Ok (aI x l (aP B)) (b+1):=W1.new hx hs hl;refine⟨r++[.list (c.map .int)],fun K=>(hr _).trans ((hc _).trans (fT (eu W2.F) ?_))⟩;refine congrArg (K ()) ?_;have:=lg (B:=aI x l (aP B)) (M:=M) (J:=w7 (jr J r) c) (l:=.none::(aI x l (aP B)).ah) (f:=(ag (aI x l (aP B)) M (w7 (jr J r) c)).fmt++[AV.int (-1)]) (by refine aa cC (aa NN (aa Nu ?_));rfl);exact aa this rfl
end
def gp(x:Str)(l:List cj)(B:Bs):Bs:={aI x l B with ah:=gh (mI (aI x l B).X.nm (aI x l B).X.bc B.X.n) B.X.n (aI x l B).ah}
def jF(B:Bs):Bs:=aP (aU (q "nobr") {B with aq:=B.aq++[q "unexpected-start-tag"]})
def dX(x:Str)(l:List cj)(B:Bs):Bs:=
 gp x l (if x=q "nobr"∧fZ (aP (if x=q "a"then bj B else B)) (q "nobr")=true then jF (aP (if x=q "a"then bj B else B))else aP (if x=q "a"then bj B else B))
theorem ni{al:Option Nat→Bool}{n:Nat}{l:List (Option Nat)}:∃l',gh al n l=some n::l'∧l'.Sublist l:=by
 refine⟨_,rfl,?_⟩;split
 ·split
  ·exact NW _
  ·have:=List.eraseIdx_sublist l.reverse ‹Nat›;have:=this.reverse
   rwa [Oq]at this
 ·exact NW _
section
variable{B:Bs}{M:Ms}{J:Jk}{b:Nat}
theorem Fd{k:Nat}:(eA k B).ah.length≤B.ah.length:=by
 unfold eA;split
 ·split
  ·exact OJ.length_le
  ·exact NQ _
 ·exact OJ.length_le
theorem q9{x:Str}:(eG x B).ah=B.ah:=by
 unfold eG;split
 ·rfl
 ·split<;>rfl
theorem dA{x:Str}:(aU x B).ah.length≤B.ah.length:=by
 unfold aU;split
 ·exact NQ _
 ·split
  ·exact NQ _
  ·unfold ie;split
   ·refine aa q9 ?_;exact NQ _
   ·exact Fd
theorem gE:(bj B).ah.length≤B.ah.length:=by
 unfold bj;split
 ·exact NQ _
 ·exact N1 OJ.length_le (dA (B:={B with aq:=B.aq++[q "unexpected-start-tag"]}))
theorem Ok.gp(W:Ok B (b+2)){x:Str}{l:List cj}(hx:x≠q "template")(h1:cO x=false)(h2:i7 x=false)(hl:l∈bX):Ok (gp x l B) b:=by
 have W1:Ok (aI x l B) (b+1):=W.new hx (fun _=>h2) hl;refine gS (u2 (x:=x) (l:=l) W) fun n1 n2 n3=>?_;unfold Hx.gp;refine ar (ni (al:=mI (aI x l B).X.nm (aI x l B).X.bc B.X.n) (n:=B.X.n) (l:=(aI x l B).ah)) fun l' e hs=>?_;refine aa e ?_;refine W1.push (Mn n1) W.n2 (by refine aa n3 ?_;exact h1) ?_ hs;refine aa bQ ?_;intro h;exact absurd (W.hl _ h) (Oc _)
theorem t_(W:Ok B (b+2)){x:Str}{l:List cj}(hx:x≠q "template")(h2:i7 x=false)(hl:l∈bX):∃c:List Int,∀{ρ:Type}(K:Ku ρ),
 (bE x (l.map cy) (q "html") (ag B M J) fun(x10:Int)(s11:St)=>dI x10 s11 fun(x12:Unit)(s13:St)=>K () s13)=K () (ag (gp x l B) M (w7 J c)):=by
 have W1:Ok (aI x l B) (b+1):=W.new hx (fun _=>h2) hl;refine gS (u2 (x:=x) (l:=l) W) fun n1 n2 n3=>?_;refine xE (vu (M:=M) (J:=J) (x:=x) (l:=l) W hx hl) fun c hc=>?_;refine⟨c,fun K=>(hc _).trans ?_⟩;have:=DF (M:=M) (J:=w7 J c) W1 (n:=B.X.n) (Mn n1) K;rw[n2]at this;exact this
theorem Ko:q "nobr"≠q "html":=by decide+kernel
theorem Kp:q "nobr"≠q "body":=by decide+kernel
theorem Ok.jF(W:Ok B (b+2+B.ah.length)):Ok (jF B) b:=by
 have W1:Ok {B with aq:=B.aq++[q "unexpected-start-tag"]} (b+1+B.ah.length):=(show Ok B (b+1+B.ah.length+1) by refine aa (show b+1+B.ah.length+1=b+2+B.ah.length by exact Ot (_+1) _ 1) ?_;exact W).err (by simp);exact(((show Ok _ (b+B.ah.length+1) by refine aa (show b+B.ah.length+1=b+1+B.ah.length by exact Ot _ _ 1) ?_;exact W1).aU Ko Kp).le (by have:=dA (B:={B with aq:=B.aq++[q "unexpected-start-tag"]}) (x:=q "nobr");dsimp only at this;exact vj this)).aP
theorem Ir(W:Ok B (b+2+B.ah.length)):∃r,∀{ρ:Type}(K:Ku ρ),(if(ag B M J).aq.length<ab then ed (q "nobr") ((ag B M J).b_ ((ag B M J).aq++[AV.tup [AV.str (q "unexpected-start-tag"),AV.str (q "in body")]])) fun(x6:Unit)(s7:St)=>dJ s7 fun(x8:Unit)(s9:St)=>K () s9 else none)=K () (ag (jF B) M (jr J r)):=by
 have W1:Ok {B with aq:=B.aq++[q "unexpected-start-tag"]} (b+1+B.ah.length):=(show Ok B (b+1+B.ah.length+1) by refine aa (show b+1+B.ah.length+1=b+2+B.ah.length by exact Ot (_+1) _ 1) ?_;exact W).err (by simp);obtain⟨r,hr⟩:=iM (M:=M) (J:=J) (b:=b) (((show Ok _ (b+B.ah.length+1) by refine aa (show b+B.ah.length+1=b+1+B.ah.length by exact Ot _ _ 1) ?_;exact W1).aU Ko Kp).le (by have:=dA (B:={B with aq:=B.aq++[q "unexpected-start-tag"]}) (x:=q "nobr");dsimp only at this;exact vj this));refine⟨r,fun K=>fT (cH W.F) ?_⟩;refine aa cE ?_;exact(nR W1.wf _).trans (hr _)
end
section
variable{B:Bs}{M:Ms}{J:Jk}{b:Nat}
def lz(x:Str)(l:List cj)(B:Bs):Bs:=gp x l (if x=q "nobr"∧fZ B (q "nobr")=true then jF B else B)
theorem hF{x:Str}{l:List cj}:dX x l B=lz x l (aP (if x=q "a"then bj B else B)):=rfl
theorem Ok.lz(W:Ok B (b+4+B.ah.length)){x:Str}{l:List cj}(hx:x≠q "template")(h1:cO x=false)(h2:i7 x=false)(hl:l∈bX):Ok (lz x l B) b:=by
 unfold Hx.lz;split
 ·exact Ok.gp (Ok.jF (b:=b+2) (by refine aa (show b+2+2+B.ah.length=b+4+B.ah.length by exact rfl) ?_;exact W)) hx h1 h2 hl
 ·exact Ok.gp (W.le (Mo)) hx h1 h2 hl
theorem An(W:Ok B (b+4+B.ah.length)){x:Str}{l:List cj}(hx:x≠q "template")(h1:cO x=false)(h2:i7 x=false)(hl:l∈bX):∃r,∀{ρ:Type}(K:Ku ρ),
 (bif decide (x=q "nobr")then dz [AV.str (q "nobr")] (q "") (ag B M J) fun(x4:Bool)(s5:St)=>bif x4 then if s5.aq.length<ab then ed (q "nobr") (s5.b_ (s5.aq++[AV.tup [AV.str (q "unexpected-start-tag"),AV.str (q "in body")]])) fun(x6:Unit)(s7:St)=>dJ s7 fun(x8:Unit)(s9:St)=>bE x (l.map cy) (q "html") s9 fun(x10:Int)(s11:St)=>dI x10 s11 fun(x12:Unit)(s13:St)=>K () s13 else none else bE x (l.map cy) (q "html") s5 fun(x14:Int)(s15:St)=>dI x14 s15 fun(x16:Unit)(s17:St)=>K () s17 else bE x (l.map cy) (q "html") (ag B M J) fun(x18:Int)(s19:St)=>dI x18 s19 fun(x20:Unit)(s21:St)=>K () s21)=K () (ag (lz x l B) M (jr J r)):=by
 unfold lz;have W2:Ok B (b+2):=W.le (Mo);by_cases hn:x=q "nobr"
 ·by_cases hs:fZ B (q "nobr")=true
  ·refine aa (if_pos ⟨hn,hs⟩) ?_;have W3:Ok B (b+2+2+B.ah.length):=by refine aa (show b+2+2+B.ah.length=b+4+B.ah.length by exact rfl) ?_;exact W
   refine xE (Ir (M:=M) (J:=J) W3) fun r hr=>?_;refine xE (t_ (M:=M) (J:=jr J r) (x:=x) (l:=l) W3.jF hx h2 hl) fun c hc=>?_;exact⟨r++[AO.list (c.map AV.int)],fun K=>cT (dT hn) ((Gn W _).trans (cT hs ((hr fun _ s=>bE x (l.map cy) (q "html") s fun(x10:Int)(s11:St)=>dI x10 s11 fun(x12:Unit)(s13:St)=>K () s13).trans (hc K))))⟩
  ·refine aa (if_neg (fun h=>hs h.2)) ?_;refine xE (t_ (M:=M) (J:=J) (x:=x) (l:=l) W2 hx h2 hl) fun c hc=>?_;exact⟨J.r7++[AO.list (c.map AV.int)],fun K=>cT (dT hn) ((Gn W _).trans (cF (by simpa using hs) (hc K)))⟩
 ·refine aa (if_neg (fun h=>hn h.1)) ?_;refine xE (t_ (M:=M) (J:=J) (x:=x) (l:=l) W2 hx h2 hl) fun c hc=>?_;exact⟨J.r7++[AO.list (c.map AV.int)],fun K=>cF (dF hn) (hc K)⟩
theorem oD(W:Ok B (b+6+2*B.ah.length)){x:Str}:Ok (aP (if x=q "a"then bj B else B)) (b+4+(aP (if x=q "a"then bj B else B)).ah.length):=by
 refine aa fO ?_;split
 ·have:=gE (B:=B);have W1:Ok (bj B) (b+4+2*B.ah.length):=(show Ok B (b+4+2*B.ah.length+2) by refine aa (show b+4+2*B.ah.length+2=b+6+2*B.ah.length by exact Ot (_+4) _ 2) ?_;exact W).bj;exact(W1.le ((LA [_,_,_] (.a (.a V0 V1) V1) (.a V0 (.m 2 V2)) (.a V1 V1) (.a V2 V2) rfl (Nq this this)))).aP
 ·exact(W.le (by exact(LE [_,_] (.a (.a (.a V0 (.k 4)) V1) V1) (.a (.a V0 (.k 6)) (.m 2 V1)) rfl))).aP
theorem Ok.dX(W:Ok B (b+6+2*B.ah.length)){x:Str}{l:List cj}(hx:x≠q "template")(h1:cO x=false)(h2:i7 x=false)(hl:l∈bX):Ok (dX x l B) b:=by
 exact(oD W).lz hx h1 h2 hl
theorem ud(W:Ok B (b+6+2*B.ah.length)){x:Str}{l:List cj}{sl:Bool}(hx:x≠q "template")(h1:cO x=false)(h2:i7 x=false)(hl:l∈bX):∃r,∀{ρ:Type}(K:Ku ρ),fV x (l.map cy) sl (ag B M J) K=K () (ag (dX x l B) M (jr J r)):=by
 refine aa hF ?_;have W4:=oD W (x:=x);by_cases ha:x=q "a"
 ·rw[if_pos ha]at W4⊢;have:=gE (B:=B);have Wb:Ok B (b+4+2*B.ah.length+2):=by refine aa (show b+4+2*B.ah.length+2=b+6+2*B.ah.length by exact Ot (_+4) _ 2) ?_;exact W
  have W1:Ok (bj B) (b+4+2*B.ah.length):=Wb.bj;refine xE (iM (M:=M) (J:=J) (B:=bj B) (b:=b) (W1.le ((LA [_,_,_,_] (.a V0 V1) (.a (.a V0 V2) (.m 2 V3)) V1 V3 rfl this)))) fun r hr=>?_;refine xE (An (M:=M) (J:=jr J r) W4 hx h1 h2 hl) fun r2 h3=>?_;exact⟨r2,fun K=>cT (dT ha) ((yE Wb _).trans ((hr _).trans (h3 K)))⟩
 ·rw[if_neg ha]at W4⊢;refine xE (iM (M:=M) (J:=J) (B:=B) (b:=b) (W.le ((LE [_,_,_] (.a V0 V1) (.a (.a V0 V2) (.m 2 V1)) rfl)))) fun r hr=>?_;refine xE (An (M:=M) (J:=jr J r) W4 hx h1 h2 hl) fun r2 h3=>?_;exact⟨r2,fun K=>cF (dF ha) ((hr _).trans (h3 K))⟩
end
def Eg(x:Str)(B:Bs):List Nat:=((B.aj.dropWhile (fh B.X (q ""))).dropWhile (fun a=>!d8 B.X x a)).tail
def cG(x:Str)(B:Bs):Bs:=
 if fZ B x then{B with
  aq:=if(B.aj.dropWhile (fh B.X (q ""))).head?.any (fun a=>decide (B.X.nm a=x))then B.aq else B.aq++[q "open-elements"]
  aj:=Eg x B
  ah:=(B.ah.dropWhile Option.isSome).tail}
 else{B with aq:=B.aq++[q "unexpected-end-tag"]}
theorem uY{α:Type}{p:α→Bool}{a:α}(hp:p a=false):∀{l:List α},a∈l→a∈l.dropWhile p
 |b::l,h=>by
  refine aa N2 ?_;split
  ·rcases Nv.mp h with rfl|h
   ·rename_i hb;rw[hp]at hb;exact gz hb
   ·exact uY hp h
  ·exact h
theorem vI{α:Type}{p:α→Bool}{a:α}{l:List α}(hp:p a=false)(h:a∈l):∃b r,l.dropWhile p=b::r:=by
 have:=uY hp h;cases e:l.dropWhile p with
 |nil=>rw[e]at this;cases this
 |cons b r=>exact⟨b,r,rfl⟩
section
variable{B:Bs}{M:Ms}{J:Jk}{b:Nat}
theorem rG{x:Str}(h:fZ B x=true):∃a∈B.aj,B.X.nm a=x:=by
 unfold fZ at h;cases e:B.aj.dropWhile (fun k=>!d8 B.X x k&&!cO (B.X.nm k))with
 |nil=>rw[e]at h;exact gz h
 |cons a l=>
  rw[e]at h;have h:d8 B.X x a=true:=h;refine⟨a,by refine aa (bB e) ?_;simp,?_⟩;unfold d8 at h;simpa using Eq.symm (by simpa using h)
theorem yF(W:Ok B (b+1)){x:Str}(hi:impl x=false)(hm:fZ B x=true→.none∈B.ah){ρ:Type}(K:Ku ρ):gU x (ag B M J) K=K () (ag (cG x B) M J):=by
 refine(Gn W _).trans ?_;unfold cG;cases hs:fZ B x with
 |false=>
  refine cT rfl (fT (cH W.F) ?_);exact aa cE rfl
 |true=>
  refine ar (rG hs) fun a am an=>?_;have pa:fh B.X (q "") a=false:=by unfold fh;refine aa an (aa hi ?_);rfl
  refine sk (vI pa am) fun k r e1=>?_;have am2:a∈k::r:=by refine bR e1 ?_;exact uY pa am
  have pn:(fun a=>!d8 B.X x a) a=false:=by
   show(!d8 B.X x a)=false;unfold d8;exact aa (dT an.symm) rfl
  refine sk (vI (p:=fun a=>!d8 B.X x a) pn am2) fun c s e2=>?_;refine cF rfl ((kW e1 W.F W.U.togx W.hk _).trans ?_);have sub:(k::r).Sublist B.aj:=by refine bR e1 ?_;exact OD _
  have F2:dn {B with aj:=k::r}:=W.F.sub sub.length_le;have hk2:∀a∈k::r,a<B.X.n:=fun a h=>W.hk a (sub.subset h)
  obtain⟨pre,l,el,hp⟩:∃pre l,B.ah=pre++.none::l∧B.ah.dropWhile Option.isSome=.none::l:=by
   refine sk (vI (p:=Option.isSome) (a:=(none:Option Nat)) rfl (hm hs)) fun o l e=>?_;have:=et e;cases o with
   |some z=>first|exact ns this|cases this
   |none=>exact⟨_,l,bB e,e⟩
  have hpre:∀o∈B.ah.takeWhile Option.isSome,o≠none:=fun o ho e=>by have:=b8 ho;subst e;exact gz this
  have eo:Eg x B=s:=by unfold Eg;refine aa e1 (aa e2 ?_);rfl
  refine(eZ (B:={B with aj:=k::r}) rfl F2 W.U.togx (hk2 k (.head _)) _).trans ?_;refine aa eo (aa hp (aa e1 ?_));by_cases hx:B.X.nm k=x
  ·refine cF (nF (dT hx)) ((kX (B:={B with aj:=k::r}) (pn:=d8 B.X x) (fun k _=>rfl) e2 F2 W.U.togx hk2 _).trans ?_);refine(vr (B:={B with aj:=s}) (bB hp) hpre (W.F.sub ?_) _).trans ?_
   ·have h1:=sub.length_le;have h2:=(OD (fun a=>!d8 B.X x a) (l:=k::r)).length_le;rw[e2]at h2;simp at h1 h2;exact(LA [_,_,_] V0 V1 (.a V0 (Sx V2)) (.a V2 V1) rfl (Nq h2 h1))
   ·refine aa (if_pos rfl) (aa (if_pos (by simp[hx])) ?_);rfl
  ·refine cT (nT (dF hx)) (fT (cH F2) ?_);refine aa cE ?_;have F3:dn {B with aj:=k::r,aq:=B.aq++[q "open-elements"]}:=⟨F2.N,F2.aj,F2.ah,by have:=W.eN;show(B.aq++_).length<_;simp;exact Dd this⟩;refine(kX (B:={B with aj:=k::r,aq:=B.aq++[q "open-elements"]}) (pn:=d8 B.X x) (fun k _=>rfl) e2 F3 W.U.togx hk2 _).trans ?_;refine(vr (B:={B with aj:=s,aq:=B.aq++[q "open-elements"]}) (bB hp) hpre ⟨F3.N,?_,F3.ah,F3.aq⟩ _).trans ?_
   ·have h1:=sub.length_le;have h2:=(OD (fun a=>!d8 B.X x a) (l:=k::r)).length_le;rw[e2]at h2;simp at h1 h2;have:=W.F.aj;show s.length<_;exact(LA [_,_,_,_] (Sx V0) V1 (.a (.a V0 (Sx V2)) (Sx V3)) (.a (.a V2 V3) V1) rfl (Nq (Nq h2 h1) this))
   ·refine aa (if_pos rfl) (aa (if_neg (by simp[hx])) ?_);rfl
end
section
variable{B:Bs}{M:Ms}{J:Jk}{b:Nat}
theorem jo(W:Ok B b){ρ:Type}(K:Kb ρ):fq (ag B M J) K=K false (ag B M J):=by
 cases eo:B.aj with
 |nil=>exact absurd eo W.ne
 |cons k l=>
  have t:=top (M:=M) (J:=J) eo W.F
  have go:(if(ag B M J).stk.length<ab then bif decide (((ag B M J).stk.length:Int)=0)then K false (ag B M J)else if(ag B M J).stk.length<ab then(ai (ag B M J).stk (AV.int (((ag B M J).stk.length:Int)-1))).bind fun(x333:AV)=>x333.i?.bind fun(x334:Int)=>bif !decide (x334=-1)then(ai (ag B M J).spaces (AV.int x334)).bind fun(x335:AV)=>x335.s?.bind fun(x336:Str)=>K (!decide (x336=q "html")) (ag B M J)else K (!decide (x334=-1)) (ag B M J)else none else none)=K false (ag B M J):=
   fT t.c1 (cF t.c2 (fT t.c1 (bd t.it (bd rfl (cT (nT (el (M:=M) (J:=J) W.F W.U.togx (W.hk k (by refine aa eo ?_;exact .head _))).pos) (bd (el (M:=M) (J:=J) W.F W.U.togx (W.hk k (by refine aa eo ?_;exact .head _))).sp (bd rfl (congrArg (K · _) (nF (dT rfl))))))))))
  refine fT t.c1 ?_;cases h:decide (((ag B M J).stk.length:Int)=1)with
  |true=>exact cT rfl go
  |false=>exact cF rfl go
theorem vx(W:Ok B b){c:Str}{ρ:Type}(K:Kb ρ):nL c (ag B M J) K=K true (ag B M J):=(jo W _).trans (cT rfl rfl)
theorem nU(W:Ok B b){c:Str}{ρ:Type}(K:Kb ρ):nM c (ag B M J) K=K true (ag B M J):=(jo W _).trans (cT rfl rfl)
theorem nV(W:Ok B b){c:Str}{l:List AV}{s:Bool}{ρ:Type}(K:Kb ρ):nO c l s (ag B M J) K=K true (ag B M J):=(jo W _).trans (cT rfl rfl)
def eQ:List Str:=[q "a",q "b",q "big",q "code",q "em",q "font",q "i",q "s",q "small",q "strike",q "strong",q "tt",q "u",q "nobr"]
def cq:List Str:=[q "applet",q "object",q "marquee"]
def bZ:List Str:=[q "table",q "rt",q "rp",q "rb",q "rtc",q "optgroup",q "option"]
end
theorem EM:∀x∈eQ,∀{ρ:Type}(l:List AV)(sl:Bool)(s:St)(K:Ku ρ),qK x l sl s K=fV x l sl s fun _ s=>K () s:=by
 intro x hx ρ l sl s K;simp only[eQ,Nv,OK,or_false]at hx;rcases hx with rfl|rfl|rfl|rfl|rfl|rfl|rfl|rfl|rfl|rfl|rfl|rfl|rfl|rfl<;>kernel_rfl
theorem BK:∀x∈cq,∀{ρ:Type}(l:List AV)(sl:Bool)(s:St)(K:Ku ρ),qK x l sl s K=eY x l sl s fun _ s=>K () s:=by
 intro x hx ρ l sl s K;simp only[cq,Nv,OK,or_false]at hx;rcases hx with rfl|rfl|rfl<;>kernel_rfl
theorem zk:∀x∈bZ,∀{ρ:Type}(l:List AV)(sl:Bool)(s:St)(K:Ku ρ),qK x l sl s K=bE x l (q "html") s fun _ s=>K () s:=by
 intro x hx ρ l sl s K;simp only[bZ,Nv,OK,or_false]at hx;rcases hx with rfl|rfl|rfl|rfl|rfl|rfl|rfl<;>kernel_rfl
theorem EL:∀x∈eQ,∀{ρ:Type}(s:St)(K:Ku ρ),qJ x s K=ed x s fun _ s=>K () s:=by
 intro x hx ρ s K;simp only[eQ,Nv,OK,or_false]at hx;rcases hx with rfl|rfl|rfl|rfl|rfl|rfl|rfl|rfl|rfl|rfl|rfl|rfl|rfl|rfl<;>kernel_rfl
theorem BJ:∀x∈cq,∀{ρ:Type}(s:St)(K:Ku ρ),qJ x s K=gU x s fun _ s=>K () s:=by
 intro x hx ρ s K;simp only[cq,Nv,OK,or_false]at hx;rcases hx with rfl|rfl|rfl<;>kernel_rfl
theorem zj:∀x∈bZ,∀{ρ:Type}(s:St)(K:Ku ρ),qJ x s K=dU x s fun _ s=>K () s:=by
 intro x hx ρ s K;simp only[bZ,Nv,OK,or_false]at hx;rcases hx with rfl|rfl|rfl|rfl|rfl|rfl|rfl<;>kernel_rfl
theorem fY:∀x∈eQ,x≠q "template"∧cO x=false∧i7 x=false∧x≠q "html"∧x≠q "body":=by decide+kernel
theorem iY:∀x∈cq,x≠q "template"∧cO x=true∧impl x=false:=by decide+kernel
theorem hS:∀x∈bZ,x≠q "template"∧(cO x=true∨i7 x=false)∧x≠q "html"∧x≠q "body":=by decide+kernel
def eL(sl:Bool)(B:Bs):Bs:=cond sl {B with aq:=B.aq++[q "non-void-html-element-start-tag-with-trailing-solidus"]} B
section
variable{B:Bs}{M:Ms}{J:Jk}{b:Nat}
theorem Ok.eL(W:Ok B (b+1)){sl:Bool}:Ok (eL sl B) b:=by
 cases sl with
 |true=>exact W.err (by simp)
 |false=>exact W.le (Oe b)
theorem Av(W:Ok B b){sl:Bool}{ρ:Type}(K:Ku ρ):(bif sl then if(ag B M J).aq.length<ab then K () ((ag B M J).b_ ((ag B M J).aq++[AV.tup [AV.str (q "non-void-html-element-start-tag-with-trailing-solidus"),AV.str (q "in body")]]))else none else K () (ag B M J))=K () (ag (eL sl B) M J):=by
 cases sl with
 |true=>refine cT rfl (fT (cH W.F) ?_);refine aa cE ?_;rfl
 |false=>rfl
theorem kT(W:Ok B (b+7+2*B.ah.length)){x:Str}(hx:x∈eQ){l:List cj}(hl:l∈bX){sl:Bool}:∃r,∀{ρ:Type}(K:Ku ρ),c6 x (l.map cy) sl (ag B M J) K=K () (ag (eL sl (dX x l B)) M (jr J r)):=by
 refine j9 (fY x hx) fun h1 h2 h3 _ _=>?_;have W0:Ok B (b+1+6+2*B.ah.length):=by refine aa (show b+1+6=b+7 by exact rfl) ?_;exact W
 refine xE (ud (M:=M) (J:=J) (sl:=sl) W0 h1 h2 h3 hl) fun r hr=>?_;exact⟨r,fun K=>(nV W _).trans (cT rfl ((EM x hx _ _ _ _).trans ((hr _).trans (Av (W0.dX h1 h2 h3 hl) _))))⟩
theorem Al(W:Ok B (b+3+B.ah.length)){x:Str}(hx:x∈cq){l:List cj}(hl:l∈bX){sl:Bool}:∃r,∀{ρ:Type}(K:Ku ρ),c6 x (l.map cy) sl (ag B M J) K=K () (ag (eL sl (fc x l B)) M (jr J r)):=by
 refine gS (iY x hx) fun h1 h2 h3=>?_;have W0:Ok B (b+1+2+B.ah.length):=by refine aa (show b+1+2=b+3 by exact rfl) ?_;exact W
 have hs:cO x=false→i7 x=false:=fun h=>by rw[h2]at h;cases h
 refine xE (q7 (M:=M) (J:=J) (sl:=sl) W0 h1 hs hl) fun r hr=>?_;exact⟨r,fun K=>(nV W _).trans (cT rfl ((BK x hx _ _ _ _).trans ((hr _).trans (Av (W0.fc h1 hs hl) _))))⟩
theorem wz{x:Str}(hx:x∈bZ):cO x=false→i7 x=false:=fun h=>by
 rcases(hS x hx).2.1 with y|y
 ·rw[y]at h;cases h
 ·exact y
theorem Am(W:Ok B (b+1)){x:Str}(hx:x∈bZ){l:List cj}(hl:l∈bX){sl:Bool}:∃r,∀{ρ:Type}(K:Ku ρ),c6 x (l.map cy) sl (ag B M J) K=K () (ag (eL sl (aI x l B)) M (jr J r)):=by
 refine ja (hS x hx) fun h1 _ _ _=>?_;refine xE (vu (M:=M) (J:=J) (x:=x) (l:=l) W h1 hl) fun c hc=>?_;exact⟨J.r7++[AO.list (c.map AV.int)],fun K=>(nV W _).trans (cT rfl ((zk x hx _ _ _ _).trans ((hc _).trans (Av (W.new h1 (wz hx) hl) _))))⟩
theorem Ai(W:Ok B b){x:Str}(hx:x∈eQ){ρ:Type}(K:Ku ρ):eW x (ag B M J) K=K () (ag (aU x B) M J):=
 (nU W _).trans (cT rfl ((EL x hx _ _).trans (nR W.wf _)))
theorem Aj(W:Ok B (b+1)){x:Str}(hx:x∈cq)(hm:fZ B x=true→.none∈B.ah){ρ:Type}(K:Ku ρ):eW x (ag B M J) K=K () (ag (cG x B) M J):=
 (nU W _).trans (cT rfl ((BJ x hx _ _).trans (yF W (iY x hx).2.2 hm _)))
theorem Ak(W:Ok B b){x:Str}(hx:x∈bZ){ρ:Type}(K:Ku ρ):eW x (ag B M J) K=K () (ag (eG x B) M J):=
 (nU W _).trans (cT rfl ((zj x hx _ _).trans (FH W.wf _)))
theorem DE(W:Ok B (b+2+B.ah.length)){c:Str}(hc:c.length=1):∃r,∀{ρ:Type}(K:Ku ρ),gV c (ag B M J) K=K () (ag (a9 c (aP B)) M (jr J r)):=by
 refine xE (iM (M:=M) (J:=J) W) fun r hr=>?_;have W1:Ok (aP B) (b+2):=W.aP;obtain⟨d,w,hd⟩:=Gp (M:=M) (J:=jr J r) (sg:=c) W1.F (Dd (W1.N)) W1.U W1.hk W1.ne (fun i h=>by have:=W1.kl i h;exact(LA [_,_,_] (Sx V0) (.k 1000000) (.a V0 (Sx (.a V1 V2))) (.a V1 (.k 999900)) rfl (Nq this (W1.N)))) W1.kc (fun i=>by have:=W1.tN i;exact(LA [_,_,_] (Sx (.a V0 V1)) (.k 1000000) (.a (Sx (.a V0 V2)) V1) (Sx (.k 999900)) rfl (Nq this (Ny hc))));cases w with
 |true=>exact⟨r++[AO.list (d.map AV.int)],fun K=>(vx W _).trans (cT rfl ((hr _).trans (hd _)))⟩
 |false=>exact⟨r,fun K=>(vx W _).trans (cT rfl ((hr _).trans (hd _)))⟩
end
section
variable{B:Bs}{M:Ms}{J:Jk}{b:Nat}
theorem Fc{a c:Str}:(a++c).length=a.length+c.length:=by
 show(a.cps++c.cps).size=_;exact aa Array.size_append rfl
theorem Ok.rM(W:Ok B (b+1)){k:Nat}(kn:k<B.X.n){sg:Str}(hs:sg.length=1):Ok {B with X:=(B.X.bq sg).link B.X.N (B.X.id k)} b:=by
 have idk:B.X.id k<B.X.N:=W.U.lt k kn;have W0:=W.le (Oe b);refine{W0 with U:=(W.U.bq sg).link idk (NT _),N:=by have:=W.N;show B.X.N+1+b<_;exact Dc this,oN:=O2 W.oN,tN:=?_,kl:=?_,kc:=?_}
 ·intro i;show(aN B.X.tx B.X.N sg i).length+b<_;by_cases e:i=B.X.N
  ·refine aa e ?_;refine aa az ?_;have:=W.N;exact(LA [_,_,_,_] (Sx (.a V0 V1)) V2 (.a V0 (Sx (.a V3 (Sx V1)))) (.a (.k 1) V2) rfl (Nq (Ny hs) this))
  ·refine aa (ay e) ?_;exact W0.tN i
 ·intro i hi;show(aN (aN B.X.av B.X.N []) (B.X.id k) (aN B.X.av B.X.N [] (B.X.id k)++[B.X.N]) i).length≤B.X.N+1;by_cases e:i=B.X.id k
  ·refine aa e ?_;refine aa az (aa (ay (gT idk)) (aa NH ?_));have:=W.kl _ idk;simpa using this
  ·refine aa (ay e) ?_;by_cases e2:i=B.X.N
   ·refine aa e2 ?_;refine aa az ?_;exact Ov _
   ·refine aa (ay e2) ?_;have:=W.kl i (by have:i<B.X.N+1:=hi;exact eV this e2);exact H_ this
 ·intro i c hi hc;show 0<c∧c<B.X.N+1;have hc:c∈aN (aN B.X.av B.X.N []) (B.X.id k) (aN B.X.av B.X.N [] (B.X.id k)++[B.X.N]) i:=hc;by_cases e:i=B.X.id k
  ·subst e;rw[az,ay (gT idk)]at hc;rcases Nw.mp hc with h|h
   ·obtain⟨p,q⟩:=W.kc _ c idk h;exact⟨p,Df q⟩
   ·have:=NX.mp h;have:=W.U.Np;lia
  ·rw[ay e]at hc;by_cases e2:i=B.X.N
   ·subst e2;rw[az]at hc;cases hc
   ·rw[ay e2]at hc;obtain⟨p,q⟩:=W.kc i c (by have:i<B.X.N+1:=hi;exact eV this e2) hc;exact⟨p,Df q⟩
theorem Ok.a9(W:Ok B (b+1)){sg:Str}(hs:sg.length=1):Ok (a9 sg B) b:=by
 cases eo:B.aj with
 |nil=>exact absurd eo W.ne
 |cons k r=>
  have kn:=W.hk k (by refine aa eo ?_;exact .head _);have W0:=W.le (Oe b);cases e:(B.X.av (B.X.id k)).getLast? with
  |none=>
   refine aa (show Hx.a9 sg B={B with X:=(B.X.bq sg).link B.X.N (B.X.id k)} by unfold Hx.a9;refine aa eo ?_;dsimp only;exact aa e rfl) ?_;exact W.rM kn hs
  |some c=>
   cases er:B.X.rk c with
   |some z=>
    refine aa (show Hx.a9 sg B={B with X:=(B.X.bq sg).link B.X.N (B.X.id k)} by unfold Hx.a9;refine aa eo ?_;dsimp only;refine aa e ?_;dsimp only;exact aa er rfl) ?_;exact W.rM kn hs
   |none=>
    refine aa (show Hx.a9 sg B={B with X:={B.X with tx:=aN B.X.tx c (B.X.tx c++sg)} } by unfold Hx.a9;refine aa eo ?_;dsimp only;refine aa e ?_;dsimp only;exact aa er rfl) ?_;refine{W0 with U:={W.U with},tN:=fun i=>?_};refine(?_:(aN B.X.tx c (B.X.tx c++sg) i).length+b<_);by_cases e:i=c
    ·refine bR e ?_;refine aa az (aa Fc ?_);have:=W.tN i;exact(LA [_,_,_,_] (Sx (.a (.a V0 V1) V2)) V3 (.a (Sx (.a V0 (Sx V2))) V1) (Sx V3) rfl (Nq this (Ny hs)))
    ·refine aa (ay e) ?_;exact W0.tN i
end
end Hx
namespace Hx
open PySem
structure bL (M:Ms) (J:Jk):Prop where
 op:J.r5[J.mo]?=some (.list (M.aj.reverse.map a8))
 ls:J.r6[J.ml]?=some (.list (M.ah.reverse.map fun o=>.int (eU (fun k=>k) o)))
noncomputable def aQ{α:Type}(p:α→Bool):List α→Int
 |[]=>-1
 |k::l=>if p k then(l.length:Int)else aQ p l
theorem fk{α:Type}{p:α→Bool}{k:α}{l:List α}:aQ p (k::l)=if p k then(l.length:Int)else aQ p l:=rfl
theorem c_{α:Type}{p:α→Bool}:∀{l:List α},aQ p l<l.length
 |[]=>by show(-1:Int)<((0:Nat):Int);exact by decide
 |k::l=>by
  rw[fk];split
  ·simp;exact Int.lt_succ _
  ·have:=c_ (p:=p) (l:=l);simp;exact OH this (Int.lt_succ _)
noncomputable def aK{α:Type}(p:α→Bool):List α→List Nat
 |[]=>[]
 |k::l=>aK p l++if p k then[l.length]else[]
theorem cu{α:Type}{p:α→Bool}{k:α}{l:List α}:aK p (k::l)=aK p l++if p k then[l.length]else[]:=rfl
theorem cv{α:Type}{p:α→Bool}:∀{l:List α},(aK p l).length≤l.length
 |[]=>NQ _
 |k::l=>by
  refine aa NH ?_;have:=cv (p:=p) (l:=l);split<;>simp<;>(first|assumption|exact NQ _|exact Ov _|exact NT _|exact Oe _|exact Nat.succ_pos _|exact NS (by assumption)|exact NJ (by assumption) (by assumption)|exact NA (by assumption) (by assumption)|exact N1 (by assumption) (by assumption)|exact N_ (by assumption) (by assumption)|exact OA (by assumption)|exact Nat.succ_le_of_lt (by assumption)|exact Ol (by assumption)|exact O1 (by assumption)|exact O7 (by assumption)|exact O2 (by assumption)|exact Om (by assumption)|exact Nat.succ_ne_zero _|exact Oa (by assumption)|exact OY (by assumption)|exact absurd (by assumption) (Oc _)|exact Nat.le_add_right _ _|exact Nat.le_add_left _ _|exact O9 (by assumption) (by assumption)|exact O8 _ _|exact OA (NJ (by assumption) (by assumption))|rfl|fail)
theorem lR{α:Type}{p:α→Bool}:∀{l:List α},dQ (-1::(aK p l).map fun(n:Nat)=>(n:Int))=some (aQ p l)
 |[]=>rfl
 |k::l=>by
  have ih:=lR (p:=p) (l:=l);rw[cu,fk];show some (List.foldl _ _ (List.map _ (_++_)))=_;have ih:List.foldl (fun a b:Int=>if a<b then b else a) (-1) ((aK p l).map fun(n:Nat)=>(n:Int))=aQ p l:=Oi.mp ih;refine aa Nu (aa List.foldl_append (aa ih ?_));split
  ·show some (if aQ p l<(l.length:Int)then(l.length:Int)else aQ p l)=_;exact aa (if_pos (c_ (p:=p) (l:=l))) rfl
  ·rfl
theorem gL{α:Type}{p:α→Bool}:∀{l:List α},dQ (0::(aK p l).map fun(n:Nat)=>(n:Int)+1)=some (aQ p l+1)
 |[]=>rfl
 |k::l=>by
  have ih:=gL (p:=p) (l:=l);have lt:=c_ (p:=p) (l:=l);rw[fk];show some (List.foldl _ _ (List.map _ (_++_)))=_;have ih:List.foldl (fun a b:Int=>if a<b then b else a) 0 ((aK p l).map fun(n:Nat)=>(n:Int)+1)=aQ p l+1:=Oi.mp ih;refine aa Nu (aa List.foldl_append (aa ih ?_));split
  ·show some (if aQ p l+1<(l.length:Int)+1 then(l.length:Int)+1 else aQ p l+1)=_;exact aa (if_pos (Int.add_lt_add_right lt 1)) rfl
  ·rfl
section
variable{B:Bs}{M:Ms}{J:Jk}
theorem iz{i:Nat}(h:i<M.n)(c:M.n<1000000):ai (ag B M J).mnames (.int (i:Int))=some (.str (M.nm i)):=ew (f:=fun i=>AV.str (M.nm i)) h c
theorem f_{n:Nat}:(aH 0 (n:Int) 1).length=n:=by
 unfold aH;refine aa (if_pos rfl) ?_;rw[Nn];exact aa N0 rfl
theorem d9{r:List AO}{l:List AV}:ae (aw (ag B M (jr J (r++[.list l])))) 7 r.length=some l:=by
 show((r++[_])[_]?).bind _=_;exact aa aG rfl
theorem rB{r:List AO}{l m:List AV}:ae (aw (ag B M (jr J (r++[.list l]++[.list m])))) 7 r.length=some l:=by
 show((r++[AO.list l]++[AO.list m])[_]?).bind _=_;refine aa (NM (by simp)) (aa aG ?_);rfl
theorem iu(j0:bL M J)(hN:M.n<1000000)(hO:M.aj.length+1<1000000)(hk:∀k∈M.aj,k<M.n) {ns:List AV} {pn:Nat→Bool} (hp:∀k∈M.aj,bg (.str (M.nm k)) ns=some (pn k)):
 ∃r,∀{ρ:Type}(K:Ki ρ),d6 ns (ag B M J) K=K (aQ pn M.aj) (ag B M (jr J r)):=by
 refine⟨J.r7++[.list [.int (-1)]]++[.list ((aK pn M.aj).map a8)]++[.list ([.int (-1)]++(aK pn M.aj).map a8)],fun K=>?_⟩
 have op:∀{r:List AO},ae (aw (ag B M (jr J r))) 5 J.mo=some (M.aj.reverse.map a8):=fun{r}=>by
  show(J.r5[J.mo]?).bind _=_;refine aa j0.op ?_;rfl
 have len:(M.aj.reverse.map a8).length=M.aj.length:=by simp
 have sm:small ((M.aj.reverse.map a8).length:Int)=true:=aS (by refine aa len ?_;exact FA hO);refine bd (op (r:=J.r7++[.list [.int (-1)]])) (fT (aE (by refine aa len ?_;exact NS (by assumption))) (fT sm (fT (by refine aa sm ?_;rfl) ?_)))
 have tk:∀j,j<M.aj.length→∃a,M.aj.drop (M.aj.length-(j+1))=a::M.aj.drop (M.aj.length-j)∧(M.aj.reverse.map a8)[j]?=some (a8 a):=fun j hj=>by
  have h1:M.aj.length-(j+1)<M.aj.length:=Fu hj;refine⟨M.aj[M.aj.length-(j+1)],?_,?_⟩
  ·exact aa (OG h1) (aa (show M.aj.length-(j+1)+1=M.aj.length-j by exact C_ hj) rfl)
  ·refine aa (Nz) (aa (OS hj) (aa (show M.aj.length-1-j=M.aj.length-(j+1) by exact Fw) (aa (NP h1) ?_)));rfl
 have z:(([]:List AV),ns,())=((aK pn (M.aj.drop (M.aj.length-0))).map a8,ns,()):=by rw[Nat.sub_zero];refine aa List.drop_length ?_;rfl
 have mem:∀{j a r},M.aj.drop j=a::r→a∈M.aj:=fun{j a r}e=>Ob (i:=j) (by refine aa e ?_;exact .head _);refine(eI M.aj.length (fun j=>((aK pn (M.aj.drop (M.aj.length-j))).map a8,ns,())) (fun _=>ag B M (jr J (J.r7++[.list [.int (-1)]]))) z rfl ?_ ?_).trans ?_
 ·refine aa f_ (aa len ?_);exact NT _
 ·intro j hj go;refine ar (tk j hj) fun a e ga=>?_
  have al:((aK pn (M.aj.drop (M.aj.length-j))).map a8).length<ab:=aE (by
   rw[Nn];have:=cv (p:=pn) (l:=M.aj.drop (M.aj.length-j));rw[Oj]at this;exact NA (N1 this (Nat.sub_le _ _)) (Pd hO))
  have dl:(M.aj.drop (M.aj.length-j)).length=j:=by refine aa Oj ?_;exact Ft hj
  refine oS (cJ.trans (if_pos (by refine aa len ?_;exact hj))) (bd rfl (bd op (bd (bp ga (by exact De hj hO)) (bd rfl (bd (iz (hk a (mem e)) hN) (bd rfl (bd (hp a (mem e)) ?_)))))));refine aa e (aa cu ?_);cases h:pn a with
  |true=>refine cT rfl (fT al ?_);refine aa Nu (aa (if_pos rfl) (aa dl ?_));rfl
  |false=>refine cF rfl ?_;refine aa (if_neg NG) ?_;rw[N7]
 ·refine oN (cJ.trans (if_neg (by refine aa len ?_;exact Oc _))) ?_;rw[Nat.sub_self];refine aa List.drop_zero ?_;have pl:=cv (p:=pn) (l:=M.aj);have al:((aK pn M.aj).map a8).length<ab:=aE (by rw[Nn];exact(LA [_,_,_] (Sx V0) V1 (.a V0 (Sx (Sx V2))) (.a V2 V1) rfl (Nq pl hO)));refine fT al (bd (rB (J:=J)) (bd (d9 (J:=J)) (fT (aE (by simp;exact(LA [_,_,_] (Sx (Sx V0)) V1 (.a V0 (Sx (Sx V2))) (.a V2 V1) rfl (Nq pl hO)))) (bd (d9 (J:=J)) (bd ?_ (bd lR rfl))))));have:=bI (f:=fun x:Int=>x) (l:=-1::(aK pn M.aj).map fun(n:Nat)=>(n:Int));simp only[Of,List.map_map,List.map_id']at this;exact this
noncomputable def FN(l:List (Option Nat)):Int:=aQ Option.isNone l+1
theorem kS(j0:bL M J)(hL:M.ah.length+1<1000000):
 ∃r,(∃r',r=J.r7++r')∧∀{ρ:Type}(K:Ki ρ),gu (ag B M J) K=K (FN M.ah) (ag B M (jr J r)):=by
 refine⟨J.r7++[.list [.int 0]]++[.list ((aK Option.isNone M.ah).map fun(n:Nat)=>.int ((n:Int)+1))]++[.list ([.int 0]++(aK Option.isNone M.ah).map fun(n:Nat)=>.int ((n:Int)+1))],⟨_,by rw[NK,NK]⟩,fun K=>?_⟩
 have op:∀{r:List AO},ae (aw (ag B M (jr J r))) 6 J.ml=some (M.ah.reverse.map fun o=>.int (eU (fun k=>k) o)):=fun{r}=>by
  show(J.r6[J.ml]?).bind _=_;refine aa j0.ls ?_;rfl
 have len:(M.ah.reverse.map fun o=>AV.int (eU (fun k=>k) o)).length=M.ah.length:=by simp
 have sm:small ((M.ah.reverse.map fun o=>AV.int (eU (fun k=>k) o)).length:Int)=true:=aS (by refine aa len ?_;exact FA hL);refine bd (op (r:=J.r7++[.list [.int 0]])) (fT (aE (by refine aa len ?_;exact o6 hL)) (fT sm (fT (by refine aa sm ?_;rfl) ?_)))
 have tk:∀j,j<M.ah.length→∃a,M.ah.drop (M.ah.length-(j+1))=a::M.ah.drop (M.ah.length-j)∧(M.ah.reverse.map fun o=>AV.int (eU (fun k=>k) o))[j]?=some (AV.int (eU (fun k=>k) a)):=fun j hj=>by
  have h1:M.ah.length-(j+1)<M.ah.length:=Fu hj;refine⟨M.ah[M.ah.length-(j+1)],?_,?_⟩
  ·exact aa (OG h1) (aa (show M.ah.length-(j+1)+1=M.ah.length-j by exact C_ hj) rfl)
  ·refine aa (Nz) (aa (OS hj) (aa (show M.ah.length-1-j=M.ah.length-(j+1) by exact Fw) (aa (NP h1) ?_)));rfl
 have z:(([]:List AV),())=((aK Option.isNone (M.ah.drop (M.ah.length-0))).map fun(n:Nat)=>AV.int ((n:Int)+1),()):=by rw[Nat.sub_zero];refine aa List.drop_length ?_;rfl
 refine(eI M.ah.length (fun j=>((aK Option.isNone (M.ah.drop (M.ah.length-j))).map fun(n:Nat)=>AV.int ((n:Int)+1),())) (fun _=>ag B M (jr J (J.r7++[.list [.int 0]]))) z rfl ?_ ?_).trans ?_
 ·refine aa f_ (aa len ?_);exact NT _
 ·intro j hj go;refine ar (tk j hj) fun a e ga=>?_
  have al:((aK Option.isNone (M.ah.drop (M.ah.length-j))).map fun(n:Nat)=>AV.int ((n:Int)+1)).length<ab:=aE (by
   rw[Nn];have:=cv (p:=Option.isNone) (l:=M.ah.drop (M.ah.length-j));rw[Oj]at this;exact NA (N1 this (Nat.sub_le _ _)) (Pd hL))
  have dl:(M.ah.drop (M.ah.length-j)).length=j:=by refine aa Oj ?_;exact Ft hj
  refine oS (cJ.trans (if_pos (by refine aa len ?_;exact hj))) (bd rfl (bd op (bd (bp ga (by exact De hj hL)) (bd rfl ?_))));refine aa e (aa cu ?_);clear e ga;cases a with
  |none=>refine cT (dT rfl) (fT al ?_);refine aa Nu (aa (if_pos (show(Option.none:Option Nat).isNone=true from rfl)) (aa dl ?_));rfl
  |some k=>refine cF (dF (by show¬((k:Int)=-1);exact sr)) ?_;refine aa (if_neg (by simp)) ?_;rw[N7]
 ·refine oN (cJ.trans (if_neg (by refine aa len ?_;exact Oc _))) ?_;dsimp only;rw[Nat.sub_self];refine aa List.drop_zero ?_;have pl:=cv (p:=Option.isNone) (l:=M.ah);have al:((aK Option.isNone M.ah).map fun(n:Nat)=>AV.int ((n:Int)+1)).length<ab:=aE (by rw[Nn];exact(LA [_,_,_] (Sx V0) V1 (.a V0 (Sx (Sx V2))) (.a V2 V1) rfl (Nq pl hL)));refine fT al (bd (rB (J:=J)) (bd (d9 (J:=J)) (fT (aE (by simp;exact(LA [_,_,_] (Sx (Sx V0)) V1 (.a V0 (Sx (Sx V2))) (.a V2 V1) rfl (Nq pl hL)))) (bd (d9 (J:=J)) (bd ?_ (bd gL rfl))))));have:=bI (f:=fun x:Int=>x) (l:=0::(aK Option.isNone M.ah).map fun(n:Nat)=>(n:Int)+1);simp only[Of,List.map_map,List.map_id']at this;exact this
end
noncomputable def bw(X:Tr)(c:Nat):Nat⊕Str:=match X.rk c with
 |some k=>.inl k
 |.none=>.inr (X.tx c)
def au(B:Bs):Ms:=⟨B.X.n,B.X.nm,B.X.bc,fun k=>(B.X.av (B.X.id k)).map (bw B.X),B.aj,B.ah,B.aq,B.free⟩
structure Iy (M M':Ms):Prop where
 n:M.n=M'.n
 nm:∀k,k<M.n→M.nm k=M'.nm k
 bc:∀k,k<M.n→M.bc k=M'.bc k
 av:∀k,k<M.n→M.av k=M'.av k
 aq:M.aq=M'.aq
 free:M.free=M'.free
theorem iC{α:Type}{n:Nat}{f g:Nat→α}(h:∀k,k<n→f k=g k):bF n f=bF n g:=NY fun k hk=>h k (NV.mp hk)
theorem Iy.ag{M M':Ms}(h:Iy M M'){B:Bs}{J:Jk}:ag B M J=ag B M' J:=by
 obtain⟨n,nm,bc,av,o,l,e,f⟩:=M;obtain⟨n',nm',ats',kids',o',l',e',f'⟩:=M';obtain⟨h1,h2,h3,h4,h5,h6⟩:=h;dsimp only at h1 h2 h3 h4 h5 h6;subst h1 h5 h6;unfold Hx.ag;exact aa (iC (f:=fun i=>AV.str (nm i)) fun k hk=>congrArg AV.str (h2 k hk)) (aa (iC (f:=fun i=>AO.list ((bc i).map cy)) fun k hk=>congrArg (fun z=>AO.list (List.map cy z)) (h3 k hk)) (aa (iC (f:=fun i=>AO.list ((av i).map h_)) fun k hk=>congrArg (fun z=>AO.list (List.map h_ z)) (h4 k hk)) rfl))
def lL(x:Str)(l:List cj)(M:Ms):Ms:=match M.aj with
 |[]=>M
 |k::_=>{M with n:=M.n+1,nm:=aN M.nm M.n x,bc:=aN M.bc M.n l,av:=aN (aN M.av M.n []) k (aN M.av M.n [] k++[.inl M.n]),aj:=M.n::M.aj}
def gN(J:Jk)(l:List Nat):Jk:={J with r5:=J.r5.set J.mo (.list (l.reverse.map a8))}
section
variable{B C:Bs}{M:Ms}{J:Jk}{b:Nat}
theorem bL.jr(j:bL M J){r:List AO}:bL M (jr J r):=⟨j.op,j.ls⟩
theorem gF{α:Type}{l:List α}{i:Nat}{a:α}(h:l[i]?=some a):i<l.length:=by
 rcases OX i l.length with q|q
 ·exact q
 ·rw[NO q]at h;exact cZ h
theorem bL.gN{M':Ms}(j:bL M J)(h:M'.ah=M.ah):bL M' (gN J M'.aj):=⟨by
 exact aa (List.getElem?_set_self (gF j.op)) rfl,h▸j.ls⟩
theorem G5(j:bL M J){M':Ms}{r:List AO}:ae (aw (ag C M' (Hx.jr J r))) 5 J.mo=some (M.aj.reverse.map a8):=by
 show(J.r5[J.mo]?).bind _=_;exact aa j.op rfl
theorem Bv(j:bL M J){M':Ms}{r:List AO}:ae (aw (ag C M' (Hx.jr J r))) 6 J.ml=some (M.ah.reverse.map fun o=>.int (eU (fun k=>k) o)):=by
 show(J.r6[J.ml]?).bind _=_;exact aa j.ls rfl
theorem fE(j:bL M J){M':Ms}:ae (aw (ag C M' J)) 5 J.mo=some (M.aj.reverse.map a8):=G5 j (r:=J.r7)
theorem iV(j:bL M J){M':Ms}:ae (aw (ag C M' J)) 6 J.ml=some (M.ah.reverse.map fun o=>.int (eU (fun k=>k) o)):=Bv j (r:=J.r7)
theorem ET{k:Nat}(h:k<M.n)(c:M.n<1000000):ai (ag C M J).mkids (.int (k:Int))=some (.loc 4 k):=ew (f:=fun i=>AV.loc 4 i) h c
theorem uX{k:Nat}(h:k<M.n)(c:M.n<1000000):ai (ag C M J).mattrs (.int (k:Int))=some (.loc 3 k):=ew (f:=fun i=>AV.loc 3 i) h c
theorem jE{k:Nat}(h:k<M.n):ae (aw (ag C M J)) 4 k=some ((M.av k).map h_):=by
 show((bF _ _)[k]?).bind _=_;exact aa (cK h) rfl
theorem iZ{k:Nat}(h:k<M.n):ae (aw (ag C M J)) 3 k=some ((M.bc k).map cy):=by
 show((bF _ _)[k]?).bind _=_;exact aa (cK h) rfl
theorem vF{x:Str}{l:List cj}:(((((ag C M J).bH ((ag C M J).mnames++[AV.str x])).jK ((ag C M J).r3++[AO.list (l.map cy)])).bS ((ag C M J).mattrs++[AV.loc 3 (ag C M J).r3.length])).d5 ((ag C M J).r4++[AO.list []])).cz ((ag C M J).mkids++[AV.loc 4 (ag C M J).r4.length])=
 ag C {M with n:=M.n+1,nm:=aN M.nm M.n x,bc:=aN M.bc M.n l,av:=aN M.av M.n []} J:=by
 have e1:(ag C M J).mnames++[AV.str x]=bF (M.n+1) fun i=>AV.str (aN M.nm M.n x i):=by
  have:=aM (n:=M.n) (f:=fun i=>AV.str (M.nm i)) (g:=fun i=>AV.str (aN M.nm M.n x i)) (fun i h=>congrArg AV.str (ay (gT h)));rw[az]at this;exact this
 have e2:(ag C M J).r3++[AO.list (l.map cy)]=bF (M.n+1) fun i=>AO.list ((aN M.bc M.n l i).map cy):=by
  have:=aM (n:=M.n) (f:=fun i=>AO.list ((M.bc i).map cy)) (g:=fun i=>AO.list ((aN M.bc M.n l i).map cy)) (fun i h=>congrArg (fun z=>AO.list (List.map cy z)) (ay (gT h)));rw[az]at this;exact this
 have e3:(ag C M J).r4++[AO.list []]=bF (M.n+1) fun i=>AO.list ((aN M.av M.n [] i).map h_):=by
  have:=aM (n:=M.n) (f:=fun i=>AO.list ((M.av i).map h_)) (g:=fun i=>AO.list ((aN M.av M.n [] i).map h_)) (fun i h=>congrArg (fun z=>AO.list (List.map h_ z)) (ay (gT h)));rw[az]at this;exact this
 have e4:(ag C M J).mattrs++[AV.loc 3 (ag C M J).r3.length]=bF (M.n+1) fun i=>AV.loc 3 i:=by
  refine aa (show(ag C M J).r3.length=M.n from aW) ?_;exact aM (f:=fun i=>AV.loc 3 i) (g:=fun i=>AV.loc 3 i) (fun i h=>rfl)
 have e5:(ag C M J).mkids++[AV.loc 4 (ag C M J).r4.length]=bF (M.n+1) fun i=>AV.loc 4 i:=by
  refine aa (show(ag C M J).r4.length=M.n from aW) ?_;exact aM (f:=fun i=>AV.loc 4 i) (g:=fun i=>AV.loc 4 i) (fun i h=>rfl)
 refine aa e1 (aa e2 (aa e3 (aa e4 (aa e5 ?_))));rfl
theorem ow{k:Nat}{l:List (Nat⊕Str)}{r:List AO}(h:k<M.n)(hr:r=(ag C M J).r4):(ag C M J).d5 (r.set k (.list (l.map h_)))=ag C {M with av:=aN M.av k l} J:=by
 refine aa hr ?_;have:=i8 (f:=fun i=>AO.list ((M.av i).map h_)) (g:=fun i=>AO.list ((aN M.av k l i).map h_)) h (fun i _ hne=>by exact aa (ay hne) rfl);rw[az]at this;exact aa this rfl
structure gw (M:Ms):Prop where
 n:M.n+1<1000000
 o:M.aj.length+1<1000000
 l:M.ah.length+1<1000000
 e:M.aq.length+1<1000000
 k:∀k,k<M.n→(M.av k).length+1<1000000
 hk:∀k∈M.aj,k<M.n
 hl:∀k,some k∈M.ah→k<M.n
theorem vv(j:bL M J)(F:gw M)(hne:M.aj≠[]){x:Str}{l:List cj}(hl:l.length<1000000){ρ:Type}(K:Ki ρ):
 cx x (l.map cy) (ag C M J) K=K (M.n:Int) (ag C (lL x l M) (gN J (M.n::M.aj))):=by
 unfold lL;cases eo:M.aj with
 |nil=>exact absurd eo hne
 |cons k r=>
  have kn:=F.hk k (by refine aa eo ?_;exact .head _);have n0:M.n<1000000:=by have:=F.n;exact NS (by assumption)
  refine fT (aV n0) (fT (aV n0) (fT (aE (by rw[Nn];exact hl)) (fT (aV n0) (fT (aV n0) ?_))));refine aa vF ?_;have ol:(M.aj.reverse.map a8).length<ab:=aE (by have:=F.o;rw[Nn];refine aa Nx ?_;exact NS (by assumption))
  have ki:ai ((ag C M J).mkids++[AV.loc 4 (ag C M J).r4.length]) (.int (k:Int))=some (.loc 4 k):=by
   refine aa (show(ag C M J).r4.length=M.n from aW) ?_;refine aa (show(ag C M J).mkids++[AV.loc 4 M.n]=bF (M.n+1) fun i=>AV.loc 4 i from aM (f:=fun i=>AV.loc 4 i) (g:=fun i=>AV.loc 4 i) (fun i h=>rfl)) ?_;exact ew (f:=fun i=>AV.loc 4 i) (Df kn) F.n
  have kg:ae (aw (ag C {M with n:=M.n+1,nm:=aN M.nm M.n x,bc:=aN M.bc M.n l,av:=aN M.av M.n []} J)) 4 k=some ((aN M.av M.n [] k).map h_):=jE (M:={M with n:=M.n+1,nm:=aN M.nm M.n x,bc:=aN M.bc M.n l,av:=aN M.av M.n []}) (by show k<M.n+1;exact Df kn);refine bd (fE j) (bd (t:=a8 k) ?_ (bd rfl (bd ki (bd rfl (bT rfl (bd kg (bd kg (fT ?_ ?_))))))))
  ·refine aa eo (aa NN (aa Nu ?_));exact eF
  ·refine aE ?_;rw[Nn];refine aa (ay (gT kn)) ?_;have:=F.k k kn;exact NS (by assumption)
  have e:(aN M.av M.n [] k).map h_++[AV.int ((ag C M J).mnames.length:Int)]=(aN M.av M.n [] k++[Sum.inl M.n]).map h_:=by
   refine aa (show(ag C M J).mnames.length=M.n from aW) (aa Nu ?_);rfl
  have e2:(ag C M J).r4++[AO.list []]=(ag C {M with n:=M.n+1,nm:=aN M.nm M.n x,bc:=aN M.bc M.n l,av:=aN M.av M.n []} J).r4:=by exact bR vF rfl
  dsimp only;refine aa e (aa (ow (M:={M with n:=M.n+1,nm:=aN M.nm M.n x,bc:=aN M.bc M.n l,av:=aN M.av M.n []}) (by show k<M.n+1;exact Df kn) e2) ?_);refine bd (fE j) (bd (fE j) (fT ol ?_));refine aa (show(ag C M J).mnames.length=M.n from aW) ?_;refine congrArg (K _) ?_;unfold gN;refine aa NN (aa Nu ?_);rw[←eo];rfl
theorem DN(j:bL M J)(F:gw M)(hne:M.aj≠[]){x:Str}{i:Nat}(hi:i<M.n)(hl:(M.bc i).length<1000000){ρ:Type}(K:Ki ρ):
 ky x i (ag C M J) K=K (M.n:Int) (ag C (lL x (M.bc i) M) (gN J (M.n::M.aj))):=by
 have n0:M.n<1000000:=by have:=F.n;exact NS (by assumption)
 refine Eq.trans ?_ (vv j F hne hl K);refine fT (aV n0) (fT (aV n0) (bd (t:=(M.bc i).map cy) ?_ ?_))
 ·exact iZ (M:=M) (C:=C) (J:=J) hi
 ·exact(fT (aV n0) (fT (aV n0) rfl)).symm
end
section
variable{B C:Bs}{M:Ms}{J:Jk}{b:Nat}
theorem zd{X:Tr}{x:Str}{l:List cj}{c:Nat}(h:c<X.N):bw (X.bo x l) c=bw X c:=by
 unfold bw;exact aa (show(X.bo x l).rk c=X.rk c from ay (gT h)) (aa (show(X.bo x l).tx c=X.tx c from ay (gT h)) rfl)
theorem vz(W:Ok B b){x:Str}{l:List cj}:Iy (lL x l (au B)) (au (aI x l B)):=by
 unfold lL aI;cases eo:B.aj with
 |nil=>exact absurd eo W.ne
 |cons k r=>
  have kn:=W.hk k (by refine aa eo ?_;exact .head _);have idk:=W.U.lt k kn;refine aa (show(au B).aj=k::r from eo) ?_;refine⟨rfl,fun _ _=>rfl,fun _ _=>rfl,fun i hi=>?_,rfl,rfl⟩;have hi:i<B.X.n+1:=hi;show aN (aN (au B).av B.X.n []) k (aN (au B).av B.X.n [] k++[.inl B.X.n]) i=((aN (aN B.X.av B.X.N []) (B.X.id k) (aN B.X.av B.X.N [] (B.X.id k)++[B.X.N])) (aN B.X.id B.X.n B.X.N i)).map (bw (B.X.bo x l));have old:∀{p},p<B.X.N→(B.X.av p).map (bw (B.X.bo x l))=(B.X.av p).map (bw B.X):=fun{p}hp=>NY fun c hc=>zd (W.kc p c hp hc).2;by_cases e:i=k
  ·subst e;refine aa az (aa (ay (show i≠B.X.n by exact gT kn)) (aa (ay (show i≠B.X.n by exact gT kn)) (aa az (aa (ay (show B.X.id i≠B.X.N by exact Oa (by assumption))) (aa Nu (aa (old idk) ?_))))));have:bw (B.X.bo x l) B.X.N=.inl B.X.n:=by unfold bw;exact aa (show(B.X.bo x l).rk B.X.N=some B.X.n from az) rfl
   show _=_++[bw _ _];refine aa this ?_;rfl
  ·refine aa (ay e) ?_;by_cases e2:i=B.X.n
   ·refine aa e2 ?_;refine aa az (aa az (aa (ay (show B.X.N≠B.X.id k by exact Ne.symm (Oa idk))) (aa az ?_)));rfl
   ·have hin:i<B.X.n:=by exact eV hi e2
    refine aa (ay e2) (aa (ay e2) (aa (ay (show B.X.id i≠B.X.id k from fun h=>e (W.U.inj hin kn h))) (aa (ay (show B.X.id i≠B.X.N by have:=W.U.lt i hin;exact gT this)) (aa (old (W.U.lt i hin)) ?_))));rfl
theorem bN(W:Ok B (b+2))(hn:B.X.n≤B.X.N):gw (au B)where
 n:=by show B.X.n+1<1000000;have:=W.N;exact(LA [_,_,_] (Sx (Sx V0)) (.k 1000000) (.a V0 (Sx (.a V1 V2))) (.a V1 (.k 999900)) rfl (Nq hn this))
 o:=by show B.aj.length+1<_;have:=W.oN;have:=W.N;lia
 l:=by show B.ah.length+1<_;have:=W.lN;exact Dd this
 e:=by show B.aq.length+1<_;have:=W.eN;exact Dd this
 k:=fun k hk=>by show((B.X.av (B.X.id k)).map _).length+1<_;rw[Nn];have:=W.kl _ (W.U.lt k hk);have:=W.N;lia
 hk:=W.hk
 hl:=W.hl
end
theorem gC{α:Type}{p:α→Bool}:∀{l:List α},aQ (fun o=>!p o) l+1=((l.dropWhile p).length:Int)
 |[]=>rfl
 |k::l=>by
  refine aa N2 ?_;rw[fk];cases p k with
  |true=>exact gC (l:=l)
  |false=>rfl
abbrev bO (l:List (Option Nat)):List AV:=l.reverse.map fun o=>.int (eU (fun k=>k) o)
def zx(J:Jk)(l:List (Option Nat)):Jk:={J with r6:=J.r6.set J.ml (.list (bO l))}
section
variable{B C:Bs}{M:Ms}{J:Jk}{b:Nat}
theorem bL.zx{M':Ms}(j:bL M J)(h:M'.aj=M.aj):bL M' (zx J M'.ah):=⟨h▸j.op,by
 exact aa (List.getElem?_set_self (gF j.ls)) rfl⟩
theorem ED{l:List Nat}{k:Nat}:bg (.int (k:Int)) (l.reverse.map a8)=some (decide (k∈l)):=by
 refine aa (show l.reverse.map a8=l.reverse.map fun k=>.int (k:Int)from rfl) (aa fW ?_);rw[Oi];refine aa List.any_reverse ?_;rw[OL,O5,decide_eq_true_iff];constructor
 ·rintro⟨a,ha,e⟩;refine bR (OM.mp (of_decide_eq_true e)) ?_;exact ha
 ·intro h;exact⟨k,h,dT rfl⟩
theorem Di(j:bL M J){M':Ms}{r:List AO}{k:Nat}:m9 (aw (ag C M' (Hx.jr J r))) (.int (k:Int)) (.loc 5 J.mo)=some (decide (k∈M.aj)):=by
 show((J.r5[J.mo]?)).bind _=_;refine aa j.op ?_;exact ED
def yK{ρ:Type}(K:Ku ρ)(R:List AV)(go11:Nat→Nat×PUnit→St→Option ρ)(j12:Nat)(t13:Nat×PUnit)(s14:St):Option ρ:=
 bz R[j12]? (K () s14) fun(x15:AV)=>x15.i?.bind fun(x16:Int)=>(ae (aw s14) 6 s14.mlist).bind fun(x17:List AV)=>(ai x17 (AV.int x16)).bind fun(x18:AV)=>x18.i?.bind fun(x19:Int)=>(ai s14.mnames (AV.int x19)).bind fun(x20:AV)=>x20.s?.bind fun(x21:Str)=>(ae (aw s14) 6 s14.mlist).bind fun(x22:List AV)=>(ai x22 (AV.int x16)).bind fun(x23:AV)=>x23.i?.bind fun(x24:Int)=>(ai s14.mattrs (AV.int x24)).bind fun(x25:AV)=>x25.l?.bind fun(x26:Nat×Nat)=>bif x26.fst.beq 3 then ky x21 x26.snd s14 fun(x27:Int)(s28:St)=>(ae (aw s28) 6 s28.mlist).bind fun(x29:List AV)=>if small x16=true then(idx x16 x29.length).bind fun(x30:Nat)=>go11 (j12+1) (t13.fst,()) (s28.bt (s28.r6.set s28.mlist (AO.list (x29.set x30 (AV.int x27)))))else none else none
theorem EZ{x:Str}{l:List cj}(W:Ok B b)(h:B.X.n≤B.X.N):(aI x l B).X.n≤(aI x l B).X.N:=by
 refine ar (iA (x:=x) (l:=l) W.ne) fun p hX hO=>?_;refine aa hX ?_;exact Nat.succ_le_succ h
theorem k6:∀(ks done:List (Option Nat))(B:Bs)(J:Jk)(j:Nat),B.ah=ks.reverse++done→Ok B (b+1+ks.length)→B.X.n≤B.X.N→(∀o∈ks,o≠.none)→bL (au B) J→∀R:List AV,(∀i,i<ks.length→R[j+i]?=some (.int ((done.length+i:Nat):Int)))→R[j+ks.length]?=none→
 ∃J',bL (au (fN done ks B)) J'∧J'.dg=J.dg∧(fN done ks B).X.n≤(fN done ks B).X.N∧∀{ρ:Type}(K:Ku ρ)(t:Nat)(e:Nat),bK (yK K R) (ks.length+1+e) j (t,()) (ag C (au B) J)=K () (ag C (au (fN done ks B)) J')
 |[]=>fun done B J j h W hn _ jk R _ hR=>⟨J,jk,rfl,hn,fun K t e=>by
  refine aa (show([]:List (Option Nat)).length+1+e=e+1 by simp;exact O8 1 _) ?_;exact eJ.trans (oN hR rfl)⟩
 |.none::ks=>fun done B J j h W hn hs jk R _ hR=>absurd rfl (hs _ (.head _))
 |some k::ks=>fun done B J j h W hn hs jk R hi hR=>by
  have h':B.ah=ks.reverse++some k::done:=by refine aa h ?_;simp
  have km:some k∈B.ah:=by refine aa h' ?_;simp
  have kn:=W.hl k km;have W1:Ok B (b+1+ks.length+1):=W;have Fm:gw (au B):=bN (b:=b+ks.length) (W1.le ((LE [_,_] (.a (.a V0 V1) (.k 2)) (Sx (.a (Sx V0) V1)) rfl))) hn;refine ar (iA (x:=B.X.nm k) (l:=B.X.bc k) W.ne) fun p hX hO=>?_;have n9:(au B).n<1000000:=by have:=Fm.n;exact NS (by assumption)
  have j1:bL (au (aI (B.X.nm k) (B.X.bc k) B)) (gN J (B.X.n::B.aj)):=by
   have:=jk.gN (M':=au (aI (B.X.nm k) (B.X.bc k) B)) (show(aI _ _ B).ah=B.ah from bQ);rw[show(au (aI (B.X.nm k) (B.X.bc k) B)).aj=B.X.n::B.aj from hO]at this;exact this
  have j2:=j1.zx (M':=au {aI (B.X.nm k) (B.X.bc k) B with ah:=ks.reverse++some B.X.n::done}) rfl
  obtain⟨J',j3,s3,n3,hr⟩:=k6 ks (some B.X.n::done) {aI (B.X.nm k) (B.X.bc k) B with ah:=ks.reverse++some B.X.n::done} _ (j+1) rfl (W1.re h') (EZ W hn) (fun o ho=>hs o (.tail _ ho)) j2 R (fun i hh=>by
   have:=hi (i+1) (by simp;assumption);refine aa (show j+1+i=j+(i+1) by exact H5) (aa this ?_);simp;lia) (by
   refine aa (show j+1+ks.length=j+(some k::ks).length by simp;exact H5) ?_;exact hR)
  refine⟨J',j3,s3,n3,fun K t e=>?_⟩;have dl:done.length<B.ah.length:=by refine aa h' ?_;simp;exact Mp
  have dN:done.length<1000000:=by have:=W.F.ah;exact N_ (by assumption) (by assumption)
  have ga:(bO B.ah)[done.length]?=some (.int (k:Int)):=by
   refine aa h' (aa (Nz) (aa N3 (aa NN ?_)));rw[NK];refine aa (Ow (by simp)) ?_;simp[eU]
  have it:ai (bO B.ah) (.int (done.length:Int))=some (.int (k:Int)):=bp ga (by exact mu dN);refine aa (show(some k::ks).length+1+e=(ks.length+1+e)+1 by simp;exact Ih) ?_;have h0:=hi 0 (by simp);refine eJ.trans (oS h0 (bd rfl (bd (iV jk) (bd it (bd rfl (bd (iz (M:=au B) kn n9) (bd rfl (bd (iV jk) (bd it (bd rfl (bd (uX (M:=au B) kn n9) (bd rfl (bT rfl ?_)))))))))))));refine(DN jk Fm W.ne kn (by have:=fB _ (W.al k kn);show(B.X.bc k).length<_;exact zH this) _).trans ?_;refine aa (show ag C (lL ((au B).nm k) ((au B).bc k) (au B)) (gN J ((au B).n::(au B).aj))=ag C (au (aI (B.X.nm k) (B.X.bc k) B)) (gN J (B.X.n::B.aj))from(vz W).ag) ?_;refine bd (iV j1) (fT (aS (show done.length+0<1000000000 by exact(LA [_] (Sx (.a V0 (.k 0))) (.k 1000000000) (Sx V0) (.k 1000000) rfl dN))) (bd (hH ?_) ?_))
  ·show done.length<(bO (aI _ _ B).ah).length;refine aa bQ ?_;rw[Nn];refine aa Nx ?_;exact dl
  ·refine Eq.trans ?_ (hr K t e);refine congrArg (bK _ _ _ _) ?_;show St.bt (ag C (au (aI (B.X.nm k) (B.X.bc k) B)) (gN J (B.X.n::B.aj))) (List.set _ _ _)=St.bt (ag C (au (aI (B.X.nm k) (B.X.bc k) B)) (gN J (B.X.n::B.aj))) (List.set _ _ _);refine congrArg _ (congrArg (fun z=>List.set J.r6 J.ml (AO.list z)) ?_);show(bO (aI _ _ B).ah).set done.length _=bO (ks.reverse++some B.X.n::done);refine aa bQ (aa h' ?_);unfold bO;simp only[N3,NN,Oq,NK,Nu,Of,Oy,List.nil_append];refine aa (List.set_append_right _ _ (by simp)) ?_;simp[eU];rfl
theorem gY(W:Ok B (b+1+B.ah.length))(hn:B.X.n≤B.X.N)(j0:bL (au B) J):
 ∃J',bL (au (aP B)) J'∧J'.dg=J.dg∧(aP B).X.n≤(aP B).X.N∧∀{ρ:Type}(K:Ku ρ),dH (ag C (au B) J) K=K () (ag C (au (aP B)) J'):=by
 have F4:B.ah.length<999900:=by have:=W.lN;exact Kj this
 have dwl:=NB (p:=aT B.aj) (l:=B.ah);have lad:=congrArg List.length dwl;rw[NH]at lad;let pk:Option Nat→Bool:=fun o=>!aT B.aj o;let rr:List AO:=J.r7++[.list ((aK pk B.ah).map fun(n:Nat)=>.int ((n:Int)+1))]++[.list [.int 0]]++[.list ([.int 0]++(aK pk B.ah).map fun(n:Nat)=>.int ((n:Int)+1))]
 have rg:∀i,(aH ((B.ah.dropWhile (aT B.aj)).length:Int) ((bO B.ah).length:Int) 1)[i]?=if i<(B.ah.takeWhile (aT B.aj)).length then some (.int (((B.ah.dropWhile (aT B.aj)).length+i:Nat):Int))else none:=fun i=>by
  unfold aH;refine aa (if_pos rfl) (aa (Nz) ?_);rw[Nn];refine aa Nx ?_;have:((B.ah.length:Int)-((B.ah.dropWhile (aT B.aj)).length:Int)).toNat=(B.ah.takeWhile (aT B.aj)).length:=FC lad;refine aa this ?_;split
  ·refine aa (OF ‹_›) ?_;rfl
  ·refine aa (NO (by simp only[N0];lia)) ?_;rfl
 obtain⟨J',jk,sc,nN,hr⟩:=k6 (C:=C) (b:=b) (B.ah.takeWhile (aT B.aj)).reverse (B.ah.dropWhile (aT B.aj)) B (jr J rr) 0 (by rw[Oq];exact aa dwl rfl) (W.le (by refine aa Nx ?_;exact(LA [_,_,_,_] (.a V0 V1) (.a V0 V2) (.a V1 V3) V2 rfl (Ny lad)))) hn (fun o ho e=>by
  have:=b8 (N6.mp ho)
  clear ho;subst e;exact gz this) j0.jr (aH ((B.ah.dropWhile (aT B.aj)).length:Int) ((bO B.ah).length:Int) 1) (fun i hi=>by
   rw[Nx]at hi;rw[O0,rg];exact aa (if_pos hi) rfl) (by refine aa Nx ?_;rw[O0,rg];exact aa (if_neg (Oc _)) rfl)
 refine⟨J',jk,sc,nN,fun K=>?_⟩;have len:(bO B.ah).length=B.ah.length:=by simp
 have sm:small ((bO B.ah).length:Int)=true:=aS (by refine aa len ?_;exact(LA [_] (Sx V0) (.k 1000000000) (Sx V0) (.k 999900) rfl F4));have hY:(bO B.ah).length<ab:=aE (by refine aa len ?_;exact H8 F4);have sm2:(true&&small ((bO B.ah).length:Int)&&true)=true:=by refine aa sm ?_;rfl
 have rl0:(aH 0 ((bO B.ah).length:Int) 1).length=B.ah.length:=by exact aa f_ (aa len rfl)
 refine bd (iV j0) (fT hY (fT sm (fT sm2 ?_)))
 have tk:∀j,j<B.ah.length→∃a,B.ah.drop (B.ah.length-(j+1))=a::B.ah.drop (B.ah.length-j)∧(bO B.ah)[j]?=some (AV.int (eU (fun k=>k) a)):=fun j hj=>by
  have h1:B.ah.length-(j+1)<B.ah.length:=Fu hj;refine⟨B.ah[B.ah.length-(j+1)],?_,?_⟩
  ·exact aa (OG h1) (aa (show B.ah.length-(j+1)+1=B.ah.length-j by exact C_ hj) rfl)
  ·refine aa (Nz) (aa (OS hj) (aa (show B.ah.length-1-j=B.ah.length-(j+1) by exact Fw) (aa (NP h1) ?_)));rfl
 have z:(([]:List AV),())=((aK pk (B.ah.drop (B.ah.length-0))).map fun(n:Nat)=>AV.int ((n:Int)+1),()):=by rw[Nat.sub_zero];refine aa List.drop_length ?_;rfl
 refine(eI B.ah.length (fun j=>((aK pk (B.ah.drop (B.ah.length-j))).map fun(n:Nat)=>AV.int ((n:Int)+1),())) (fun _=>ag C (au B) J) z rfl ?_ ?_).trans ?_
 ·exact Ol (Ny rl0.symm)
 ·intro j hj go;refine ar (tk j hj) fun a e ga=>?_
  have al:((aK pk (B.ah.drop (B.ah.length-j))).map fun(n:Nat)=>AV.int ((n:Int)+1)).length<ab:=aE (by
   rw[Nn];have:=cv (p:=pk) (l:=B.ah.drop (B.ah.length-j));rw[Oj]at this;exact NA (N1 this (Nat.sub_le _ _)) (N_ F4 (by decide)))
  have dl:(B.ah.drop (B.ah.length-j)).length=j:=by refine aa Oj ?_;exact Ft hj
  have it:=bp ga (by exact(LA [_,_] (Sx V0) (.k 1000000000) (.a (Sx V0) (Sx V1)) (.a V1 (.k 999900)) rfl (Nq hj F4)));refine oS (cJ.trans (if_pos (show j<(bO B.ah).length from len.symm▸hj))) (bd rfl (bd (iV j0) (bd it (bd rfl ?_))));refine aa e (aa cu ?_);clear e ga hj hn jk lad nN rg rl0 sc sm2 tk z;cases a with
  |none=>refine cT (dT rfl) (fT al ?_);refine aa Nu (aa (if_pos (show pk none=true from rfl)) (aa dl ?_));rfl
  |some k=>
   refine cF (dF (by show¬((k:Int)=-1);exact sr)) (bd (iV j0) (bd it (bd rfl (bd (Di j0 (r:=J.r7)) ?_))));by_cases hk:k∈B.aj
   ·refine cT (dT hk) (fT al ?_);refine aa (if_pos (show pk (some k)=true by show(!decide (k∉B.aj))=true;simp[hk])) (aa Nu (aa dl ?_));rfl
   ·refine cF (dF hk) ?_;refine aa (if_neg (by show¬(!decide (k∉B.aj))=true;simp[hk])) ?_;rw[N7]
 ·refine oN (cJ.trans (if_neg (show¬B.ah.length<(bO B.ah).length from len.symm▸Oc _))) ?_;dsimp only;rw[Nat.sub_self];refine aa List.drop_zero ?_;have pl:=cv (p:=pk) (l:=B.ah);have al:((aK pk B.ah).map fun(n:Nat)=>AV.int ((n:Int)+1)).length<ab:=aE (by rw[Nn];exact sq pl F4);refine fT al (bd (d9 (J:=J)) (bd (rB (J:=J)) (fT (aE (by simp;exact(LA [_,_] (Sx (Sx V0)) (.k 1000000) (.a V0 (Sx V1)) (.a V1 (.k 999900)) rfl (Nq pl F4)))) (bd (d9 (J:=J)) (bd (t:=0::(aK pk B.ah).map fun(n:Nat)=>(n:Int)+1) ?_ (bd gL (bd (Bv j0 (r:=rr)) (fT hY ?_))))))))
  ·have:=bI (f:=fun x:Int=>x) (l:=0::(aK pk B.ah).map fun(n:Nat)=>(n:Int)+1);simp only[Of,List.map_map,List.map_id']at this;exact this
  ·refine aa (show aQ pk B.ah+1=((B.ah.dropWhile (aT B.aj)).length:Int)from gC) ?_;have sd:small ((B.ah.dropWhile (aT B.aj)).length:Int)=true:=aS (by exact(LA [_,_,_] (Sx V0) (.k 1000000000) (.a (.a V1 V0) (Sx V2)) (.a V2 (.k 999900)) rfl (Nq (Ny lad) F4)))
   have rl:(aH ((B.ah.dropWhile (aT B.aj)).length:Int) ((bO B.ah).length:Int) 1).length=(B.ah.takeWhile (aT B.aj)).length:=by
    unfold aH;refine aa (if_pos rfl) ?_;rw[Nn];refine aa N0 (aa len ?_);exact FC lad
   have s2:(small ((B.ah.dropWhile (aT B.aj)).length:Int)&&small ((bO B.ah).length:Int))=true:=by refine aa sd (aa sm ?_);rfl
   have s3:(small ((B.ah.dropWhile (aT B.aj)).length:Int)&&small ((bO B.ah).length:Int)&&true)=true:=by refine aa sd (aa sm ?_);rfl
   have oq:cD ((aH ((B.ah.dropWhile (aT B.aj)).length:Int) ((bO B.ah).length:Int) 1).length+1)=(B.ah.takeWhile (aT B.aj)).reverse.length+1+0:=by rw[gJ];exact aa rl (aa Nx rfl)
   exact fT s2 (fT s3 ((congrArg (fun c=>bK _ c _ _ _) oq).trans (hr K J.r7.length 0)))
end
def hW:List Str:=q "html"::q "body"::(eQ++cq++bZ)
structure dM (X:Tr):Prop where
 bC:(List.range X.N).filter (fun i=>(X.rk i).isSome)=(List.range X.n).map X.id
 BF:X.av 0=[X.id 0]
 kp:∀i c,i<X.N→c∈X.av i→X.par c=(i:Int)
 kn:∀i,i<X.N→(X.av i).Nodup
 tot:X.N=2+((List.range X.n).map fun k=>(X.av (X.id k)).length).sum
 E1:∀k,k<X.n→k≠1→X.nm k∈hW
 Ic:X.nm 1=q "head"
 Fh:∀i,i<X.N→PyData.strOk (X.tx i)=true
theorem dM.nN{X:Tr}(I:dM X):X.n≤X.N:=by
 have:=congrArg List.length I.bC;rw[Nn,N0]at this;have h:=List.length_filter_le (fun i=>(X.rk i).isSome) (List.range X.N);rw[N0]at h;exact le_of_eq_of_le (id (Eq.symm this)) h
theorem oZ{f g:Nat→Nat}{k:Nat}(hk:g k=f k+1)(ho:∀j,j≠k→g j=f j):∀{n:Nat},k<n→((List.range n).map g).sum=((List.range n).map f).sum+1
 |0=>fun h=>absurd h (OZ _)
 |n+1=>fun h=>by
  refine aa OW (aa Nu (aa Nu (aa List.sum_append (aa List.sum_append ?_))));by_cases e:k=n
  ·subst e;have:(List.range k).map g=(List.range k).map f:=NY fun j hj=>ho j (by have:=NV.mp hj;exact Oa (by assumption));refine aa this (aa OU (aa OU (aa List.sum_singleton (aa List.sum_singleton (aa hk ?_)))));exact Fv
  ·have ih:=oZ hk ho (n:=n) (eV h e);refine aa ih (aa OU (aa OU (aa List.sum_singleton (aa List.sum_singleton (aa (ho n (fun x=>e x.symm)) ?_)))));exact Ih
theorem dB{X:Tr}{p i:Nat}(hp:p<X.N)(hi:i<X.N+1):
 aN (aN X.av X.N []) p (aN X.av X.N [] p++[X.N]) i=if i=p then X.av p++[X.N]else if i=X.N then[]else X.av i:=by
 by_cases e:i=p
 ·subst e;exact aa az (aa (ay (gT hp)) (aa (if_pos rfl) rfl))
 ·refine aa (ay e) (aa (if_neg e) ?_);by_cases e2:i=X.N
  ·refine aa e2 ?_;exact aa az (aa (if_pos rfl) rfl)
  ·exact aa (ay e2) (aa (if_neg e2) rfl)
section
variable{X:Tr}{x:Str}{l:List cj}{k:Nat}
theorem v_(I:dM X){p:Nat}(hp:p<X.N)(kc:∀i c,i<X.N→c∈X.av i→0<c∧c<X.N):∀i c,i<X.N+1→c∈aN (aN X.av X.N []) p (aN X.av X.N [] p++[X.N]) i→aN (aN X.par X.N (-1)) X.N (p:Int) c=(i:Int):=by
 intro i c hi hc;rw[dB hp hi]at hc
 have old:∀{i},i<X.N→c∈X.av i→aN (aN X.par X.N (-1)) X.N (p:Int) c=(i:Int):=fun{i}h h'=>by
  have:=(kc i c h h').2;refine aa (ay (gT this)) (aa (ay (gT this)) ?_);exact I.kp i c h h'
 split at hc
 ·subst i;rcases Nw.mp hc with h|h
  ·exact old hp h
  ·exact aa (NX.mp h) (aa az rfl)
 ·split at hc
  ·cases hc
  ·exact old (by lia) hc
theorem v9(I:dM X){p:Nat}(hp:p<X.N)(kc:∀i c,i<X.N→c∈X.av i→0<c∧c<X.N):∀i,i<X.N+1→(aN (aN X.av X.N []) p (aN X.av X.N [] p++[X.N]) i).Nodup:=by
 intro i hi;refine aa (dB hp hi) ?_;split
 ·refine Oh.mpr ⟨I.kn _ hp,NZ.mpr ⟨OK,List.nodup_nil⟩,fun a ha c hc e=>?_⟩;rw[NX.mp hc]at e;have:=(kc p a hp ha).2;exact J8 this e
 ·split
  ·exact List.nodup_nil
  ·exact I.kn i (by lia)
theorem m_(I:dM X){p:Nat}(hp:p<X.N)(p0:0<p):aN (aN X.av X.N []) p (aN X.av X.N [] p++[X.N]) 0=[X.id 0]:=by
 exact aa (dB hp (Nat.zero_lt_succ _)) (aa (if_neg (Oa p0)) (aa (if_neg (Na hp)) (aa I.BF rfl)))
theorem dM.new(I:dM X)(U:eP X)(kc:∀i c,i<X.N→c∈X.av i→0<c∧c<X.N) (n2:2<X.n) (hk:k<X.n) (hx:x∈hW):dM ((X.bo x l).link X.N (X.id k))where
 bC:=by
  show(List.range (X.N+1)).filter (fun i=>(aN X.rk X.N (some X.n) i).isSome)=(List.range (X.n+1)).map (aN X.id X.n X.N);rw[OW,OW,List.filter_append,Nu];have e1:(List.range X.N).filter (fun i=>(aN X.rk X.N (some X.n) i).isSome)=(List.range X.N).filter (fun i=>(X.rk i).isSome):=List.filter_congr fun i hi=>by rw[ay (by have:=NV.mp hi;exact Oa (by assumption))]
  have e2:(List.range X.n).map (aN X.id X.n X.N)=(List.range X.n).map X.id:=NY fun i hi=>ay (by have:=NV.mp hi;(first|assumption|exact NQ _|exact Ov _|exact NT _|exact Oe _|exact Nat.succ_pos _|exact NS (by assumption)|exact NJ (by assumption) (by assumption)|exact NA (by assumption) (by assumption)|exact N1 (by assumption) (by assumption)|exact N_ (by assumption) (by assumption)|exact OA (by assumption)|exact Nat.succ_le_of_lt (by assumption)|exact Ol (by assumption)|exact O1 (by assumption)|exact O7 (by assumption)|exact O2 (by assumption)|exact Om (by assumption)|exact Nat.succ_ne_zero _|exact Oa (by assumption)|exact OY (by assumption)|exact absurd (by assumption) (Oc _)|exact Nat.le_add_right _ _|exact Nat.le_add_left _ _|exact O9 (by assumption) (by assumption)|exact O8 _ _|exact OA (NJ (by assumption) (by assumption))|rfl|fail));rw[e1,e2,I.bC,ON,az,OU,az];rfl
 BF:=(m_ I (U.lt k hk) (U.pos k hk)).trans (by
  show _=[aN X.id X.n X.N 0];rw[ay (by exact Ne.symm (Nat.ne_zero_of_lt n2))])
 kp:=v_ I (U.lt k hk) kc
 kn:=v9 I (U.lt k hk) kc
 tot:=by
  show X.N+1=2+((List.range (X.n+1)).map fun j=>(aN (aN X.av X.N []) (X.id k) (aN X.av X.N [] (X.id k)++[X.N]) (aN X.id X.n X.N j)).length).sum;have idk:=U.lt k hk;rw[OW,Nu,List.sum_append,OU,List.sum_singleton,az,dB idk (NT _),if_neg (by exact Nat.ne_of_lt' idk),if_pos rfl]
  have e:(List.range X.n).map (fun j=>(aN (aN X.av X.N []) (X.id k) (aN X.av X.N [] (X.id k)++[X.N]) (aN X.id X.n X.N j)).length)=(List.range X.n).map fun j=>if j=k then(X.av (X.id j)).length+1 else(X.av (X.id j)).length:=NY fun j hj=>by
   have hj:=NV.mp hj;have lj:=U.lt j hj;rw[show aN X.id X.n X.N j=X.id j from ay (by exact gT hj),dB idk (by exact Df lj)];by_cases e:j=k
   ·rw[e];rw[if_pos rfl,if_pos rfl,NH];rfl
   ·rw[if_neg (fun h=>e (U.inj hj hk h)),if_neg (by exact Ma lj),if_neg e]
  rw[e,oZ (f:=fun j=>(X.av (X.id j)).length) (k:=k) (by rw[if_pos rfl]) (fun j hj=>if_neg hj) hk];have:=I.tot;simp only[List.length_nil];exact Nat.add_left_inj.mpr this
 E1 j hj h1:=by
  show aN X.nm X.n x j∈hW;by_cases e:j=X.n
  ·rw[e];rw[az];exact hx
  ·rw[ay e];exact I.E1 j (by have:j<X.n+1:=hj;exact eV this e) h1
 Ic:=by
  show aN X.nm X.n x 1=q "head";rw[ay (by exact(Oa (LA [_] (Sx (.k 1)) V0 (Sx (.k 2)) V0 rfl n2)))];exact I.Ic
 Fh i hi:=by
  show PyData.strOk (aN X.tx X.N (q "") i)=true;by_cases e:i=X.N
  ·rw[e];rw[az];decide+kernel
  ·rw[ay e];exact I.Fh i (by have:i<X.N+1:=hi;exact eV this e)
theorem dM.rM(I:dM X)(U:eP X)(kc:∀i c,i<X.N→c∈X.av i→0<c∧c<X.N) (hk:k<X.n) {t:Str} (ht:PyData.strOk t=true):dM ((X.bq t).link X.N (X.id k))where
 bC:=by
  show(List.range (X.N+1)).filter (fun i=>(aN X.rk X.N none i).isSome)=(List.range X.n).map X.id;rw[OW,List.filter_append];have e1:(List.range X.N).filter (fun i=>(aN X.rk X.N none i).isSome)=(List.range X.N).filter (fun i=>(X.rk i).isSome):=List.filter_congr fun i hi=>by exact aa (ay (by have:=NV.mp hi;exact gT this)) rfl
  refine aa e1 (aa I.bC (aa ON (aa az ?_)));exact N7 _
 BF:=m_ I (U.lt k hk) (U.pos k hk)
 kp:=v_ I (U.lt k hk) kc
 kn:=v9 I (U.lt k hk) kc
 tot:=by
  show X.N+1=2+((List.range X.n).map fun j=>(aN (aN X.av X.N []) (X.id k) (aN X.av X.N [] (X.id k)++[X.N]) (X.id j)).length).sum
  have e:(List.range X.n).map (fun j=>(aN (aN X.av X.N []) (X.id k) (aN X.av X.N [] (X.id k)++[X.N]) (X.id j)).length)=(List.range X.n).map fun j=>if j=k then(X.av (X.id j)).length+1 else(X.av (X.id j)).length:=NY fun j hj=>by
   have hj:=NV.mp hj;have lj:=U.lt j hj;refine aa (dB (U.lt k hk) (Df lj)) ?_;by_cases e:j=k
   ·rw[e];rw[if_pos rfl,if_pos rfl,NH];rfl
   ·rw[if_neg (fun h=>e (U.inj hj hk h)),if_neg (Ma lj),if_neg e]
  rw[e,oZ (f:=fun j=>(X.av (X.id j)).length) (k:=k) (by rw[if_pos rfl]) (fun j hj=>if_neg hj) hk];have:=I.tot;exact Nat.add_left_inj.mpr this
 E1:=I.E1
 Ic:=I.Ic
 Fh i hi:=by
  show PyData.strOk (aN X.tx X.N t i)=true;by_cases e:i=X.N
  ·rw[e];rw[az];exact ht
  ·rw[ay e];exact I.Fh i (by have:i<X.N+1:=hi;exact eV this e)
theorem zD{a c:Str}(ha:PyData.strOk a=true)(hc:PyData.strOk c=true):PyData.strOk (a++c)=true:=by
 show(a.cps++c.cps).all _=true;refine aa Array.all_append ?_;rw[ND];exact⟨ha,hc⟩
theorem dM.ext(I:dM X){d:Nat}{t:Str}(hd:d<X.N)(ht:PyData.strOk t=true):dM {X with tx:=aN X.tx d (X.tx d++t)}:=
 {I with
  Fh:=fun i hi=>by
   refine(?_:PyData.strOk (aN X.tx d (X.tx d++t) i)=true);by_cases e:i=d
   ·refine bR e ?_;refine aa az ?_;exact zD (I.Fh i hi) ht
   ·refine aa (ay e) ?_;exact I.Fh i hi}
end
section
variable{B:Bs}{b:Nat}
theorem dM.aI(I:dM B.X)(W:Ok B b){x:Str}{l:List cj}(hx:x∈hW):dM (aI x l B).X:=by
 unfold Hx.aI;cases eo:B.aj with
 |nil=>exact absurd eo W.ne
 |cons k r=>exact I.new W.U W.kc W.n2 (W.hk k (by refine aa eo ?_;exact .head _)) hx
theorem dM.a9(I:dM B.X)(W:Ok B b){t:Str}(ht:PyData.strOk t=true):dM (a9 t B).X:=by
 cases eo:B.aj with
 |nil=>exact absurd eo W.ne
 |cons k r=>
  have kn:=W.hk k (by refine aa eo ?_;exact .head _);unfold Hx.a9;refine aa eo ?_;dsimp only;cases e:(B.X.av (B.X.id k)).getLast? with
  |none=>exact I.rM W.U W.kc kn ht
  |some c=>
   dsimp only;cases er:B.X.rk c with
   |some z=>exact I.rM W.U W.kc kn ht
   |none=>exact I.ext (W.kc _ c (W.U.lt k kn) (List.mem_of_getLast? e)).2 ht
theorem dM.fN:∀(ks done:List (Option Nat))(B:Bs),dM B.X→B.ah=ks.reverse++done→Ok B (b+ks.length)→(∀o∈ks,o≠.none)→dM (Hx.fN done ks B).X
 |[]=>fun done B I h W _=>I
 |.none::ks=>fun done B I h W hs=>absurd rfl (hs _ (.head _))
 |some k::ks=>fun done B I h W hs=>by
  have h':B.ah=ks.reverse++some k::done:=by refine aa h ?_;simp
  have W1:Ok B (b+ks.length+1):=W;have km:some k∈B.ah:=by refine aa h' ?_;simp
  exact dM.fN ks (some B.X.n::done) {Hx.aI (B.X.nm k) (B.X.bc k) B with ah:=ks.reverse++some B.X.n::done} (I.aI W (I.E1 k (W.hl k km) (by have:=(W.l2 k km).1;exact Kz this))) rfl (W1.re h') (fun o ho=>hs o (.tail _ ho))
theorem dM.aP(I:dM B.X)(W:Ok B (b+B.ah.length)):dM (Hx.aP B).X:=by
 refine dM.fN (b:=b) _ _ B I ?_ (W.le ?_) ?_
 ·rw[Oq];exact aa NB rfl
 ·refine aa Nx ?_;have:=gk (p:=aT B.aj) (l:=B.ah);exact vj this
 ·intro o ho e;have:=b8 (N6.mp ho);clear ho;subst e;exact gz this
end
theorem bb{α:Type}{H:AH}{n:Nat}{f:α→AV}{g:α→PyData}:∀{l:List α},(∀a∈l,toPy H n (f a)=some (g a))→gj (toPy H n) (l.map f)=some (l.map g)
 |[]=>fun _=>rfl
 |a::l=>fun h=>by
  refine bd (h a (.head _)) ?_;exact aa (bb fun c hc=>h c (.tail _ hc)) rfl
theorem br{α:Type}{g:α→PyData}:∀{l:List α},(∀a∈l,(g a).canLay0=true)→PyData.canLayAll0 (l.map g)=true
 |[]=>fun _=>by simp[PyData.canLayAll0]
 |a::l=>fun h=>by
  refine aa Of ?_;rw[PyData.canLayAll0];refine aa (h a (.head _)) (aa (br fun c hc=>h c (.tail _ hc)) ?_);rfl
theorem fy{l:List PyData}(h:PyData.canLayAll0 l=true):(PyData.list l).canLay0=true:=by rw[PyData.canLay0];exact h
theorem oo{l:List PyData}(h:PyData.canLayAll0 l=true):(PyData.tuple l).canLay0=true:=by rw[PyData.canLay0];exact h
theorem iP{i:Int}:(PyData.int i).canLay0=true:=by rw[PyData.canLay0]
theorem g_{s:Str}(h:PyData.strOk s=true):(PyData.str s).canLay0=true:=by rw[PyData.canLay0];exact h
theorem iD{H:AH}{n r i:Nat}{xs:List AV}{ds:List PyData}(h:ae H r i=some xs)(d:gj (toPy H n) xs=some ds):toPy H (n+1) (.loc r i)=some (.list ds):=bd h (by exact aa d rfl)
theorem uz{H:AH}{r i r' i':Nat}{xs ys:List AV}{ds es:List PyData}(h1:ae H r i=some xs)(h2:ae H r' i'=some ys)(d1:gj (toPy H 6) xs=some ds)(d2:gj (toPy H 6) ys=some es)(o1:PyData.canLayAll0 ds=true)(o2:PyData.canLayAll0 es=true):
 fg H (.loc r i) (.loc r' i')=some (PyData.eqvAll ds es):=by
 refine bd (iD (n:=6) h1 d1) (bd (iD (n:=6) h2 d2) ?_);refine(?_:(if((PyData.list ds).canLay0&&(PyData.list es).canLay0)=true then some (PyData.eqv (.list ds) (.list es))else none)=_);refine aa (fy o1) (aa (fy o2) ?_);exact(if_pos rfl).trans (by rw[PyData.eqv])
theorem GV{ds:List PyData}:PyData.eqvAll ds []=ds.isEmpty:=by cases ds<;>simp[PyData.eqvAll]
noncomputable def dK:Nat⊕Str→PyData
 |.inl k=>.int (k:Int)
 |.inr s=>.str s
theorem vf{H:AH}{n:Nat}{a:Nat⊕Str}:toPy H (n+1) (h_ a)=some (dK a):=by cases a<;>rfl
theorem uP{l:List AV}{v:AV}(h:l.getLast?=some v):ai l (.int (-1))=some v:=by
 refine xE (List.getLast?_eq_some_iff.mp h) fun r e'1=>?_;refine aa e'1 ?_;exact eF
theorem Bf{H:AH}{k j:Nat}{l:List (Nat⊕Str)}(h1:ae H 4 k=some (l.map h_))(h2:ae H 7 j=some [])(ok:∀a∈l,(dK a).canLay0=true):fg H (.loc 4 k) (.loc 7 j)=some l.isEmpty:=by
 refine(uz (es:=[]) h1 h2 (bb (g:=dK) fun a _=>vf) rfl (br ok) (br (g:=dK) (l:=[]) fun _ h=>nomatch h)).trans ?_;cases l<;>rfl
section
variable{B C:Bs}{J:Jk}{b:Nat}
theorem v5(I:dM B.X)(W:Ok B b){k:Nat}(hk:k<B.X.n){a:Nat⊕Str}(h:a∈(au B).av k):(dK a).canLay0=true:=by
 refine ar (NU.mp h) fun c hc e'2=>?_;clear h;subst e'2;unfold bw;cases B.X.rk c with
 |some z=>exact iP
 |none=>exact g_ (I.Fh c (W.kc _ c (W.U.lt k hk) hc).2)
theorem Aw(W:Ok B b){k:Nat}(hk:k<B.X.n){t:Str}:
 Iy {au B with av:=aN (au B).av k ((au B).av k++[.inr t])} (au {B with X:=(B.X.bq t).link B.X.N (B.X.id k)}):=by
 refine⟨rfl,fun _ _=>rfl,fun _ _=>rfl,fun i hi=>?_,rfl,rfl⟩;have hi:i<B.X.n:=hi;refine(?_:aN (au B).av k ((au B).av k++[.inr t]) i=(aN (aN B.X.av B.X.N []) (B.X.id k) (aN B.X.av B.X.N [] (B.X.id k)++[B.X.N]) (B.X.id i)).map (bw (B.X.bq t)))
 have old:∀{p},p<B.X.N→(B.X.av p).map (bw (B.X.bq t))=(B.X.av p).map (bw B.X):=fun{p}hp=>NY fun c hc=>by
  have:=(W.kc p c hp hc).2;unfold bw;exact aa (show(B.X.bq t).rk c=B.X.rk c from ay (gT this)) (aa (show(B.X.bq t).tx c=B.X.tx c from ay (gT this)) rfl)
 refine aa (dB (W.U.lt k hk) (by have:=W.U.lt i hi;exact O2 (by assumption))) ?_;by_cases e:i=k
 ·refine aa e ?_;refine aa az (aa (if_pos rfl) (aa Nu (aa (old (W.U.lt k hk)) ?_)));have:bw (B.X.bq t) B.X.N=.inr t:=by unfold bw;exact aa (show(B.X.bq t).rk B.X.N=none from az) (aa (show(B.X.bq t).tx B.X.N=t from az) rfl)
  refine aa OU (aa this ?_);rfl
 ·refine aa (ay e) (aa (if_neg (fun h=>e (W.U.inj hi hk h))) (aa (if_neg (by have:=W.U.lt i hi;exact Ma this)) (aa (old (W.U.lt i hi)) ?_)));rfl
theorem nr{α β:Type}{f g:α→β}:∀{l:List α}{d:α},l.getLast?=some d→l.Nodup→(∀c,c≠d→g c=f c)→(l.map f).set (l.length-1) (g d)=l.map g
 |[],d=>fun h _ _=>by cases h
 |[a],d=>fun h _ _=>by cases h;rfl
 |a::c::l,d=>fun h hn hf=>by
  have h2:(c::l).getLast?=some d:=by rw[List.getLast?_cons_cons]at h;exact h
  have:=nr h2 (NZ.mp hn).2 hf;refine aa (show(a::c::l).length-1=((c::l).length-1)+1 by simp) (aa Of (aa List.set_cons_succ (aa this ?_)));refine(?_:f a::_=g a::_);exact aa (hf a (fun e=>(NZ.mp hn).1 (by refine aa e ?_;exact List.mem_of_getLast? h2))) rfl
theorem DP(I:dM B.X)(W:Ok B b){k d:Nat}(hk:k<B.X.n)(hd:(B.X.av (B.X.id k)).getLast?=some d)(hr:B.X.rk d=none){t:Str}:
 Iy {au B with av:=aN (au B).av k (((au B).av k).set ((B.X.av (B.X.id k)).length-1) (.inr (B.X.tx d++t)))} (au {B with X:={B.X with tx:=aN B.X.tx d (B.X.tx d++t)} }):=by
 refine⟨rfl,fun _ _=>rfl,fun _ _=>rfl,fun i hi=>?_,rfl,rfl⟩;have idk:=W.U.lt k hk;have dm:=List.mem_of_getLast? hd;refine(?_:aN (au B).av k (((au B).av k).set ((B.X.av (B.X.id k)).length-1) (.inr (B.X.tx d++t))) i=(B.X.av (B.X.id i)).map (bw {B.X with tx:=aN B.X.tx d (B.X.tx d++t)}))
 have ne:∀c,c≠d→bw {B.X with tx:=aN B.X.tx d (B.X.tx d++t)} c=bw B.X c:=fun c hc=>by
  show(match B.X.rk c with|some k=>_|none=>Sum.inr (aN B.X.tx d (B.X.tx d++t) c))=_;exact aa (ay hc) rfl<;>rfl
 by_cases e:i=k
 ·refine aa e ?_;refine aa az ?_
  have:(.inr (B.X.tx d++t):Nat⊕Str)=bw {B.X with tx:=aN B.X.tx d (B.X.tx d++t)} d:=by
   unfold bw;exact aa (show({B.X with tx:=aN B.X.tx d (B.X.tx d++t)}:Tr).rk d=none from hr) (aa (show({B.X with tx:=aN B.X.tx d (B.X.tx d++t)}:Tr).tx d=B.X.tx d++t from az) rfl)
  refine aa this ?_;exact nr hd (I.kn _ idk) ne
 ·refine aa (ay e) ?_;refine(NY fun c hc=>?_).symm;refine ne c fun h=>?_;clear hd hr ne;subst h;have h1:=I.kp _ c idk dm;rw[I.kp _ c (W.U.lt i hi) hc]at h1;exact e (W.U.inj hi hk (OM.mp h1))
theorem As(W:Ok B (b+2))(I:dM B.X)(j0:bL (au B) J){sg:Str}(hs:sg.length=1):
 ∃r,∀{ρ:Type}(K:Ku ρ),((ae (aw (ag C (au B) J)) 5 (ag C (au B) J).mopen).bind fun(x2:List AV)=>(ai x2 (AV.int (-1))).bind fun(x3:AV)=>x3.i?.bind fun(x4:Int)=>(ai (ag C (au B) J).mkids (AV.int x4)).bind fun(x5:AV)=>x5.l?.bind fun(x6:Nat×Nat)=>bif x6.fst.beq 4 then(Option.map (fun(x7:Bool)=>!x7) (fg (aw ((ag C (au B) J).aB ((ag C (au B) J).r7++[AO.list []]))) (AV.loc 4 x6.snd) (AV.loc 7 (ag C (au B) J).r7.length))).bind fun(x8:Bool)=>bif x8 then(ae (aw ((ag C (au B) J).aB ((ag C (au B) J).r7++[AO.list []]))) 4 x6.snd).bind fun(x9:List AV)=>(ai x9 (AV.int (-1))).bind fun(x10:AV)=>(isStr x10).bind fun(x11:Bool)=>bif x11 then(ae (aw ((ag C (au B) J).aB ((ag C (au B) J).r7++[AO.list []]))) 4 x6.snd).bind fun(x12:List AV)=>(ai x12 (AV.int (-1))).bind fun(x13:AV)=>x13.s?.bind fun(x14:Str)=>if x14.length+sg.length<ab then(ae (aw ((ag C (au B) J).aB ((ag C (au B) J).r7++[AO.list []]))) 4 x6.snd).bind fun(x15:List AV)=>(idx (-1) x15.length).bind fun(x16:Nat)=>K () (((ag C (au B) J).aB ((ag C (au B) J).r7++[AO.list []])).d5 ((ag C (au B) J).r4.set x6.snd (AO.list (x15.set x16 (AV.str (x14++sg))))))else none else(ae (aw ((ag C (au B) J).aB ((ag C (au B) J).r7++[AO.list []]))) 4 x6.snd).bind fun(x17:List AV)=>(ae (aw ((ag C (au B) J).aB ((ag C (au B) J).r7++[AO.list []]))) 4 x6.snd).bind fun(x18:List AV)=>if x18.length<ab then K () (((ag C (au B) J).aB ((ag C (au B) J).r7++[AO.list []])).d5 ((ag C (au B) J).r4.set x6.snd (AO.list (x18++[AV.str sg]))))else none else(ae (aw ((ag C (au B) J).aB ((ag C (au B) J).r7++[AO.list []]))) 4 x6.snd).bind fun(x19:List AV)=>(ae (aw ((ag C (au B) J).aB ((ag C (au B) J).r7++[AO.list []]))) 4 x6.snd).bind fun(x20:List AV)=>if x20.length<ab then K () (((ag C (au B) J).aB ((ag C (au B) J).r7++[AO.list []])).d5 ((ag C (au B) J).r4.set x6.snd (AO.list (x20++[AV.str sg]))))else none else none)=K () (ag C (au (a9 sg B)) (jr J r)):=by
 refine⟨J.r7++[.list []],fun K=>?_⟩;cases eo:B.aj with
 |nil=>exact absurd eo W.ne
 |cons k r=>
  have kn:=W.hk k (by refine aa eo ?_;exact .head _);have idk:=W.U.lt k kn;have Fm:gw (au B):=bN W I.nN;have n9:(au B).n<1000000:=by have:=Fm.n;exact NS (by assumption)
  have kg:ae (aw (ag C (au B) (jr J (J.r7++[.list []])))) 4 k=some (((au B).av k).map h_):=jE (M:=au B) kn;have hY:(((au B).av k).map h_).length<ab:=aE (by rw[Nn];have:=Fm.k k kn;exact o6 this)
  have eq0:fg (aw (ag C (au B) (jr J (J.r7++[.list []])))) (.loc 4 k) (.loc 7 J.r7.length)=some ((au B).av k).isEmpty:=by
   exact Bf kg (d9 (r:=J.r7) (l:=[])) fun a ha=>v5 I W kn ha
  have last:ai ((au B).aj.reverse.map a8) (.int (-1))=some (.int (k:Int)):=by
   rw[show(au B).aj=k::r from eo,NN,Nu];exact eF
  have app:St.d5 (ag C (au B) (jr J (J.r7++[.list []]))) ((ag C (au B) J).r4.set k (AO.list (((au B).av k).map h_++[AV.str sg])))=ag C (au {B with X:=(B.X.bq sg).link B.X.N (B.X.id k)}) (jr J (J.r7++[.list []])):=by
   rw[show((au B).av k).map h_++[AV.str sg]=((au B).av k++[Sum.inr sg]).map h_ by rw[Nu];rfl];exact(ow (M:=au B) (k:=k) (J:=jr J (J.r7++[.list []])) kn rfl).trans (Aw W kn).ag
  refine bd (fE j0) (bd last (bd rfl (bd (ET (M:=au B) kn n9) (bd rfl ?_))));dsimp only;refine bT rfl ?_;refine aa eq0 ?_;refine bd (t:=!((au B).av k).isEmpty) rfl ?_;have hm:(au B).av k=(B.X.av (B.X.id k)).map (bw B.X):=rfl;unfold a9;rw[eo];dsimp only;cases e:(B.X.av (B.X.id k)).getLast? with
  |none=>
   have e':=List.getLast?_eq_none_iff.mp e;refine cF (by rw[hm,e'];rfl) (bd kg (bd kg (fT hY ?_)));exact congrArg (K ()) app
  |some d=>
   have ne:(!((au B).av k).isEmpty)=true:=by
    rw[hm];cases h:B.X.av (B.X.id k)with
    |nil=>rw[h]at e;cases e
    |cons _ _=>rfl
   have la:ai (((au B).av k).map h_) (.int (-1))=some (h_ (bw B.X d)):=uP (by rw[hm,List.getLast?_map,List.getLast?_map,e];rfl);refine cT ne (bd kg (bd la ?_));dsimp only;cases er:B.X.rk d with
   |some z=>
    have:bw B.X d=.inl z:=by unfold bw;rw[er]
    rw[this];refine bd (t:=false) rfl (cF rfl (bd kg (bd kg (fT hY ?_))));exact congrArg (K ()) app
   |none=>
    have ek:bw B.X d=.inr (B.X.tx d):=by unfold bw;rw[er]
    rw[ek]at la⊢;have cl:(B.X.tx d).length+sg.length<ab:=N_ (show _<1000000 by have:=W.tN d;exact(LA [_,_,_] (Sx (.a V0 V1)) (.k 1000000) (.a (Sx (.a V0 V2)) V1) (Sx (.k 999900)) rfl (Nq this (Ny hs)))) (by decide)
    have il:idx (-1) (((au B).av k).map h_).length=some ((B.X.av (B.X.id k)).length-1):=by
     have:0<(B.X.av (B.X.id k)).length:=List.length_pos_of_mem (List.mem_of_getLast? e);rw[Nn,hm,Nn];unfold idx;rw[if_neg (by decide),if_pos (LI this)]
     congr 1;exact L2
    refine bd (t:=true) rfl (cT rfl (bd kg (bd la (bd rfl (fT cl (bd kg (bd il ?_)))))));refine congrArg (K ()) ?_;rw[show(((au B).av k).map h_).set ((B.X.av (B.X.id k)).length-1) (AV.str (B.X.tx d++sg))=(((au B).av k).set ((B.X.av (B.X.id k)).length-1) (Sum.inr (B.X.tx d++sg))).map h_ by rw[List.map_set];rfl];exact(ow (M:=au B) (k:=k) (J:=jr J (J.r7++[.list []])) kn rfl).trans (DP I W kn e er).ag
theorem DL(W:Ok B (b+2+B.ah.length))(I:dM B.X)(j0:bL (au B) J){sg:Str}(hs:sg.length=1):
 ∃J',bL (au (a9 sg (aP B))) J'∧J'.dg=J.dg∧∀{ρ:Type}(K:Ku ρ),gW sg (ag C (au B) J) K=K () (ag C (au (a9 sg (aP B))) J'):=by
 refine ma (gY (C:=C) (b:=b+1) W I.nN j0) fun J' j1 s1 _ h1=>?_;refine xE (As (C:=C) W.aP (I.aP (b:=b+2) W) j1 hs) fun r h2=>?_
 have ol:∀{Z:Bs},(a9 sg Z).aj=Z.aj∧(a9 sg Z).ah=Z.ah:=fun{Z}=>by
  unfold a9;split
  ·exact⟨rfl,rfl⟩
  ·split
   ·exact⟨rfl,rfl⟩
   ·split<;>exact⟨rfl,rfl⟩
 refine⟨jr J' r,⟨?_,?_⟩,s1,fun K=>(h1 _).trans (h2 K)⟩
 ·refine(?_:J'.r5[J'.mo]?=some (.list ((a9 sg (aP B)).aj.reverse.map a8)));refine aa ol.1 ?_;exact j1.op
 ·refine(?_:J'.r6[J'.ml]?=some (.list (bO (a9 sg (aP B)).ah)));refine aa ol.2 ?_;exact j1.ls
end
theorem cR{α ρ τ σ:Type}{step:(Nat→List AV×τ→σ→Option ρ)→Nat→List AV×τ→σ→Option ρ}(xs:List α)(f:α→AV)(p:α→Bool){c:τ}{s s0:σ}{n:Nat}{r:Option ρ}(h0:s0=s)(hn:n=xs.length+1)(hl:xs.length<1000000)
 (hs:∀go j acc a,xs[j]?=some a→acc.length<ab→step go j (acc,c) s=go (j+1) (cond (p a) (acc++[f a]) acc,c) s)
 (he:∀go,((xs.filter p).map f).length<ab→step go xs.length ((xs.filter p).map f,c) s=r):bK step (cD n) 0 ([],c) s0=r:=by
 refine aa hn ?_;refine aa h0 ?_
 have bound:∀j,(((xs.take j).filter p).map f).length<ab:=fun j=>aE (by
  rw[Nn];have h1:=List.length_filter_le p (xs.take j);have h3:=List.length_take_le' j xs;exact(LA [_,_,_,_] (Sx V0) V1 (.a (.a V0 V2) (Sx V3)) (.a (.a V2 V3) V1) rfl (Nq (Nq h1 h3) hl)))
 refine(bD xs.length (fun j=>(((xs.take j).filter p).map f,c)) (fun _=>s) (NT _) ?_).trans ?_
 ·intro j hj go;refine(hs go j _ _ (NP hj) (bound j)).trans ?_;refine aa List.take_add_one (aa (NP hj) ?_);rw[List.filter_append];refine aa Nu ?_;cases h:p xs[j]with
  |true=>rw[cond_true,Option.toList_some];refine aa ON (aa h ?_);rfl
  |false=>rw[cond_false,Option.toList_some];refine aa ON (aa h ?_);simp
 ·have:=bound xs.length;rw[List.take_length]at this;refine aa List.take_length ?_;exact he _ this
theorem cX{α:Type}{p:α→Bool}{a:α}{l:List α}:∀{pre:List α},(∀b∈pre,p b=false)→aQ p (pre++a::l)=aQ p (a::l)
 |[]=>fun _=>rfl
 |b::pre=>fun h=>by
  refine aa Oy ?_;rw[fk];refine aa (h b (.head _)) ?_;exact cX fun c hc=>h c (.tail _ hc)
theorem f6{α:Type}{p:α→Bool}{a:α}{l:List α}(h:p a=true):aQ p (a::l)=(l.length:Int):=by rw[fk];exact aa h rfl
theorem gA{α:Type}{p:α→Bool}{a:α}{l:List α}(h:p a=false):aQ p (a::l)=aQ p l:=by rw[fk];exact aa h rfl
theorem F7{α:Type}{p q:α→Bool}:∀{l:List α},(∀a∈l,p a=q a)→aQ p l=aQ q l:=by
 intro l
 induction l with
 |nil=>exact fun _=>rfl
 |cons a l ih=>exact fun h=>by rw[fk,fk];exact aa (h a (.head _)) (aa (ih fun c hc=>h c (.tail _ hc)) rfl)
def fF(x:Str):Bool:=(bg (.str x) [AV.str (q "rt"),AV.str (q "rp"),AV.str (q "rb"),AV.str (q "rtc"),AV.str (q "optgroup"),AV.str (q "option")]).getD false
def cw(x:Str):Bool:=(bg (.str x) [AV.str (q "html"),AV.str (q "applet"),AV.str (q "marquee"),AV.str (q "object"),AV.str (q "table")]).getD false
def mj(x:Str):Bool:=(bg (.str x) [AV.str (q "html"),AV.str (q "body"),AV.str (q "applet"),AV.str (q "marquee"),AV.str (q "object"),AV.str (q "table")]).getD false
theorem Bz(x:Str):bg (.str x) [AV.str (q "rt"),AV.str (q "rp"),AV.str (q "rb"),AV.str (q "rtc"),AV.str (q "optgroup"),AV.str (q "option")]=some (fF x):=rfl
theorem lX(x:Str):bg (.str x) [AV.str (q "html"),AV.str (q "applet"),AV.str (q "marquee"),AV.str (q "object"),AV.str (q "table")]=some (cw x):=rfl
theorem DX(x:Str):bg (.str x) [AV.str (q "html"),AV.str (q "body"),AV.str (q "applet"),AV.str (q "marquee"),AV.str (q "object"),AV.str (q "table")]=some (mj x):=rfl
theorem kB:∀x∈hW,impl x=fF x∧cO x=cw x∧i7 x=mj x:=by decide+kernel
theorem u4{x y:Str}:bg (.str y) [AV.str x]=some (decide (x=y)):=by
 show some ((x==y)||false)=_;rw[Bool.or_false];rfl
section
variable{B C:Bs}{M:Ms}{J:Jk}{b:Nat}
theorem Ok.rR(W:Ok B b)(I:dM B.X){k:Nat}(h:k∈B.aj):B.X.nm k∈hW:=I.E1 k (W.hk k h) fun e=>by
 subst e;refine ar (W.bot) fun t e ht=>?_;rw[e]at h;rcases Nw.mp h with x|x
 ·have:=ht 1 x;exact M9 this
 ·simp at x
theorem lq{H:AH}{i j:Nat}{l:List Nat}(h1:ae H 7 i=some (l.map a8))(h2:ae H 7 j=some []):fg H (.loc 7 i) (.loc 7 j)=some l.isEmpty:=by
 refine(uz (es:=[]) h1 h2 (bb (g:=fun k:Nat=>PyData.int (k:Int)) fun a _=>rfl) rfl (br (g:=fun k:Nat=>PyData.int (k:Int)) fun _ _=>iP) (br (g:=dK) (l:=[]) fun _ h=>nomatch h)).trans ?_;cases l<;>rfl
theorem lV{l:List AV}{k:Nat}:ax l (some (k:Int)) none=l.drop k:=by
 unfold ax clip;dsimp only;refine aa (if_neg (Int.not_ofNat_neg _)) ?_;rw[Int.toNat_natCast];refine aa List.take_length ?_;rcases Nat.le_total k l.length with h|h
 ·exact aa (Nat.min_eq_left h) rfl
 ·exact aa (Nat.min_eq_right h) (aa List.drop_length (aa (Oz h) rfl))
theorem gO{l:List AV}{k:Nat}:ax l none (some (k:Int))=l.take k:=by
 unfold ax clip;dsimp only;refine aa (if_neg (Int.not_ofNat_neg _)) ?_;rw[Int.toNat_natCast];refine aa List.drop_zero ?_;rcases Nat.le_total k l.length with h|h
 ·exact aa (Nat.min_eq_left h) rfl
 ·exact aa (Nat.min_eq_right h) (aa List.take_length (aa (List.take_of_length_le h) rfl))
def yW(pre:List Nat)(M:Ms):List Str:=if pre.all (fun b=>fF (M.nm b))then M.aq else M.aq++[q "open-elements"]
theorem cW{J':Jk}{w:Str}:(ag C M J).aX ((ag C M J').merrs++[.str w])=ag C {M with aq:=M.aq++[w]} J:=by
 refine aa (show([AV.str w]:List AV)=List.map AV.str [w]from rfl) ?_;refine bR Nu ?_
 rfl
theorem cY(F:gw M):(ag C M J).merrs.length<ab:=aE (by show(List.map _ _).length<_;rw[Nn];have:=F.e;exact NS (by assumption))
def lh(J:Jk)(l:List Nat)(r:List AO):Jk:={J with r7:=r,r5:=J.r5++[.list (l.reverse.map a8)],mo:=J.r5.length}
theorem bL.cut{M':Ms}(j:bL M J){l:List Nat}(ho:M'.aj=l)(h:M'.ah=M.ah){r:List AO}:bL M' (lh J l r):=⟨ho▸aG,h▸j.ls⟩
theorem vt(j0:bL M J)(F:gw M){pre l:List Nat}{a:Nat}(h:M.aj=pre++a::l):
 ∃r,∀{ρ:Type}(K:Ku ρ),iH (l.length:Int) (ag C M J) K=K () (ag C {M with aj:=l,aq:=yW pre M} (lh J l r)):=by
 have hlen:M.aj.length=pre.length+l.length+1:=by refine aa h ?_;simp;exact Fv
 have Fo:=F.o
 have sl:ax (M.aj.reverse.map a8) (some ((l.length:Int)+1)) none=pre.reverse.map a8:=by
  exact aa (show(l.length:Int)+1=((l.length+1:Nat):Int) by exact rfl) (aa lV (aa h (aa N3 (aa NN (aa Nu (aa (List.drop_left' (by simp)) rfl))))))
 have sh:ax (M.aj.reverse.map a8) none (some (l.length:Int))=l.reverse.map a8:=by
  refine aa gO (aa h ?_);simp
 have hY:(M.aj.reverse.map a8).length<ab:=aE (by rw[Nn];refine aa Nx ?_;exact NS (by assumption));have capp:(pre.reverse.map a8).length<ab:=aE (by rw[Nn];refine aa Nx ?_;exact(LA [_,_,_,_] (Sx V0) V1 (.a (Sx (Sx V2)) (Sx (.a V0 V3))) (.a V1 V2) rfl (Nq Fo (Ny hlen.symm))));have capl:(l.reverse.map a8).length<ab:=aE (by rw[Nn];refine aa Nx ?_;exact(LA [_,_,_,_] (Sx V0) V1 (.a (Sx (Sx V2)) (Sx (.a V3 V0))) (.a V1 V2) rfl (Nq Fo (Ny hlen.symm))));have sm1:small ((l.length:Int)+1)=true:=aS (n:=l.length+1) ((LA [_,_,_] (Sx (Sx V0)) (.k 1000000000) (.a (Sx (Sx V1)) (Sx (.a V2 V0))) (.a (.k 1000000) V1) rfl (Nq Fo (Ny hlen.symm))));have sm0:small (l.length:Int)=true:=aS ((LA [_,_,_] (Sx V0) (.k 1000000000) (.a (Sx (Sx V1)) (Sx (.a V2 V0))) (.a (.k 1000000) V1) rfl (Nq Fo (Ny hlen.symm))));let fl:=pre.reverse.filter (fun b=>!fF (M.nm b));refine⟨J.r7++[.list (pre.reverse.map a8)]++[.list (fl.map a8)]++[.list []],fun K=>?_⟩;have capp':(ax (M.aj.reverse.map a8) (some ((l.length:Int)+1)) none).length<ab:=sl▸capp;have g70:ae (aw (ag C M (jr J (J.r7++[.list (pre.reverse.map a8)])))) 7 J.r7.length=some (pre.reverse.map a8):=d9;have es:(ag C M J).aB ((ag C M J).r7++[AO.list (ax (M.aj.reverse.map a8) (some ((l.length:Int)+1)) none)])=ag C M (jr J (J.r7++[.list (pre.reverse.map a8)])):=by refine aa sl ?_;rfl
 have g70':=(congrArg (fun s=>ae (aw s) 7 J.r7.length) es).trans g70;refine fT sm1 (bd (fE j0) (fT hY (fT capp' (bd g70' ?_))));refine cR pre.reverse a8 (fun b=>!fF (M.nm b)) es (by rw[Nn]) (by refine aa Nx ?_;exact(LA [_,_,_,_] (Sx V0) V1 (.a (Sx (Sx V2)) (Sx (.a V0 V3))) (.a V1 V2) rfl (Nq Fo (Ny hlen.symm)))) ?_ ?_
 ·intro go j acc b hb hacc;have bm:b∈M.aj:=by refine aa h ?_;exact Nr _ (N6.mp (Oo hb))
  refine bd (t:=some (a8 b)) (bd g70 ((if_pos rfl).trans (by refine aa (Nz) (aa hb ?_);rfl))) (oS rfl (bd (iz (F.hk b bm) (by have:=F.n;exact o6 this)) (bd rfl (bd (t:=!fF (M.nm b)) (by dsimp only;rw[Bz];rfl) ?_))));cases fF (M.nm b)with
  |true=>rfl
  |false=>exact fT hacc rfl
 ·intro go hacc;refine bd (t:=none) (bd g70 ((if_pos rfl).trans (by exact aa (NO (by simp)) rfl))) (oN rfl (fT hacc ?_))
  have eq0:fg (aw (ag C M (jr J (J.r7++[.list (pre.reverse.map a8)]++[.list (fl.map a8)]++[.list []])))) (.loc 7 (J.r7++[AO.list (pre.reverse.map a8)]).length) (.loc 7 (J.r7++[AO.list (pre.reverse.map a8)]++[AO.list (fl.map a8)]).length)=some fl.isEmpty:=by
   exact lq (rB (l:=fl.map a8) (m:=[])) d9
  refine bd (t:=!fl.isEmpty) ((congrArg (Option.map fun x=>!x) eq0).trans rfl) ?_
  have fe:fl.isEmpty=pre.all fun b=>fF (M.nm b):=by
   rw[OL,List.isEmpty_iff,List.filter_eq_nil_iff,N5];exact⟨fun z b hb=>by simpa using z b (N6.mpr hb),fun z b hb=>by simpa using z b (N6.mp hb)⟩
  unfold yW;rw[←fe];have capl':(ax (M.aj.reverse.map a8) none (some (l.length:Int))).length<ab:=sh.symm▸capl;cases hz:fl.isEmpty with
  |true=>
   exact cF rfl (fT sm0 (bd (G5 j0) (fT hY (fT capl' (congrArg (fun z=>K () (ag C {M with aj:=l} {J with r7:=J.r7++[.list (pre.reverse.map a8)]++[.list (fl.map a8)]++[.list []],r5:=J.r5++[.list z],mo:=J.r5.length})) sh)))))
  |false=>
   refine cT rfl (fT (cY F) (fT sm0 (bd (G5 j0) (fT hY (fT capl' (congrArg (K ()) ?_))))));show St.cA (St.iE ((ag C M (jr J _)).aX ((ag C M (jr J _)).merrs++_)) _) _=_;refine aa sh (aa cW ?_);rfl
theorem Aq(W:Ok B (b+2))(I:dM B.X)(j0:bL (au B) J){x:Str}:
 ∃J',bL (au (eG x B)) J'∧J'.dg=J.dg∧∀{ρ:Type}(K:Ku ρ),ir x (ag C (au B) J) K=K () (ag C (au (eG x B)) J'):=by
 refine sk (W.wf.ug x) fun a l hd=>?_;have sp:=bB hd;have F:gw (au B):=bN W I.nN;have Fn:=F.n;refine xE (iu (B:=C) (ns:=[AV.str x]) (pn:=fun k=>decide (x=B.X.nm k)) j0 (o6 Fn) F.o F.hk fun k _=>u4) fun r1 h1=>?_;refine xE (iu (B:=C) (ns:=[AV.str (q "html"),AV.str (q "body"),AV.str (q "applet"),AV.str (q "marquee"),AV.str (q "object"),AV.str (q "table")]) (pn:=fun k=>mj (B.X.nm k)) (j0.jr (r:=r1)) (o6 Fn) F.o F.hk fun k _=>DX _) fun r2 h2=>?_;have rR:∀{k},k∈B.aj→mj (B.X.nm k)=i7 (B.X.nm k)∧fF (B.X.nm k)=impl (B.X.nm k):=fun{k}h=>⟨(kB _ (W.rR I h)).2.2.symm,(kB _ (W.rR I h)).1.symm⟩;have pm:∀{c},c∈B.aj.takeWhile (cB B.X x)→c∈B.aj:=fun{c}hc=>by refine aa sp ?_;exact Nr _ hc
 have pre1:∀c∈B.aj.takeWhile (cB B.X x),decide (x=B.X.nm c)=false:=fun c hc=>by
  have:=b8 hc;unfold cB at this;exact dF fun e=>by rw[dT e.symm]at this;exact gz this
 have pre2:∀c∈B.aj.takeWhile (cB B.X x),mj (B.X.nm c)=false:=fun c hc=>by
  have:=b8 hc;refine aa ((rR (pm hc)).1) ?_;simpa using(Nt.mp this).2
 have am:a∈B.aj:=by refine aa sp ?_;simp
 unfold eG;refine aa hd ?_;dsimp only;have e1:aQ (fun k=>decide (x=B.X.nm k)) B.aj=aQ (fun k=>decide (x=B.X.nm k)) (a::l):=by refine aa sp ?_;exact cX pre1
 have e2:aQ (fun k=>mj (B.X.nm k)) B.aj=aQ (fun k=>mj (B.X.nm k)) (a::l):=by refine aa sp ?_;exact cX pre2
 by_cases ha:B.X.nm a=x
 ·refine aa (if_pos ha) ?_;have e1':=e1.trans (f6 (dT ha.symm));have lt2:=c_ (p:=fun k=>mj (B.X.nm k)) (l:=a::l);refine xE (vt (C:=C) (M:=au B) (j0.jr (r:=r2)) F (pre:=B.aj.takeWhile (cB B.X x)) (l:=l) (a:=a) sp) fun r3 h3=>?_;refine⟨lh (jr J r2) l r3,by exact⟨aG,j0.ls⟩,rfl,fun K=>(h1 _).trans ((h2 _).trans (cF (dF ?_) ?_))⟩
  ·show¬(aQ (fun k=>decide (x=B.X.nm k)) B.aj<aQ (fun k=>mj (B.X.nm k)) B.aj);refine aa e1' (aa e2 ?_);simp at lt2⊢;exact(Int.add_le_add_iff_right 1).mp lt2
  ·show iH (aQ (fun k=>decide (x=B.X.nm k)) B.aj) _ _=_;refine aa e1' ?_;refine(h3 _).trans (congrArg (K ()) ?_)
   have:yW (B.aj.takeWhile (cB B.X x)) (au B)=if(B.aj.takeWhile (cB B.X x)).all (fun b=>impl (B.X.nm b))=true then B.aq else B.aq++[q "open-elements"]:=by
    unfold yW
    have z:(B.aj.takeWhile (cB B.X x)).all (fun b=>fF ((au B).nm b))=(B.aj.takeWhile (cB B.X x)).all (fun b=>impl (B.X.nm b)):=by
     rw[OL,N5,N5];exact⟨fun z c hc=>by refine bR ((rR (pm hc)).2) ?_;exact z c hc,fun z c hc=>by refine aa (show(au B).nm c=B.X.nm c from rfl) (aa ((rR (pm hc)).2) ?_);exact z c hc⟩
    exact aa z rfl
   refine aa this ?_;rfl
 ·refine aa (if_neg ha) ?_
  have sa:i7 (B.X.nm a)=true:=by
   have:=et hd;unfold cB at this;rw[dF ha]at this;simpa using this
  have e2':=e2.trans (f6 ((rR am).1.trans sa));have e1':=e1.trans (gA (dF fun e=>ha e.symm));have lt1:=c_ (p:=fun k=>decide (x=B.X.nm k)) (l:=l);refine⟨jr J r2,⟨j0.op,j0.ls⟩,rfl,fun K=>(h1 _).trans ((h2 _).trans (cT (dT ?_) (fT (cY F) ?_)))⟩
  ·show aQ (fun k=>decide (x=B.X.nm k)) B.aj<aQ (fun k=>mj (B.X.nm k)) B.aj;refine aa e1' (aa e2' ?_);exact lt1
  ·refine aa cW ?_;rfl
end
theorem JC{o:Option Nat}{k:Nat}:decide (eU (fun k=>k) o=(k:Int))=decide (o=some k):=by
 cases o with
 |none=>exact(dF (by show¬(-1:Int)=_;exact Mr)).trans (dF (by simp)).symm
 |some a=>exact decide_eq_decide.mpr ⟨fun h=>congrArg some (OM.mp h),fun h=>by revert h;refine aJ fun h=>?_;subst h;rfl⟩
noncomputable def eT(k:Nat)(o:Option Nat):Bool:=!decide (o=some k)
theorem iU{k:Nat}{l:List (Option Nat)}(hp:l.Pairwise fun a b=>a=b→a=none):l.erase (some k)=l.filter (eT k):=by
 have self:∀{m:List (Option Nat)},some k∉m→m.filter (eT k)=m:=fun{m}h=>List.filter_eq_self.mpr fun o ho=>nT (dF fun e=>h (e▸ho));by_cases h:some k∈l
 ·refine bx (jT hp h) fun pre suf e nd ee=>?_
  have np:some k∉pre:=fun hh=>by
   have p2:=e▸hp;exact nomatch (List.pairwise_append.mp p2).2.2 _ hh _ (.head _) rfl
  refine aa ee (aa e ?_);rw[List.filter_append];exact aa ON (aa (show eT k (some k)=false from nF (dT rfl)) (aa (self np) (aa (if_neg NG) (aa (self nd) rfl))))
 ·exact aa (O_ h) (aa (self h) rfl)
noncomputable def j_(nm:Nat→Str)(x:Str):Option Nat→Bool
 |.none=>false
 |some k=>decide (nm k=x)
theorem Bq{nm:Nat→Str}{x:Str}:∀{l:List (Option Nat)},jd nm x l=((l.takeWhile Option.isSome).filter (j_ nm x)).head?.bind id
 |[]=>rfl
 |.none::_=>rfl
 |some a::l=>by
  unfold jd;refine aa List.takeWhile_cons ?_;rw[if_pos (show(some a).isSome=true from rfl)];refine aa ON ?_;by_cases h:nm a=x
  ·refine aa (if_pos h) (aa (if_pos (show j_ nm x (some a)=true from dT h)) ?_);rfl
  ·exact aa (if_neg h) (aa (if_neg (show¬j_ nm x (some a)=true by refine aa (show j_ nm x (some a)=false from dF h) ?_;exact NG)) (aa Bq rfl))
def uE(J:Jk)(l:List (Option Nat)):Jk:={J with r6:=J.r6++[.list (bO l)],ml:=J.r6.length}
def FL{ρ:Type}(x3:Int)(st:St)(K:Ku ρ):Option ρ:=
 (ae (aw st) 6 st.mlist).bind fun(x55:List AV)=>bK (fun(go56:Nat→List AV×Int×PUnit→St→Option ρ)(j57:Nat)(t58:List AV×Int×PUnit)(s59:St)=>((ae (aw s59) 6 st.mlist).bind fun(x60:List AV)=>if x60.length=x55.length then some x60[j57]? else none).bind fun(x61:Option AV)=>bz x61 (if t58.fst.length<ab then K () ((s59.bt (s59.r6++[AO.list t58.fst])).dS s59.r6.length)else none) fun(x62:AV)=>x62.i?.bind fun(x63:Int)=>bif !decide (x63=t58.snd.fst)then if t58.fst.length<ab then go56 (j57+1) (t58.fst++[AV.int x63],t58.snd.fst,()) s59 else none else go56 (j57+1) (t58.fst,t58.snd.fst,()) s59) (cD (x55.length+1)) 0 ([],x3,()) st
def ue{ρ:Type}(x3:Int)(st:St)(K:Ku ρ):Option ρ:=
 (m9 (aw st) (AV.int x3) (AV.loc 5 st.mopen)).bind fun(x41:Bool)=>bif x41 then(ae (aw st) 5 st.mopen).bind fun(x42:List AV)=>(ae (aw st) 5 st.mopen).bind fun(x43:List AV)=>if x43.length<ab then(bf x43 [AV.int x3]).bind fun(x44:Nat)=>if small (↑x44:Int)=true then(ae (aw st) 5 st.mopen).bind fun(x45:List AV)=>if x45.length<ab then if(ax x45 none (some (↑x44:Int))).length<ab then(ae (aw ((st.iE (st.r5++[AO.list (ax x45 none (some (↑x44:Int)))])).cA st.r5.length)) 6 st.mlist).bind fun(x46:List AV)=>bK (fun(go47:Nat→List AV×Int×PUnit→St→Option ρ)(j48:Nat)(t49:List AV×Int×PUnit)(s50:St)=>((ae (aw s50) 6 st.mlist).bind fun(x51:List AV)=>if x51.length=x46.length then some x51[j48]? else none).bind fun(x52:Option AV)=>bz x52 (if t49.fst.length<ab then K () ((s50.bt (s50.r6++[AO.list t49.fst])).dS s50.r6.length)else none) fun(x53:AV)=>x53.i?.bind fun(x54:Int)=>bif !decide (x54=t49.snd.fst)then if t49.fst.length<ab then go47 (j48+1) (t49.fst++[AV.int x54],t49.snd.fst,()) s50 else none else go47 (j48+1) (t49.fst,t49.snd.fst,()) s50) (cD (x46.length+1)) 0 ([],x3,()) ((st.iE (st.r5++[AO.list (ax x45 none (some (↑x44:Int)))])).cA st.r5.length)else none else none else none else none else(ae (aw st) 6 st.mlist).bind fun(x55:List AV)=>bK (fun(go56:Nat→List AV×Int×PUnit→St→Option ρ)(j57:Nat)(t58:List AV×Int×PUnit)(s59:St)=>((ae (aw s59) 6 st.mlist).bind fun(x60:List AV)=>if x60.length=x55.length then some x60[j57]? else none).bind fun(x61:Option AV)=>bz x61 (if t58.fst.length<ab then K () ((s59.bt (s59.r6++[AO.list t58.fst])).dS s59.r6.length)else none) fun(x62:AV)=>x62.i?.bind fun(x63:Int)=>bif !decide (x63=t58.snd.fst)then if t58.fst.length<ab then go56 (j57+1) (t58.fst++[AV.int x63],t58.snd.fst,()) s59 else none else go56 (j57+1) (t58.fst,t58.snd.fst,()) s59) (cD (x55.length+1)) 0 ([],x3,()) st
def nX{ρ:Type}(x2 x3:Int)(s17:St)(K:Ku ρ):Option ρ:=
 bif !decide (x2=x3)then if s17.merrs.length<ab then ue x3 (s17.aX (s17.merrs++[AV.str (q "adoption")])) K else none else ue x3 s17 K
def q8{ρ:Type}(x2 x3:Int)(s4:St)(K:Ku ρ):Option ρ:=
 (m9 (aw s4) (AV.int x3) (AV.loc 5 s4.mopen)).bind fun(x12:Bool)=>bif x12 then(ae (aw s4) 5 s4.mopen).bind fun(x13:List AV)=>(ae (aw s4) 5 s4.mopen).bind fun(x14:List AV)=>if x14.length<ab then(bf x14 [AV.int x3]).bind fun(x15:Nat)=>d6 [AV.str (q "html"),AV.str (q "applet"),AV.str (q "marquee"),AV.str (q "object"),AV.str (q "table")] s4 fun(x16:Int)(s17:St)=>bif decide ((↑x15:Int)<x16)then if s17.merrs.length<ab then K () (s17.aX (s17.merrs++[AV.str (q "adoption")]))else none else nX x2 x3 s17 K else none else nX x2 x3 s4 K
section
variable{B C:Bs}{M:Ms}{J:Jk}{b:Nat}
theorem nQ(j0:bL M J)(fl:M.ah.length+1<1000000){k:Nat}{ρ:Type}(K:Ku ρ):FL (k:Int) (ag C M J) K=K () (ag C {M with ah:=M.ah.filter (eT k)} (uE J (M.ah.filter (eT k)))):=by
 have g6:=iV (C:=C) j0 (M':=M);refine bd g6 ?_;refine cR M.ah.reverse (fun o=>.int (eU (fun k=>k) o)) (eT k) rfl (by rw[Nn]) (by refine aa Nx ?_;exact o6 fl) ?_ ?_
 ·intro go j acc o ho hacc;refine bd (t:=some (.int (eU (fun k=>k) o))) (bd g6 ((if_pos rfl).trans (by refine aa (Nz) (aa ho ?_);rfl))) (oS rfl (bd rfl ?_));have e:(!decide (eU (fun k=>k) o=(k:Int)))=eT k o:=by refine aa JC ?_;rfl
  refine aa e ?_;cases eT k o with
  |true=>exact fT hacc rfl
  |false=>rfl
 ·intro go hacc;refine bd (t:=none) (bd g6 ((if_pos rfl).trans (by exact aa (NO (by simp)) rfl))) (oN rfl (fT hacc (congrArg (K ()) ?_)));unfold uE bO;exact bR List.filter_reverse rfl
theorem bL.K3(j0:bL M J){M':Ms}(h:M'.aj=M.aj):bL M' (uE J M'.ah):=⟨h▸j0.op,aG⟩
theorem lQ{l pre:List Nat}{k:Nat}(nd:k∉l):bf ((pre++k::l).reverse.map a8) [.int (k:Int)]=some l.length:=by
 refine bd rfl (bd rfl (bd (bI (f:=fun k:Nat=>(k:Int))) ?_));refine aa N3 (aa NN ?_);rw[NK];refine aa Nu ?_
 have:=fX (p:=fun x:Int=>x==(k:Int)) (b:=(k:Int)) (c:=List.map (fun k:Nat=>(k:Int)) pre.reverse) (a:=List.map (fun k:Nat=>(k:Int)) l.reverse) (fun x hx=>by
  refine ar (NU.mp hx) fun a ha e'2=>?_;clear hx;subst e'2;rw[beq_eq_false_iff_ne];intro e;rw[OM.mp e]at ha;exact nd (N6.mp ha)) (by simp)
 rw[Nn,Nx]at this;exact this
theorem qY(j0:bL M J)(Fo:M.aj.length+1<1000000)(Fl:M.ah.length+1<1000000){k:Nat}{l:List Nat}(h:k∉M.aj∧l=M.aj∨∃pre,M.aj=pre++k::l∧k∉l):
 ∃J',bL {M with aj:=l,ah:=M.ah.filter (eT k)} J'∧J'.dg=J.dg∧∀{ρ:Type}(K:Ku ρ),ue (k:Int) (ag C M J) K=K () (ag C {M with aj:=l,ah:=M.ah.filter (eT k)} J'):=by
 rcases h with⟨h,rfl⟩|⟨pre,h,nd⟩
 ·exact⟨uE J (M.ah.filter (eT k)),j0.K3 (M':={M with ah:=M.ah.filter (eT k)}) rfl,rfl,fun K=>bd ((Di j0 (r:=J.r7)).trans (congrArg some (dF h))) (cF rfl (nQ j0 Fl K))⟩
 ·have hl:l.length<M.aj.length:=by refine aa h ?_;simp;exact Mp
  have hY:(M.aj.reverse.map a8).length<ab:=aE (by rw[Nn];refine aa Nx ?_;(first|assumption|exact NQ _|exact Ov _|exact NT _|exact Oe _|exact Nat.succ_pos _|exact NS (by assumption)|exact NJ (by assumption) (by assumption)|exact NA (by assumption) (by assumption)|exact N1 (by assumption) (by assumption)|exact N_ (by assumption) (by assumption)|exact OA (by assumption)|exact Nat.succ_le_of_lt (by assumption)|exact Ol (by assumption)|exact O1 (by assumption)|exact O7 (by assumption)|exact O2 (by assumption)|exact Om (by assumption)|exact Nat.succ_ne_zero _|exact Oa (by assumption)|exact OY (by assumption)|exact absurd (by assumption) (Oc _)|exact Nat.le_add_right _ _|exact Nat.le_add_left _ _|exact O9 (by assumption) (by assumption)|exact O8 _ _|exact OA (NJ (by assumption) (by assumption))|rfl|fail));have capl:(l.reverse.map a8).length<ab:=aE (by rw[Nn];refine aa Nx ?_;exact(LA [_,_,_] (Sx V0) V1 (.a (Sx V0) (Sx (Sx V2))) (.a V2 V1) rfl (Nq hl Fo)))
  have sh:ax (M.aj.reverse.map a8) none (some (l.length:Int))=l.reverse.map a8:=by
   refine aa gO (aa h ?_);simp
  have j1:bL {M with aj:=l} (lh J l J.r7):=⟨aG,j0.ls⟩;refine⟨uE (lh J l J.r7) (M.ah.filter (eT k)),j1.K3 (M':={M with aj:=l,ah:=M.ah.filter (eT k)}) rfl,rfl,fun K=>?_⟩;refine bd ((Di j0 (r:=J.r7)).trans (congrArg some (dT (by refine aa h ?_;simp)))) (cT rfl (bd (fE j0) (bd (fE j0) (fT hY (bd (t:=l.length) (by refine aa h ?_;exact lQ nd) (fT (aS (De hl Fo)) (bd (fE j0) (fT hY ?_))))))));refine aa sh ?_;exact fT capl (nQ (M:={M with aj:=l}) j1 Fl K)
theorem qZ(j0:bL M J)(F:gw M){t k:Nat}{l:List Nat}(h:k∉M.aj∧l=M.aj∨∃pre,M.aj=pre++k::l∧k∉l):
 ∃J',bL {M with aj:=l,ah:=M.ah.filter (eT k),aq:=if t=k then M.aq else M.aq++[q "adoption"]} J'∧J'.dg=J.dg∧∀{ρ:Type}(K:Ku ρ),nX (t:Int) (k:Int) (ag C M J) K=K () (ag C {M with aj:=l,ah:=M.ah.filter (eT k),aq:=if t=k then M.aq else M.aq++[q "adoption"]} J'):=by
 by_cases e:t=k
 ·refine bV (qY (C:=C) j0 F.o F.l h) fun J' a c d=>?_;refine aa (if_pos e) ?_;exact⟨J',a,c,fun K=>cF (nF (dT (by exact aa e rfl))) (d K)⟩
 ·refine bV (qY (C:=C) (M:={M with aq:=M.aq++[q "adoption"]}) (J:=J) ⟨j0.op,j0.ls⟩ F.o F.l h) fun J' a c d=>?_;refine aa (if_neg e) ?_;exact⟨J',a,c,fun K=>cT (nT (dF (Nat.ToInt.of_diseq rfl rfl e))) (fT (cY F) (by refine aa cW ?_;exact d K))⟩
theorem gZ(j0:bL M J)(F:gw M)(hl:∀k,some k∈M.ah→k<M.n) {x:Str}:∃J',bL M J'∧J'.dg=J.dg∧∀{ρ:Type}(K:Ki ρ),eg x (ag C M J) K=K (eU (fun k=>k) (jd M.nm x M.ah)) (ag C M J'):=by
 have jl:=gF j0.ls;have ls1:(J.r6++[AO.list [.int (-1)]])[J.ml]?=some (.list (bO M.ah)):=(NM jl).trans j0.ls;have j1:bL M {J with r6:=J.r6++[.list [.int (-1)]]}:=⟨j0.op,ls1⟩;have Fl:=F.l;have Fn:=F.n;refine ar (kS (B:=C) j1 F.l) fun r _ h1=>?_;have lad:=congrArg List.length (NB (p:=Option.isSome) (l:=M.ah));rw[NH]at lad
 have eb:FN M.ah=((M.ah.dropWhile Option.isSome).length:Int):=by
  unfold FN;refine aa (show(Option.isNone:Option Nat→Bool)=fun o=>!o.isSome from funext fun o=>by cases o<;>rfl) ?_;exact gC
 have sl:ax (bO M.ah) (some ((M.ah.dropWhile Option.isSome).length:Int)) none=bO (M.ah.takeWhile Option.isSome):=by
  refine aa lV ?_;unfold bO
  conv=>lhs;arg 2;arg 2;arg 1;rw[←NB (p:=Option.isSome) (l:=M.ah)]
  exact aa N3 (aa Nu (aa (List.drop_left' (by simp)) rfl))
 have hY:(bO M.ah).length<ab:=aE (by rw[Nn];refine aa Nx ?_;exact o6 Fl);have capt:(bO (M.ah.takeWhile Option.isSome)).length<ab:=aE (by rw[Nn];refine aa Nx ?_;exact(LA [_,_,_,_] (Sx V0) V1 (.a (.a V0 V2) (Sx (Sx V3))) (.a V3 V1) rfl (Nq (Ny lad) Fl)));let fl:=(M.ah.takeWhile Option.isSome).reverse.filter (j_ M.nm x);let acc0:List AV:=fl.map fun o=>.int (eU (fun k=>k) o);refine⟨{J with r6:=J.r6++[.list [.int (-1)]]++[.list ([.int (-1)]++acc0)],r7:=r++[.list (bO (M.ah.takeWhile Option.isSome))]++[.list acc0]},⟨j0.op,(NM (gF ls1)).trans ls1⟩,rfl,fun K=>(h1 _).trans ?_⟩;refine aa eb ?_;refine fT (aS ((LA [_,_,_] (Sx V0) (.k 1000000000) (.a (Sx (Sx V1)) (.a V2 V0)) (.a (.k 1000000) V1) rfl (Nq Fl (Ny lad))))) (bd (Bv j1) (fT hY ?_));have capt':(ax (bO M.ah) (some ((M.ah.dropWhile Option.isSome).length:Int)) none).length<ab:=sl.symm▸capt;have g7:ae (aw (ag C M (jr {J with r6:=J.r6++[.list [.int (-1)]]} (r++[.list (bO (M.ah.takeWhile Option.isSome))])))) 7 r.length=some (bO (M.ah.takeWhile Option.isSome)):=d9;have es:(ag C M (jr {J with r6:=J.r6++[.list [.int (-1)]]} r)).aB ((ag C M (jr {J with r6:=J.r6++[.list [.int (-1)]]} r)).r7++[AO.list (ax (bO M.ah) (some ((M.ah.dropWhile Option.isSome).length:Int)) none)])=ag C M (jr {J with r6:=J.r6++[.list [.int (-1)]]} (r++[.list (bO (M.ah.takeWhile Option.isSome))])):=by refine aa sl ?_;rfl
 have g7':=(congrArg (fun s=>ae (aw s) 7 r.length) es).trans g7;refine fT capt' (bd g7' ?_);refine cR (M.ah.takeWhile Option.isSome).reverse (fun o=>.int (eU (fun k=>k) o)) (j_ M.nm x) es (by rw[Nn]) (by refine aa Nx ?_;exact(LA [_,_,_,_] (Sx V0) V1 (.a (.a V0 V2) (Sx (Sx V3))) (.a V3 V1) rfl (Nq (Ny lad) Fl))) ?_ ?_
 ·intro go j acc o ho hacc;have om:=N6.mp (Oo ho);cases o with
  |none=>have:=b8 om;exact gz this
  |some k=>
   have kn:=hl k ((List.takeWhile_sublist _).subset om);refine bd (t:=some (.int (k:Int))) (bd g7 ((if_pos rfl).trans (by refine aa (Nz) (aa ho ?_);rfl))) (oS rfl (bd (iz kn (NS (by assumption))) (bd rfl ?_)));show cond (j_ M.nm x (some k)) _ _=_;cases j_ M.nm x (some k)with
   |true=>exact fT hacc rfl
   |false=>rfl
 ·intro go hacc;refine bd (t:=none) (bd g7 ((if_pos rfl).trans (by exact aa (NO (by simp)) rfl))) (oN rfl (fT hacc ?_))
  have al:acc0.length+1<1000000:=by
   have h2:fl.length≤_:=List.length_filter_le (j_ M.nm x) (M.ah.takeWhile Option.isSome).reverse;rw[Nx]at h2;show(fl.map _).length+1<_;rw[Nn];exact(LA [_,_,_,_,_] (Sx (Sx V0)) V1 (.a (.a V0 (.a V2 V3)) (Sx (Sx V4))) (.a (.a V2 V4) V1) rfl (Nq (Nq h2 (Ny lad)) Fl))
  have g6a:ae (aw (ag C M (jr {J with r6:=J.r6++[.list [.int (-1)]]} (r++[.list (bO (M.ah.takeWhile Option.isSome))]++[.list acc0])))) 6 J.r6.length=some [.int (-1)]:=by
   show((J.r6++[_])[_]?).bind _=_;refine aa aG ?_;rfl
  have la:ai ([AV.int (-1)]++acc0) (.int (-1))=some (.int (eU (fun k=>k) (jd M.nm x M.ah))):=by
   refine aa Bq ?_;show ai ([AV.int (-1)]++((M.ah.takeWhile Option.isSome).reverse.filter (j_ M.nm x)).map _) _=_;refine aa List.filter_reverse ?_;cases h:(M.ah.takeWhile Option.isSome).filter (j_ M.nm x)with
   |nil=>rfl
   |cons o m=>
    refine aa NN (aa Nu ?_);rw[←NK];refine eF.trans ?_;have:j_ M.nm x o=true:=(List.mem_filter.mp (by refine aa h ?_;exact .head _)).2;cases o with
    |none=>first|exact ns this|exact gz this
    |some k=>rfl
  have g7b:ae (aw (ag C M (jr {J with r6:=J.r6++[.list [.int (-1)]]} (r++[.list (bO (M.ah.takeWhile Option.isSome))]++[.list acc0])))) 7 (r++[AO.list (bO (M.ah.takeWhile Option.isSome))]).length=some acc0:=d9;refine bd g6a ?_;refine bd g7b ?_;refine fT (aE (show acc0.length+1<1000000 from al)) ?_
  have g6c:ae (aw (ag C M {J with r6:=J.r6++[.list [.int (-1)]]++[.list ([.int (-1)]++acc0)],r7:=r++[.list (bO (M.ah.takeWhile Option.isSome))]++[.list acc0]})) 6 (J.r6++[AO.list [AV.int (-1)]]).length=some ([.int (-1)]++acc0):=by
   show((J.r6++[AO.list [.int (-1)]]++[AO.list ([AV.int (-1)]++acc0)])[(J.r6++[AO.list [AV.int (-1)]]).length]?).bind _=_;refine aa aG ?_;rfl
  exact bd g6c (bd la (bd rfl rfl))
end
theorem rI{α:Type}{p:α→Bool}{c:α}{r:List α}(hc:p c=true):∀{pre:List α},c∈pre→(r.length:Int)≤aQ p (pre++r)
 |b::pre,h=>by
  refine aa Oy ?_;rw[fk];cases e:p b with
  |true=>refine aa (if_pos rfl) (aa NH ?_);exact Int.ofNat_le.mpr (Nat.le_add_left _ _)
  |false=>
   refine aa (if_neg NG) ?_;rcases Nv.mp h with rfl|h
   ·rw[hc]at e;cases e
   ·exact rI hc h
theorem A9{α:Type}{p:α→Bool}{c:α}{r:List α}(hc:p c=false):∀{pre:List α},c∈pre→∃d m,(pre++r).dropWhile p=d::m∧d∈pre
 |b::pre,h=>by
  refine aa Oy (aa N2 ?_);cases e:p b with
  |false=>refine aa (if_neg NG) ?_;exact⟨b,_,rfl,.head _⟩
  |true=>
   refine aa (if_pos rfl) ?_;rcases Nv.mp h with rfl|h
   ·rw[hc]at e;exact gz e
   ·obtain⟨d,m,a,b⟩:=A9 hc h;exact⟨d,m,a,.tail _ b⟩
theorem Cz{l:List AV}{v:AV}:ax (l++[v]) none (some (-1))=l:=by
 unfold ax clip;dsimp only;refine aa (if_pos (by decide)) (aa List.drop_zero (aa NH ?_));refine aa (show((-1:Int)+((l.length+[v].length:Nat):Int)).toNat=l.length by refine aa List.length_singleton ?_;exact Kc) ?_;exact List.take_left
section
variable{B C:Bs}{M:Ms}{J:Jk}{b:Nat}
theorem MH(j:bL M J){M':Ms}{r:List AO}{k:Nat}:m9 (aw (ag C M' (jr J r))) (.int (k:Int)) (.loc 6 J.ml)=some (decide (some k∈M.ah)):=by
 show((J.r6[J.ml]?)).bind _=_;refine aa j.ls ?_;show bg (.int (k:Int)) (M.ah.reverse.map fun o=>.int (eU (fun k=>k) o))=_;refine aa g9 ?_;rw[Oi];refine aa List.any_reverse ?_;rw[OL,O5,decide_eq_true_iff];constructor
 ·rintro⟨a,ha,e⟩;rw[JC]at e;refine bR (of_decide_eq_true e) ?_;exact ha
 ·intro h;exact⟨_,h,dT rfl⟩
theorem Gl(W:Ok B (b+2))(I:dM B.X)(j0:bL (au B) J){k t:Nat}{rest:List Nat}(hf:some k∈B.ah)(ht:B.aj=t::rest):
 ∃J',bL (au (eA k B)) J'∧J'.dg=J.dg∧∀{ρ:Type}(K:Ku ρ),q8 (t:Int) (k:Int) (ag C (au B) J) K=K () (ag C (au (eA k B)) J'):=by
 have F:gw (au B):=bN W I.nN;have Fn:=F.n;have Fo:=F.o;have ef:=iU (k:=k) W.ln;by_cases hk:k∈B.aj
 ·refine sk (List.append_of_mem hk) fun pre l sp=>?_;have nd:=W.nd;rw[sp]at nd;refine gS (Oh.mp nd) fun _ nd2 nd3=>?_;have kl:k∉l:=(NZ.mp nd2).1;have kp:∀c∈pre,c≠k:=fun c hc e=>nd3 c hc k (.head _) e;have rR:∀{c},c∈B.aj→cw (B.X.nm c)=cO (B.X.nm c):=fun{c}h=>(kB _ (W.rR I h)).2.1.symm;refine xE (iu (B:=C) (ns:=[AV.str (q "html"),AV.str (q "applet"),AV.str (q "marquee"),AV.str (q "object"),AV.str (q "table")]) (pn:=fun k=>cw (B.X.nm k)) j0 (o6 Fn) F.o F.hk fun k _=>lX _) fun r2 h2=>?_;have hY:(B.aj.reverse.map a8).length<ab:=aE (by have:B.aj.length+1<1000000:=Fo;rw[Nn];refine aa Nx ?_;exact NS (by assumption))
  have start:∀{ρ:Type}{K:Ku ρ}{R:Option ρ},(bif decide ((l.length:Int)<aQ (fun k=>cw (B.X.nm k)) B.aj)then if(ag C (au B) (jr J r2)).merrs.length<ab then K () ((ag C (au B) (jr J r2)).aX ((ag C (au B) (jr J r2)).merrs++[AV.str (q "adoption")]))else none else nX (t:Int) (k:Int) (ag C (au B) (jr J r2)) K)=R→q8 (t:Int) (k:Int) (ag C (au B) J) K=R:=fun{ρ K R}hh=>
   bd ((Di j0 (r:=J.r7)).trans (congrArg some (dT hk))) (cT rfl (bd (fE j0) (bd (fE j0) (fT hY (bd (t:=l.length) (by show bf (B.aj.reverse.map a8) _=_;refine aa sp ?_;exact lQ kl) ((h2 _).trans hh))))))
  by_cases hs:∀c∈pre,cO (B.X.nm c)=false
  ·have dw:B.aj.dropWhile (rF B.X k)=k::l:=by
    refine aa sp ?_;exact fA (by unfold rF;simp) fun c hc=>by unfold rF;refine aa (dF (kp c hc)) (aa (hs c hc) ?_);rfl
   have e2:aQ (fun k=>cw (B.X.nm k)) B.aj=aQ (fun k=>cw (B.X.nm k)) (k::l):=by
    refine aa sp ?_;exact cX fun c hc=>(rR (by refine aa sp ?_;exact Nr _ hc)).trans (hs c hc)
   have lt2:=c_ (p:=fun k=>cw (B.X.nm k)) (l:=k::l);rw[Od]at lt2;refine bV (qZ (C:=C) (M:=au B) (t:=t) (j0.jr (r:=r2)) F (.inr ⟨pre,sp,kl⟩)) fun J' a c d=>?_
   have es:au (eA k B)={au B with aj:=l,ah:=(au B).ah.filter (eT k),aq:=if t=k then(au B).aq else(au B).aq++[q "adoption"]}:=by
    unfold eA;refine aa (if_pos hk) (aa dw (aa (if_pos (show(k::l).head?=some k from rfl)) (aa ht (aa ef ?_))));by_cases e:t=k
    ·refine bR e ?_;rw[if_pos rfl,if_pos (show(t::rest).head?=some t from rfl)];rfl
    ·refine aa (if_neg e) (aa (if_neg (show¬(t::rest).head?=some k by simpa using e)) ?_);rfl
   refine aa es ?_;exact⟨J',a,c,fun K=>start (cF (dF (by refine aa e2 ?_;exact Int.not_lt_of_ge (Int.le_of_lt_add_one lt2))) (d K))⟩
  ·refine xE (Classical.not_forall.mp hs) fun c hc=>?_;refine xA (Classical.not_imp.mp hc) fun hc sc=>?_;have sc:cO (B.X.nm c)=true:=by simpa using sc
   obtain⟨d,m,dw,dm⟩:=A9 (p:=rF B.X k) (c:=c) (r:=k::l) (by unfold rF;refine aa sc ?_;simp) hc;have ge:=rI (p:=fun k=>cw (B.X.nm k)) (c:=c) (r:=k::l) ((rR (by refine aa sp ?_;exact Nr _ hc)).trans sc) hc;rw[←sp,Od]at ge
   have es:eA k B={B with aq:=B.aq++[q "adoption"]}:=by
    unfold eA;exact aa (if_pos hk) (aa sp (aa dw (aa (if_neg (show¬(d::m).head?=some k by simpa using kp d dm)) rfl)))
   refine aa es ?_;refine⟨jr J r2,⟨j0.op,j0.ls⟩,rfl,fun K=>start (cT (dT (Int.lt_of_add_one_le ge)) (fT (cY F) ?_))⟩;refine aa cW ?_;rfl
 ·have tk:t≠k:=fun e=>hk (by refine aa ht (aa e ?_);exact .head _);refine bV (qZ (C:=C) (M:=au B) (t:=t) (k:=k) (l:=B.aj) j0 F (.inl ⟨hk,rfl⟩)) fun J' a c d=>?_
  have es:au (eA k B)={au B with aj:=B.aj,ah:=(au B).ah.filter (eT k),aq:=if t=k then(au B).aq else(au B).aq++[q "adoption"]}:=by
   unfold eA;refine aa (if_neg hk) (aa ef (aa (if_neg tk) ?_));rfl
  refine aa es ?_;exact⟨J',a,c,fun K=>bd ((Di j0 (r:=J.r7)).trans (congrArg some (dF hk))) (cF rfl (d K))⟩
theorem kU(W:Ok B (b+2))(I:dM B.X)(j0:bL (au B) J){x:Str}:
 ∃J',bL (au (aU x B)) J'∧J'.dg=J.dg∧∀{ρ:Type}(K:Ku ρ),dW x (ag C (au B) J) K=K () (ag C (au (aU x B)) J'):=by
 have F:gw (au B):=bN W I.nN;have Fn:=F.n;cases ht:B.aj with
 |nil=>exact absurd ht W.ne
 |cons t rest=>
  have tn:=W.hk t (by refine aa ht ?_;exact .head _);refine bV (gZ (C:=C) j0 F W.hl (x:=x)) fun J1 j1 s1 h1=>?_
  have start:∀{ρ:Type}{K:Ku ρ}{R:Option ρ},(bif decide (B.X.nm t=x)then(Option.map (fun(x7:Bool)=>!x7) (m9 (aw (ag C (au B) J1)) (AV.int (t:Int)) (AV.loc 6 J1.ml))).bind fun(x8:Bool)=>bif x8 then(ae (aw (ag C (au B) J1)) 5 J1.mo).bind fun(x9:List AV)=>if x9.length<ab then if(ax x9 none (some (-1))).length<ab then K () (((ag C (au B) J1).iE (J1.r5++[AO.list (ax x9 none (some (-1)))])).cA J1.r5.length)else none else none else bif decide (eU (fun k=>k) (jd B.X.nm x B.ah)=-1)then ir x (ag C (au B) J1) fun(x10:Unit)(s11:St)=>K () s11 else q8 (t:Int) (eU (fun k=>k) (jd B.X.nm x B.ah)) (ag C (au B) J1) K else bif decide (eU (fun k=>k) (jd B.X.nm x B.ah)=-1)then ir x (ag C (au B) J1) fun(x10:Unit)(s11:St)=>K () s11 else q8 (t:Int) (eU (fun k=>k) (jd B.X.nm x B.ah)) (ag C (au B) J1) K)=R→dW x (ag C (au B) J) K=R:=fun{ρ K R}hh=>by
   refine bd (fE j0) (bd (t:=a8 t) ?_ (bd rfl ((h1 _).trans (bd (iz (M:=au B) tn (o6 Fn)) (bd rfl hh)))));refine aa (show(au B).aj=t::rest from ht) (aa NN (aa Nu ?_));exact eF
  have loop:∃J',bL (au (ie x B)) J'∧J'.dg=J.dg∧∀{ρ:Type}(K:Ku ρ),(bif decide (eU (fun k=>k) (jd B.X.nm x B.ah)=-1)then ir x (ag C (au B) J1) fun(x10:Unit)(s11:St)=>K () s11 else q8 (t:Int) (eU (fun k=>k) (jd B.X.nm x B.ah)) (ag C (au B) J1) K)=K () (ag C (au (ie x B)) J'):=by
   unfold ie;cases hx:jd B.X.nm x B.ah with
   |none=>
    refine bV (Aq (C:=C) W I j1 (x:=x)) fun J2 j2 s2 h2=>?_;exact⟨J2,j2,s2.trans s1,fun K=>cT rfl (h2 K)⟩
   |some k=>
    refine bV (Gl (C:=C) W I j1 (hG hx).1 ht) fun J2 j2 s2 h2=>?_;exact⟨J2,j2,s2.trans s1,fun K=>cF (dF (by show¬(k:Int)=-1;exact sr)) (h2 K)⟩
  revert loop;refine zu fun J2 j2 s2 h2=>?_;unfold aU;refine aa ht ?_;dsimp only;by_cases hn:B.X.nm t=x
  ·by_cases hm:some t∈B.ah
   ·refine aa (if_neg (fun h=>h.2 hm)) ?_;exact⟨J2,j2,s2,fun K=>start (cT (dT hn) (bd (t:=false) (by refine aa (show m9 (aw (ag C (au B) J1)) (AV.int (t:Int)) (AV.loc 6 J1.ml)=_ from MH j1 (r:=J1.r7)) (aa (show(au B).ah=B.ah from rfl) (aa (dT hm) ?_));rfl) (cF rfl (h2 K))))⟩
   ·refine aa (if_pos ⟨hn,hm⟩) ?_;have er:(au B).aj.reverse.map a8=rest.reverse.map a8++[a8 t]:=by refine aa (show(au B).aj=t::rest from ht) (aa NN (aa Nu ?_));rfl
    have ol:B.aj.length+1<1000000:=F.o;rw[ht,Od]at ol;refine⟨lh J1 rest J1.r7,⟨aG,j1.ls⟩,s1,fun K=>start (cT (dT hn) (bd (t:=true) (by refine aa (show m9 (aw (ag C (au B) J1)) (AV.int (t:Int)) (AV.loc 6 J1.ml)=_ from MH j1 (r:=J1.r7)) (aa (show(au B).ah=B.ah from rfl) (aa (dF hm) ?_));rfl) (cT rfl (bd ((fE j1).trans (congrArg some er)) (fT (aE (by simp;exact NS (by assumption))) ?_)))))⟩;refine aa Cz ?_;exact fT (aE (by simp;exact Nat.lt_of_add_right_lt ol)) rfl
  ·refine aa (if_neg (fun h=>hn h.1)) ?_;exact⟨J2,j2,s2,fun K=>start (cF (dF hn) (h2 K))⟩
end
def wG:List cj→List cj
 |[p,r]=>if p.1=q "id"then[r,p]else[p,r]
 |l=>l
noncomputable def dP(p:cj):PyData:=.tuple [.str p.1,.str p.2]
theorem mV:∀a∈bX,nu (a.map cy)=some ((wG a).map cy):=by
 intro a ha;simp only[bX,Nv,OK,or_false]at ha;rcases ha with rfl|rfl|rfl|rfl|rfl<;>kernel_rfl
theorem Bn:∀a∈bX,∀c∈bX,PyData.eqvAll ((wG a).map dP) ((wG c).map dP)=Kl a c:=by decide+kernel
theorem ly:∀a∈bX,(wG a).length≤10∧PyData.canLayAll0 ((wG a).map dP)=true:=by decide+kernel
theorem i5{α:Type}{p:α→Bool}:∀{l:List α},(aK p l).length=l.countP p
 |[]=>rfl
 |k::l=>by
  refine aa cu (aa NH (aa i5 (aa List.countP_cons ?_)));split<;>rfl
theorem jY{α:Type}{p:α→Bool}:∀{l:List α},(aK p l).head?=l.reverse.findIdx? p
 |[]=>rfl
 |k::l=>by
  refine aa cu (aa NN (aa (List.findIdx?_append) (aa (List.head?_append) (aa jY (aa Nx ?_)))))
  congr 1
  refine aa (List.findIdx?_cons) ?_;split<;>simp
theorem wJ{H:AH}{s:Str}{i:Nat}{l:List cj}(h:ae H 7 i=some (l.map cy)):toPy H 7 (.tup [.str s,.loc 7 i])=some (.tuple [.str s,.list (l.map dP)]):=by
 have:toPy H 6 (.loc 7 i)=some (.list (l.map dP)):=iD (n:=5) h (bb (g:=dP) fun _ _=>rfl);refine(?_:(((toPy H 6 (.str s)).bind fun d=>(gj (toPy H 6) [.loc 7 i]).map fun ds=>d::ds)).map _=_);exact aa (show gj (toPy H 6) [.loc 7 i]=some [.list (l.map dP)]from bd this rfl) rfl
theorem GU{H:AH}{s s':Str}{i i':Nat}{l l':List cj}(h:ae H 7 i=some (l.map cy))(h':ae H 7 i'=some (l'.map cy))(c:PyData.canLayAll0 (l.map dP)=true)(c':PyData.canLayAll0 (l'.map dP)=true)(o:PyData.strOk s=true)(o':PyData.strOk s'=true):
 fg H (.tup [.str s,.loc 7 i]) (.tup [.str s',.loc 7 i'])=some (decide (s=s')&&PyData.eqvAll (l.map dP) (l'.map dP)):=by
 refine bd (wJ h) (bd (wJ h') ?_);unfold MC;have c1:(PyData.tuple [.str s,.list (l.map dP)]).canLay0=true:=oo (by rw[PyData.canLayAll0,PyData.canLayAll0,PyData.canLayAll0];refine aa (g_ o) (aa (fy c) ?_);rfl);have c2:(PyData.tuple [.str s',.list (l'.map dP)]).canLay0=true:=oo (by rw[PyData.canLayAll0,PyData.canLayAll0,PyData.canLayAll0];refine aa (g_ o') (aa (fy c') ?_);rfl);refine aa c1 (aa c2 ?_);refine(if_pos rfl).trans ?_;rw[PyData.eqv,PyData.eqvAll,PyData.eqvAll,PyData.eqvAll,PyData.eqv,PyData.eqv,Bool.and_true];rfl
theorem AD:∀x∈hW,PyData.strOk x=true:=by decide+kernel
theorem gg{α:Type}{l:List α}{i:Nat}:l.take i++l.drop (i+1)=l.eraseIdx i:=(List.eraseIdx_eq_take_drop_succ l i).symm
section
variable{B C:Bs}{M:Ms}{J:Jk}{b:Nat}
def lT(J:Jk)(r:List AO)(acc:List AV)(n:Nat)(l:List (Option Nat))(i:Option Nat):Jk:=match i with
 |.none=>{J with r7:=r,r6:=(J.r6++[AO.list acc]).set J.ml (AO.list (bO l++[AV.int (n:Int)]))}
 |some i=>{J with r7:=r++[AO.list ((bO l).drop (i+1))],r6:=J.r6++[AO.list acc]++[AO.list ((bO l).take i)]++[AO.list ((bO l).eraseIdx i++[AV.int (n:Int)])],ml:=(J.r6++[AO.list acc]++[AO.list ((bO l).take i)]).length}
theorem Bx{i:Nat}{l:List AV}(h:J.r6[i]?=some (.list l)):ae (aw (ag C M J)) 6 i=some l:=by
 show(J.r6[i]?).bind _=_;exact aa h rfl
theorem Dg{i:Nat}{l:List AV}(h:J.r7[i]?=some (.list l)):ae (aw (ag C M J)) 7 i=some l:=by
 show(J.r7[i]?).bind _=_;exact aa h rfl
theorem DK(j0:bL M J)(F:gw M){n:Nat}(hn:n<M.n)(ha:∀k,k<M.n→M.bc k∈bX) (hs:∀k,k<M.n→PyData.strOk (M.nm k)=true):
 ∃J',bL {M with ah:=gh (mI M.nm M.bc n) n M.ah} J'∧J'.dg=J.dg∧∀{ρ:Type}(K:Ku ρ),ej (n:Int) (ag C M J) K=K () (ag C {M with ah:=gh (mI M.nm M.bc n) n M.ah} J'):=by
 have Fn:=F.n;have Fl:=F.l;have jl:=gF j0.ls;obtain⟨r,⟨r',er⟩,h1⟩:=kS (B:=C) (j0.jr (r:=J.r7++[.list ((wG (M.bc n)).map cy)])) F.l
 have hr0:∀m,ae (aw (ag C M (jr J (r++m)))) 7 J.r7.length=some ((wG (M.bc n)).map cy):=fun m=>by
  show((r++m)[J.r7.length]?).bind _=_;refine aa er ?_;show((J.r7++[_]++r'++m)[J.r7.length]?).bind _=_;rw[NK,NK];refine aa (Ow (NQ _)) ?_;rw[Nat.sub_self];rfl
 let tw:=M.ah.takeWhile Option.isSome;let al:=mI M.nm M.bc n;let d:=(M.ah.dropWhile Option.isSome).length;let so:Option Nat→AO:=fun o=>match o with|some k=>.list ((wG (M.bc k)).map cy)|.none=>.list []
 let sl:Nat→List AO:=fun j=>(tw.reverse.take j).map so;let acc:List AV:=(aK al tw).map fun i=>.int ((d+i:Nat):Int)
 have lad:tw.length+d=M.ah.length:=by
  have:=congrArg List.length (NB (p:=Option.isSome) (l:=M.ah));rw[NH]at this;exact this
 have eb:FN M.ah=(d:Int):=by
  unfold FN;refine aa (show(Option.isNone:Option Nat→Bool)=fun o=>!o.isSome from funext fun o=>by cases o<;>rfl) ?_;exact gC
 have el':bO M.ah=bO (M.ah.dropWhile Option.isSome)++bO tw:=by
  unfold bO
  conv=>lhs;arg 2;arg 1;rw[←NB (p:=Option.isSome) (l:=M.ah)]
  exact aa N3 (aa Nu rfl)
 have len:(bO M.ah).length=M.ah.length:=by simp
 have hY:(bO M.ah).length<ab:=aE (by refine aa len ?_;exact o6 Fl);have lacc:acc.length=tw.countP al:=by show(List.map _ _).length=_;rw[Nn];exact aa i5 rfl
 have cacc:acc.length<1000000:=by refine aa lacc ?_;have:=List.countP_le_length (p:=al) (l:=tw);exact(LA [_,_,_,_,_] (Sx V0) V1 (.a (.a V0 (.a V2 V3)) (Sx (Sx V4))) (.a (.a V2 V4) V1) rfl (Nq (Nq this (Ny lad)) Fl))
 have capa:acc.length<ab:=aE cacc
 have rg:∀i,(aH (d:Int) ((bO M.ah).length:Int) 1)[i]?=if i<tw.length then some (.int ((d+i:Nat):Int))else none:=fun i=>by
  unfold aH;refine aa (if_pos rfl) (aa (Nz) (aa len ?_));have:((M.ah.length:Int)-(d:Int)).toNat=tw.length:=FC lad;refine aa this ?_;split
  ·refine aa (OF ‹_›) ?_;rfl
  ·refine aa (NO (by simp only[N0];lia)) ?_;rfl
 have rl:(aH (d:Int) ((bO M.ah).length:Int) 1).length=tw.length:=by
  unfold aH;refine aa (if_pos rfl) ?_;rw[Nn];refine aa N0 (aa len ?_);exact FC lad
 have sd:small (d:Int)=true:=aS ((LA [_,_,_] (Sx V0) (.k 1000000000) (.a (Sx (Sx V1)) (.a V2 V0)) (.a (.k 1000000) V1) rfl (Nq Fl (Ny lad))));have sm:small ((bO M.ah).length:Int)=true:=aS (by refine aa len ?_;exact FA Fl);have g6:∀{r:List AO},ae (aw (ag C M (jr J r))) 6 J.ml=some (bO M.ah):=Bv j0;let i0:=if 3≤tw.countP al then gn al tw d else none
 have epush:gh al n M.ah=some n::(match i0 with|.none=>M.ah|some i=>(M.ah.reverse.eraseIdx i).reverse):=by
  show some n::(if 3≤tw.countP al then match gn al tw d with|.none=>M.ah|some i=>(M.ah.reverse.eraseIdx i).reverse else M.ah)=some n::(match(if 3≤tw.countP al then gn al tw d else none)with|.none=>M.ah|some i=>(M.ah.reverse.eraseIdx i).reverse);by_cases h3:3≤tw.countP al
  ·exact aa (if_pos h3) (aa (if_pos h3) rfl)
  ·exact aa (if_neg h3) (aa (if_neg h3) rfl)
 have eav:∀{l:List (Option Nat)},bO (some n::l)=bO l++[.int (n:Int)]:=fun{l}=>by
  unfold bO;refine aa NN (aa Nu ?_);rfl
 refine⟨lT J (r++sl tw.length) acc n M.ah i0,⟨?_,?_⟩,?_,fun K=>?_⟩
 ·unfold lT;cases i0<;>exact j0.op
 ·show(lT J (r++sl tw.length) acc n M.ah i0).r6[(lT J (r++sl tw.length) acc n M.ah i0).ml]?=some (.list (bO (gh al n M.ah)));refine aa epush (aa eav ?_);unfold lT;cases i0 with
  |none=>exact List.getElem?_set_self (by refine aa NH ?_;exact Nat.lt_add_right _ jl)
  |some i=>
   refine aG.trans ?_;dsimp only
   congr 3
   unfold bO;rw[Oq];exact aa jw rfl
 ·unfold lT;cases i0<;>rfl
 have an:=ha n hn;have cps:((wG (M.bc n)).map cy).length<ab:=aE (by rw[Nn];have:=(ly _ an).1;exact zH this);refine bd (iz hn (by exact o6 Fn)) (bd rfl (bd (uX hn (by exact o6 Fn)) (bd rfl (bT rfl (bd (iZ hn) (bd (mV _ an) (fT cps ((h1 _).trans ?_))))))));refine aa eb ?_;refine bd g6 (fT hY (fT (by refine aa sd ?_;exact sm) (fT (by refine aa sd (aa (show small ((List.map (fun o=>AV.int (eU (fun k=>k) o)) M.ah.reverse).length:Int)=true from sm) ?_);rfl) ?_)))
 have tk:∀j,j<tw.length→∃a,tw.drop (tw.length-(j+1))=a::tw.drop (tw.length-j)∧tw.reverse[j]?=some a:=fun j hj=>by
  have h1:tw.length-(j+1)<tw.length:=by exact Fu hj
  refine⟨tw[tw.length-(j+1)],?_,?_⟩
  ·exact aa (OG h1) (aa (show tw.length-(j+1)+1=tw.length-j by exact C_ hj) rfl)
  ·exact aa (OS hj) (aa (show tw.length-1-j=tw.length-(j+1) by exact Fw) (aa (NP h1) rfl))
 have z:(([]:List AV),[AV.str (M.nm n),AV.loc 7 (ag C M J).r7.length],())=((aK al (tw.drop (tw.length-0))).map fun i=>AV.int ((d+i:Nat):Int),[AV.str (M.nm n),AV.loc 7 (ag C M J).r7.length],()):=by rw[Nat.sub_zero];refine aa List.drop_length ?_;rfl
 have z2:ag C M (jr (jr J (J.r7++[.list ((wG (M.bc n)).map cy)])) r)=ag C M (jr J (r++sl 0)):=by
  show ag C M (jr J r)=ag C M (jr J (r++[]));rw[N7]
 refine aa z2 ?_;refine(eI tw.length (fun j=>((aK al (tw.drop (tw.length-j))).map fun i=>AV.int ((d+i:Nat):Int),[AV.str (M.nm n),AV.loc 7 (ag C M J).r7.length],())) (fun j=>ag C M (jr J (r++sl j))) z rfl ?_ ?_).trans ?_
 ·exact Ol (Ny rl.symm)
 ·intro j hj go;refine ar (tk j hj) fun o e ga=>?_;have om:o∈tw:=Ob (i:=tw.length-(j+1)) (by refine aa e ?_;exact .head _);have dl:(tw.drop (tw.length-j)).length=j:=by refine aa Oj ?_;exact Ft hj
  cases o with
  |none=>have:=b8 om;exact gz this
  |some k=>
   have kn:k<M.n:=F.hl k ((List.takeWhile_sublist _).subset om)
   have it:ai (bO M.ah) (.int ((d+j:Nat):Int))=some (.int (k:Int)):=by
    refine bp ?_ (by exact(LA [_,_,_,_] (Sx (.a V0 V1)) (.k 1000000000) (.a (.a (Sx V1) (.a V2 V0)) (Sx (Sx V3))) (.a (.a V2 V3) (.k 1000000)) rfl (Nq (Nq hj (Ny lad)) Fl)));refine aa el' (aa (Ow (by simp[d])) (aa (show d+j-(bO (M.ah.dropWhile Option.isSome)).length=j by simp[d]) ?_));show(tw.reverse.map _)[j]?=_;refine aa (Nz) (aa ga ?_);rfl
   have ak:=ha k kn;have cs:=ly _ ak;have cn:=ly _ an;have cpk:((wG (M.bc k)).map cy).length<ab:=aE (by rw[Nn];exact(LA [_] (Sx V0) (.k 1000000) V0 (.k 10) rfl cs.1))
   have ss:sl (j+1)=sl j++[.list ((wG (M.bc k)).map cy)]:=by
    show(tw.reverse.take (j+1)).map so=(tw.reverse.take j).map so++_;refine aa List.take_add_one (aa ga (aa Nu ?_));rfl
   have hacc:((aK al (tw.drop (tw.length-j))).map fun i=>AV.int ((d+i:Nat):Int)).length<ab:=aE (by
    rw[Nn];have:=cv (p:=al) (l:=tw.drop (tw.length-j));exact Mj this dl hj lad Fl)
   have ev:fg (aw (ag C M (jr J (r++sl (j+1))))) (.tup [.str (M.nm k),.loc 7 (r++sl j).length]) (.tup [.str (M.nm n),.loc 7 J.r7.length])=some (al (some k)):=by
    have g:ae (aw (ag C M (jr J (r++sl (j+1))))) 7 (r++sl j).length=some ((wG (M.bc k)).map cy):=by
     refine aa ss ?_;rw[←NK];exact d9
    refine(GU g (hr0 _) cs.2 cn.2 (hs k kn) (hs n hn)).trans ?_;refine aa (Bn _ ak _ an) ?_;rfl
   have es:(ag C M (jr J (r++sl j))).aB ((ag C M (jr J (r++sl j))).r7++[AO.list ((wG (M.bc k)).map cy)])=ag C M (jr J (r++sl (j+1))):=by
    refine aa ss ?_;rw[←NK];rfl
   refine oS ((rg j).trans (if_pos hj)) (bd rfl (bd g6 (bd it (bd rfl (bd (iz kn (by exact o6 Fn)) (bd rfl (bd g6 (bd it (bd rfl (bd (uX kn (by exact o6 Fn)) (bd rfl (bT rfl (bd (iZ kn) (bd (mV _ ak) (fT cpk ?_)))))))))))))));refine bd ((congrArg (fun s=>fg (aw s) (.tup [.str (M.nm k),.loc 7 (r++sl j).length]) (.tup [.str (M.nm n),.loc 7 J.r7.length])) es).trans ev) ?_;refine aa e (aa cu ?_);cases h:al (some k)with
   |true=>refine cT rfl (fT hacc ?_);refine aa (if_pos rfl) (aa Nu (aa dl ?_));exact congrArg (go (j+1) _) es
   |false=>refine cF rfl ?_;refine aa (if_neg NG) ?_;rw[N7];exact congrArg (go (j+1) _) es
 ·refine oN ((rg _).trans (if_neg (Oc _))) ?_;dsimp only;rw[Nat.sub_self];refine aa List.drop_zero ?_
  have ga:∀{m:List AO},ae (aw (ag C M {J with r7:=r++sl tw.length,r6:=J.r6++[.list acc]})) 6 J.r6.length=some acc:=fun{m}=>by
   show((J.r6++[_])[J.r6.length]?).bind _=_;refine aa aG ?_;rfl
  have gl:ae (aw (ag C M {J with r7:=r++sl tw.length,r6:=J.r6++[.list acc]})) 6 J.ml=some (bO M.ah):=by
   show((J.r6++[AO.list acc])[J.ml]?).bind _=_;refine aa (NM jl) (aa j0.ls ?_);rfl
  refine fT capa (bd (ga (m:=[])) (fT capa ?_));by_cases h3:3≤tw.countP al
  ·refine xE (mR (al:=al) (r:=d) (NJ (by decide) h3)) fun i hi=>?_;have il:=vL hi;have ei:i0=some i:=(if_pos h3).trans hi
   have ia:ai acc (.int 0)=some (.int (i:Int)):=by
    refine bp (i:=0) ?_ (by decide);show((aK al tw).map fun i=>AV.int ((d+i:Nat):Int))[0]?=_;refine aa (Nz) ?_;rw[←List.head?_eq_getElem?];refine aa jY ?_;unfold gn at hi;cases hf:tw.reverse.findIdx? al with
    |none=>rw[hf]at hi;cases hi
    |some p=>rw[hf]at hi;cases hi;rfl
   have lo:ax (bO M.ah) none (some (i:Int))=(bO M.ah).take i:=gO;have hi':ax (bO M.ah) (some ((i:Int)+1)) none=(bO M.ah).drop (i+1):=lV (k:=i+1)
   have key:∀X Y:List AV,X=(bO M.ah).take i→Y=(bO M.ah).drop (i+1)→St.bt (ag C M {J with r7:=r++sl tw.length++[.list Y],r6:=J.r6++[.list acc]++[.list X]++[.list (X++Y)],ml:=(J.r6++[AO.list acc]++[AO.list X]).length}) ((J.r6++[AO.list acc]++[AO.list X]++[AO.list (X++Y)]).set (J.r6++[AO.list acc]++[AO.list X]).length (AO.list (X++Y++[AV.int (n:Int)])))=ag C {M with ah:=gh al n M.ah} (lT J (r++sl tw.length) acc n M.ah (some i)):=by
    rintro X Y rfl rfl;refine aa rX (aa gg ?_);rfl
   generalize hLO:ax (bO M.ah) none (some (i:Int))=LO at lo;generalize hHI:ax (bO M.ah) (some ((i:Int)+1)) none=HI at hi';have cl:LO.length<ab:=by refine aa lo ?_;exact NA (List.length_take_le' i _) hY
   have cd:HI.length<ab:=by refine aa hi' ?_;exact NA (by refine aa Oj ?_;exact z9) hY
   have ce:(LO++HI).length<ab:=by
    refine aa lo (aa hi' (aa gg ?_));exact NA (List.length_eraseIdx_le _ _) hY
   have s0:small (i:Int)=true:=aS (by exact(LA [_,_,_,_] (Sx V0) (.k 1000000000) (.a (.a (Sx V0) (.a V2 V1)) (Sx (Sx V3))) (.a (.a (.a V1 V2) V3) (.k 1000000)) rfl (Nq (Nq il (Ny lad)) Fl)));have s1:small ((i:Int)+1)=true:=aS (n:=i+1) (by exact(LA [_,_,_,_] (Sx (Sx V0)) (.k 1000000000) (.a (.a (Sx V0) (.a V2 V1)) (Sx (Sx V3))) (.a (.a (.a V1 V2) V3) (.k 1000000)) rfl (Nq (Nq il (Ny lad)) Fl)));have ga2:∀{r7},ae (aw (ag C M {J with r7:=r7,r6:=J.r6++[.list acc]++[.list LO]})) 6 J.r6.length=some acc:=fun{r7}=>Bx ((NM (by simp)).trans aG);have gl2:∀{r7},ae (aw (ag C M {J with r7:=r7,r6:=J.r6++[.list acc]++[.list LO]})) 6 J.ml=some (bO M.ah):=fun{r7}=>Bx ((NM (by refine aa NH ?_;exact Nat.lt_add_right _ jl)).trans ((NM jl).trans j0.ls));have gb:ae (aw (ag C M {J with r7:=r++sl tw.length++[.list HI],r6:=J.r6++[.list acc]++[.list LO]})) 6 (J.r6++[AO.list acc]).length=some LO:=Bx aG;have gc:ae (aw (ag C M {J with r7:=r++sl tw.length++[.list HI],r6:=J.r6++[.list acc]++[.list LO]})) 7 (r++sl tw.length).length=some HI:=Dg aG;have gd:ae (aw (ag C M {J with r7:=r++sl tw.length++[.list HI],r6:=J.r6++[.list acc]++[.list LO]++[.list (LO++HI)],ml:=(J.r6++[AO.list acc]++[AO.list LO]).length})) 6 (J.r6++[AO.list acc]++[AO.list LO]).length=some (LO++HI):=Bx aG;have key2:=congrArg (K ()) (key LO HI lo hi');clear key;subst hLO hHI;refine cT (dT (by refine aa lacc ?_;exact Int.toNat_le.mp h3)) (bd (ga (m:=[])) (bd ia (bd rfl (fT s0 (bd gl (fT hY (fT cl (bd ga2 (bd ia (bd rfl (fT s1 (bd gl2 (fT hY (fT cd (bd gb (bd gc (fT ce (bd gd (bd gd (fT ce ?_))))))))))))))))))));refine aa ei ?_;exact key2
  ·have ei:i0=none:=if_neg h3;refine cF (dF (by refine aa lacc ?_;exact JZ h3)) (bd gl (bd gl (fT hY (congrArg (K ()) ?_))));refine aa ei ?_;rfl
end
def F_{ρ:Type}(x3:Int)(st:St)(K:Ku ρ):Option ρ:=
 (ae (aw st) 5 st.mopen).bind fun(x11:List AV)=>bK (fun(go12:Nat→List AV×Int×PUnit→St→Option ρ)(j13:Nat)(t14:List AV×Int×PUnit)(s15:St)=>((ae (aw s15) 5 st.mopen).bind fun(x16:List AV)=>if x16.length=x11.length then some x16[j13]? else none).bind fun(x17:Option AV)=>bz x17 (if t14.fst.length<ab then K () ((s15.iE (s15.r5++[AO.list t14.fst])).cA s15.r5.length)else none) fun(x24:AV)=>x24.i?.bind fun(x25:Int)=>bif !decide (x25=t14.snd.fst)then if t14.fst.length<ab then go12 (j13+1) (t14.fst++[AV.int x25],t14.snd.fst,()) s15 else none else go12 (j13+1) (t14.fst,t14.snd.fst,()) s15) (cD (x11.length+1)) 0 ([],x3,()) st
def Jt{ρ:Type}(st:St)(K:Ku ρ):Option ρ:=
 eg (q "a") st fun(x0:Int)(s1:St)=>bif !decide (x0=-1)then if s1.merrs.length<ab then dW (q "a") (s1.aX (s1.merrs++[AV.str (q "unexpected-start-tag")])) fun(x2:Unit)(s3:St)=>FL x0 s3 fun _ s=>F_ x0 s K else none else K () s1
theorem Hb{ρ:Type}{x:Str}{l:List AV}{st:St}{K:Ku ρ}:vo x l st K=Jt st fun _ s1=>dH s1 fun(x28:Unit)(s29:St)=>cx x l s29 fun(x30:Int)(s31:St)=>ej x30 s31 fun(x32:Unit)(s33:St)=>K () s33:=by rfl
theorem dM.str{X:Tr}(I:dM X){k:Nat}(h:k<X.n):PyData.strOk (X.nm k)=true:=by
 by_cases e:k=1
 ·refine aa e ?_;refine aa I.Ic ?_;decide+kernel
 ·exact AD _ (I.E1 k h e)
section
variable{B C:Bs}{M:Ms}{J:Jk}{b:Nat}
theorem DM(j0:bL M J)(fl:M.aj.length+1<1000000){k:Nat}:∃J',bL {M with aj:=M.aj.filter (fun a=>!decide (a=k))} J'∧J'.dg=J.dg∧∀{ρ:Type}(K:Ku ρ),F_ (k:Int) (ag C M J) K=K () (ag C {M with aj:=M.aj.filter (fun a=>!decide (a=k))} J'):=by
 have g5:=fE (C:=C) j0 (M':=M);refine⟨lh J (M.aj.filter (fun a=>!decide (a=k))) J.r7,⟨aG,j0.ls⟩,rfl,fun K=>bd g5 ?_⟩;refine cR M.aj.reverse a8 (fun a=>!decide (a=k)) rfl (by rw[Nn]) (by refine aa Nx ?_;exact o6 fl) ?_ ?_
 ·intro go j acc o ho hacc;refine bd (t:=some (a8 o)) (bd g5 ((if_pos rfl).trans (by refine aa (Nz) (aa ho ?_);rfl))) (oS rfl (bd rfl ?_));have e:decide ((o:Int)=(k:Int))=decide (o=k):=decide_eq_decide.mpr OM;show cond (!decide ((o:Int)=(k:Int))) _ _=_;refine aa e ?_;cases decide (o=k)with
  |false=>exact fT hacc rfl
  |true=>rfl
 ·intro go hacc;refine bd (t:=none) (bd g5 ((if_pos rfl).trans (by exact aa (NO (by simp)) rfl))) (oN rfl (fT hacc (congrArg (K ()) ?_)));unfold lh;exact bR List.filter_reverse rfl
theorem Kn{Z:Bs}{L:List (Option Nat)}:au {Z with ah:=L}={au Z with ah:=L}:=rfl
theorem oI(j0:bL (au B) J)(W:Ok B b){x:Str}{l:List cj}:bL (au (aI x l B)) (gN J (B.X.n::B.aj)):=by
 refine ar (iA (x:=x) (l:=l) W.ne) fun p hX hO=>?_;have:=j0.gN (M':=au (aI x l B)) (show(aI _ _ B).ah=B.ah from bQ);rw[show(au (aI x l B)).aj=B.X.n::B.aj from hO]at this;exact this
theorem ua(W:Ok B (b+2))(I:dM B.X)(j0:bL (au B) J){x:Str}{l:List cj}(hl:l∈bX){ρ:Type}(K:Ki ρ):
 cx x (l.map cy) (ag C (au B) J) K=K (B.X.n:Int) (ag C (au (aI x l B)) (gN J (B.X.n::B.aj))):=by
 refine(vv j0 (bN W I.nN) W.ne (by have:=fB _ hl;exact zH this) K).trans ?_;exact aa (show ag C (lL x l (au B)) (gN J ((au B).n::(au B).aj))=ag C (au (aI x l B)) (gN J (B.X.n::B.aj))from(vz W).ag) rfl
theorem nS(W:Ok B (b+3))(I:dM B.X)(j0:bL (au B) J){x:Str}{l:List cj}(hx:x∈hW)(h1:x≠q "template")(h2:i7 x=false)(hl:l∈bX):
 ∃J',bL (au (gp x l B)) J'∧J'.dg=J.dg∧∀{ρ:Type}(K:Ku ρ),(cx x (l.map cy) (ag C (au B) J) fun(x30:Int)(s31:St)=>ej x30 s31 fun(x32:Unit)(s33:St)=>K () s33)=K () (ag C (au (gp x l B)) J'):=by
 have W1:Ok (aI x l B) (b+2):=W.new h1 (fun _=>h2) hl;have I1:=I.aI W (l:=l) hx;refine gS (u2 (x:=x) (l:=l) W) fun n1 _ _=>?_;obtain⟨J',j1,s1,h⟩:=DK (C:=C) (M:=au (aI x l B)) (n:=B.X.n) (oI j0 W) (bN W1 I1.nN) (by show B.X.n<(aI x l B).X.n;exact Mn n1) W1.al (fun k hk=>I1.str hk);exact⟨J',j1,s1,fun K=>(ua (W.le (Oe _)) I j0 hl _).trans (h _)⟩
theorem DJ(W:Ok B (b+3))(I:dM B.X)(j0:bL (au B) J){x:Str}{l:List cj}(hx:x∈hW)(h1:x≠q "template")(h2:cO x=false→i7 x=false)(hl:l∈bX):
 ∃J',bL (au {aI x l B with ah:=.none::(aI x l B).ah,free:=false}) J'∧J'.dg=J.dg∧∀{ρ:Type}(K:Ku ρ),(cx x (l.map cy) (ag C (au B) J) fun(x4:Int)(s5:St)=>(ae (aw s5) 6 s5.mlist).bind fun(x6:List AV)=>(ae (aw s5) 6 s5.mlist).bind fun(x7:List AV)=>if x7.length<ab then K () ((s5.bt (s5.r6.set s5.mlist (AO.list (x7++[AV.int (-1)])))).wK false)else none)=K () (ag C (au {aI x l B with ah:=.none::(aI x l B).ah,free:=false}) J'):=by
 have W1:Ok (aI x l B) (b+2):=W.new h1 h2 hl;have jn:=oI j0 W (x:=x) (l:=l);have F1:gw (au (aI x l B)):=bN W1 (I.aI W (l:=l) hx).nN;have Fl:=F1.l;have hY:(bO (au (aI x l B)).ah).length<ab:=aE (by rw[Nn];refine aa Nx ?_;exact NS (by assumption));refine⟨zx (gN J (B.X.n::B.aj)) (.none::(aI x l B).ah),jn.zx (M':=au {aI x l B with ah:=.none::(aI x l B).ah,free:=false}) rfl,rfl,fun K=>(ua (W.le (Oe _)) I j0 hl _).trans ?_⟩;refine bd (iV jn) (bd (iV jn) (fT hY (congrArg (K ()) ?_)));unfold zx bO;refine aa NN (aa Nu ?_);rfl
theorem DI(W:Ok B (b+3))(I:dM B.X)(j0:bL (au B) J):
 ∃J',bL (au (bj B)) J'∧J'.dg=J.dg∧∀{ρ:Type}(K:Ku ρ),Jt (ag C (au B) J) K=K () (ag C (au (bj B)) J'):=by
 have F:gw (au B):=bN (b:=b+1) W I.nN;refine bV (gZ (C:=C) j0 F W.hl (x:=q "a")) fun J1 j1 s1 h1=>?_;unfold bj;cases e:jd B.X.nm (q "a") B.ah with
 |none=>
  refine⟨J1,j1,s1,fun K=>(h1 _).trans ?_⟩;refine aa (show jd (au B).nm (q "a") (au B).ah=none from e) ?_;exact cF rfl rfl
 |some k=>
  have W1:Ok {B with aq:=B.aq++[q "unexpected-start-tag"]} (b+2):=W.err (by simp);have W2:=(W1.le (show b+1≤b+2 by exact Oe (_+1))).aU (b:=b) Lh Li;refine bV (kU (C:=C) (B:={B with aq:=B.aq++[q "unexpected-start-tag"]}) (J:=J1) W1 I ⟨j1.op,j1.ls⟩ (x:=q "a")) fun J2 j2 s2 h2=>?_;generalize hB:aU (q "a") {B with aq:=B.aq++[q "unexpected-start-tag"]}=B1 at*;have el:B1.ah.erase (some k)=B1.ah.filter (eT k):=iU W2.ln;have eo:B1.aj.erase k=B1.aj.filter (fun a=>!decide (a=k)):=(W2.nd.erase_eq_filter k).trans (List.filter_congr fun a _=>by by_cases h:a=k<;>simp[h]);have Fl2:(au B1).ah.length+1<1000000:=by have:=W2.lN;show B1.ah.length+1<_;exact Dd this
  have Fo2:(au B1).aj.length+1<1000000:=by have:=W2.oN;have:=W2.N;show B1.aj.length+1<_;lia
  have j3:bL {au B1 with ah:=(au B1).ah.filter (eT k)} (uE J2 ((au B1).ah.filter (eT k))):=j2.K3 (M':={au B1 with ah:=(au B1).ah.filter (eT k)}) rfl;refine bV (DM (C:=C) j3 Fo2 (k:=k)) fun J4 j4 s4 h4=>?_;refine⟨J4,?_,s4.trans (s2.trans s1),fun K=>(h1 _).trans ?_⟩
  ·dsimp only;refine aa el (aa eo ?_);exact j4
  ·refine aa (show jd (au B).nm (q "a") (au B).ah=some k from e) ?_;refine cT (nT (dF (by show¬(k:Int)=-1;exact sr))) (fT (cY F) ?_);refine aa cW ?_;refine(h2 _).trans ((nQ j2 Fl2 _).trans ((h4 K).trans ?_));refine aa el (aa eo ?_);rfl
end
section
variable{B C:Bs}{M:Ms}{J:Jk}{b:Nat}
theorem EN:(bj B).X=B.X:=by
 unfold bj;split
 ·rfl
 ·exact kZ (B:={B with aq:=B.aq++[q "unexpected-start-tag"]})
theorem oV(W:Ok B b)(I:dM B.X){x:Str}:∃pre a l,B.aj=pre++a::l∧(∀c∈pre,B.X.nm c≠x∧cO (B.X.nm c)=false)∧
 ((B.X.nm a=x∧fZ B x=true∧aQ (fun k=>decide (x=B.X.nm k)) B.aj=(l.length:Int)∧aQ (fun k=>cw (B.X.nm k)) B.aj≤(l.length:Int)∧(cO x=false→aQ (fun k=>cw (B.X.nm k)) B.aj<(l.length:Int)))∨
  (fZ B x=false∧aQ (fun k=>decide (x=B.X.nm k)) B.aj<(l.length:Int)∧aQ (fun k=>cw (B.X.nm k)) B.aj=(l.length:Int))):=by
 refine sk (W.Ga (p:=d8 B.X x)) fun a l h=>?_;have sp:=bB h;have rR:∀{c},c∈B.aj→cw (B.X.nm c)=cO (B.X.nm c):=fun{c}h=>(kB _ (W.rR I h)).2.1.symm;have ei:fZ B x=d8 B.X x a:=by unfold fZ;exact aa h rfl
 have en:∀{c},d8 B.X x c=decide (x=B.X.nm c):=fun{c}=>Bool.or_false _
 have hp:∀c∈B.aj.takeWhile (fun k=>!d8 B.X x k&&!cO (B.X.nm k)),B.X.nm c≠x∧cO (B.X.nm c)=false:=fun c hc=>by
  refine xA (Nt.mp (b8 (p:=fun k=>!d8 B.X x k&&!cO (B.X.nm k)) hc)) fun p1 p2=>?_;rw[en]at p1;refine⟨fun e=>?_,by simpa using p2⟩;rw[dT e.symm]at p1;exact nomatch p1
 have pm:∀{c},c∈B.aj.takeWhile (fun k=>!d8 B.X x k&&!cO (B.X.nm k))→c∈B.aj:=fun{c}hc=>by refine aa sp ?_;exact Nr _ hc
 have e1:aQ (fun k=>decide (x=B.X.nm k)) B.aj=aQ (fun k=>decide (x=B.X.nm k)) (a::l):=by
  conv=>lhs;rw[sp]
  exact cX fun c hc=>dF fun e=>(hp c hc).1 e.symm
 have e2:aQ (fun k=>cw (B.X.nm k)) B.aj=aQ (fun k=>cw (B.X.nm k)) (a::l):=by
  conv=>lhs;rw[sp]
  exact cX fun c hc=>(rR (pm hc)).trans (hp c hc).2
 have am:a∈B.aj:=by refine aa sp ?_;simp
 refine⟨_,a,l,sp,hp,?_⟩;by_cases ha:B.X.nm a=x
 ·refine .inl ⟨ha,by exact aa ei (aa en (aa (dT ha.symm) rfl)),e1.trans (f6 (dT ha.symm)),?_,fun hs=>?_⟩
  ·rw[e2];have:=c_ (p:=fun k=>cw (B.X.nm k)) (l:=a::l);rw[Od]at this;exact(Int.add_le_add_iff_right 1).mp this
  ·rw[e2,gA (p:=fun k=>cw (B.X.nm k)) ((rR am).trans (by rw[ha];exact hs))];exact c_
 ·have nf:decide (x=B.X.nm a)=false:=dF fun e=>ha e.symm;refine .inr ⟨by rw[ei,en,nf],?_,?_⟩
  ·rw[e1,gA (p:=fun k=>decide (x=B.X.nm k)) nf];exact c_
  ·rw[e2];refine f6 ((rR am).trans ?_);have:=et h;rw[en,nf]at this;simpa using this
theorem fD{x:Str}(h:x∈eQ):x∈hW:=.tail _ (.tail _ (Nr _ (Nr _ h)))
theorem nc{x:Str}(h:x∈cq):x∈hW:=.tail _ (.tail _ (Nr _ (Nm _ h)))
theorem u9{x:Str}(h:x∈bZ):x∈hW:=.tail _ (.tail _ (Nm _ h))
theorem Ik(W:Ok B (b+7+2*B.ah.length))(I:dM B.X)(j0:bL (au B) J){l:List cj}(hl:l∈bX):
 ∃J',bL (au (dX (q "a") l B)) J'∧J'.dg=J.dg∧∀{ρ:Type}(K:Ku ρ),vo (q "a") (l.map cy) (ag C (au B) J) K=K () (ag C (au (dX (q "a") l B)) J'):=by
 have am:q "a"∈eQ:=.head _;refine ja (fY _ am) fun a1 a2 a3 _=>?_;have len:=gE (B:=B);refine bV (DI (C:=C) (b:=b+4+2*B.ah.length) (W.le ((LE [_,_] (.a (.a (.a V0 (.k 4)) V1) (.k 3)) (.a (.a V0 (.k 7)) V1) rfl))) I j0) fun J1 j1 s1 h1=>?_;have W1:Ok (bj B) (b+5+2*B.ah.length):=(show Ok B (b+5+2*B.ah.length+2)from W.le ((LE [_,_] (.a (.a (.a V0 (.k 5)) V1) (.k 2)) (.a (.a V0 (.k 7)) V1) rfl))).bj;have I1:dM (bj B).X:=by refine aa EN ?_;exact I
 refine ma (gY (C:=C) (b:=b+3) (W1.le ((LA [_,_,_] (.a (Sx (.a V0 (.k 3))) V1) (.a (.a V0 (.k 5)) (.m 2 V2)) V1 V2 rfl len))) I1.nN j1) fun J2 j2 s2 n2 h2=>?_;have W2:Ok (aP (bj B)) (b+3):=(W1.le (by exact(LA [_,_,_] (.a (.a V0 (.k 3)) V1) (.a (.a V0 (.k 5)) (.m 2 V2)) V1 V2 rfl len))).aP;refine bV (nS (C:=C) W2 (I1.aP (b:=b+3) (W1.le (by exact(LA [_,_,_] (.a (.a V0 (.k 3)) V1) (.a (.a V0 (.k 5)) (.m 2 V2)) V1 V2 rfl len)))) j2 (fD am) a1 a3 hl) fun J3 j3 s3 h3=>?_
 have e:dX (q "a") l B=gp (q "a") l (aP (bj B)):=by
  refine aa hF (aa (if_pos rfl) ?_);unfold lz;exact aa (if_neg (fun h=>absurd h.1 (by decide+kernel))) rfl
 exact⟨J3,j3,s3.trans (s2.trans s1),fun K=>Hb.trans ((h1 _).trans ((h2 _).trans (h3 K)))⟩
theorem Il(W:Ok B (b+7+2*B.ah.length))(I:dM B.X)(j0:bL (au B) J){x:Str}(hx:x∈eQ)(na:x≠q "a")(nn:x≠q "nobr"){l:List cj}(hl:l∈bX):
 ∃J',bL (au (dX x l B)) J'∧J'.dg=J.dg∧∀{ρ:Type}(K:Ku ρ),z5 x (l.map cy) (ag C (au B) J) K=K () (ag C (au (dX x l B)) J'):=by
 refine ja (fY _ hx) fun a1 a2 a3 _=>?_;refine bV (gZ (C:=C) j0 (bN (b:=b) (W.le ((LE [_,_] (.a V0 (.k 2)) (.a (.a V0 (.k 7)) V1) rfl))) I.nN) W.hl (x:=q "a")) fun J1 j1 s1 h1=>?_;refine ma (gY (C:=C) (b:=b+3) (W.le ((LE [_,_] (.a (Sx (.a V0 (.k 3))) V1) (.a (.a V0 (.k 7)) (.m 2 V1)) rfl))) I.nN j1) fun J2 j2 s2 n2 h2=>?_;have W2:Ok (aP B) (b+3):=(W.le (by exact(LE [_,_] (.a (.a V0 (.k 3)) V1) (.a (.a V0 (.k 7)) (.m 2 V1)) rfl))).aP;refine bV (nS (C:=C) W2 (I.aP (b:=b+3) (W.le ((LE [_,_] (.a (.a V0 (.k 3)) V1) (.a (.a V0 (.k 7)) (.m 2 V1)) rfl)))) j2 (fD hx) a1 a3 hl) fun J3 j3 s3 h3=>?_
 have e:dX x l B=gp x l (aP B):=by
  refine aa hF (aa (if_neg na) ?_);unfold lz;exact aa (if_neg (fun h=>nn h.1)) rfl
 refine aa e ?_;exact⟨J3,j3,s3.trans (s2.trans s1),fun K=>(h1 _).trans ((h2 _).trans (h3 K))⟩
theorem Im(W:Ok B (b+9+2*B.ah.length))(I:dM B.X)(j0:bL (au B) J){l:List cj}(hl:l∈bX):
 ∃J',bL (au (dX (q "nobr") l B)) J'∧J'.dg=J.dg∧∀{ρ:Type}(K:Ku ρ),z6 (q "nobr") (l.map cy) (ag C (au B) J) K=K () (ag C (au (dX (q "nobr") l B)) J'):=by
 have hx:q "nobr"∈eQ:=by decide+kernel
 refine ja (fY _ hx) fun a1 a2 a3 _=>?_;refine bV (gZ (C:=C) j0 (bN (b:=b) (W.le ((LE [_,_] (.a V0 (.k 2)) (.a (.a V0 (.k 9)) V1) rfl))) I.nN) W.hl (x:=q "a")) fun J1 j1 s1 h1=>?_;refine ma (gY (C:=C) (b:=b+3) (W.le ((LE [_,_] (.a (Sx (.a V0 (.k 3))) V1) (.a (.a V0 (.k 9)) (.m 2 V1)) rfl))) I.nN j1) fun J2 j2 s2 n2 h2=>?_;have W2:Ok (aP B) (b+9+B.ah.length):=(show Ok B (b+9+B.ah.length+B.ah.length)from W.le ((LE [_,_] (.a (.a V0 V1) V1) (.a V0 (.m 2 V1)) rfl))).aP;have I2:=I.aP (b:=b+3) (W.le ((LE [_,_] (.a (.a V0 (.k 3)) V1) (.a (.a V0 (.k 9)) (.m 2 V1)) rfl)));have len:=fO (B:=B)
 have e:dX (q "nobr") l B=gp (q "nobr") l (if fZ (aP B) (q "nobr")=true then jF (aP B)else aP B):=by
  refine aa hF (aa (if_neg (by decide+kernel)) ?_);unfold lz;cases fZ (aP B) (q "nobr")with
  |true=>rw[if_pos ⟨rfl,rfl⟩,if_pos rfl]
  |false=>rw[if_neg (fun h=>nomatch h.2),if_neg NG]
 refine aa e ?_;clear e;generalize hB:aP B=B2 at*;have F2:gw (au B2):=bN (b:=b) (W2.le ((LE [_,_] (.a V0 (.k 2)) (.a (.a V0 (.k 9)) V1) rfl))) I2.nN;have Fn:=F2.n;refine xE (iu (B:=C) (ns:=[AV.str (q "nobr")]) (pn:=fun k=>decide (q "nobr"=B2.X.nm k)) j2 (o6 Fn) F2.o F2.hk fun k _=>u4) fun r3 h3=>?_;refine xE (iu (B:=C) (ns:=[AV.str (q "html"),AV.str (q "applet"),AV.str (q "marquee"),AV.str (q "object"),AV.str (q "table")]) (pn:=fun k=>cw (B2.X.nm k)) (j2.jr (r:=r3)) (o6 Fn) F2.o F2.hk fun k _=>lX _) fun r4 h4=>?_;have j4:bL (au B2) (jr J2 r4):=j2.jr;refine dh (oV W2 I2 (x:=q "nobr")) fun pre a m sp hp hc=>?_;rcases hc with⟨_,si,l1,l2,l3⟩|⟨si,l1,l2⟩
 ·refine aa (if_pos si) ?_;have W3:Ok {B2 with aq:=B2.aq++[q "unexpected-start-tag"]} (b+8+B.ah.length):=(show Ok B2 (b+8+B.ah.length+1)from W2.le ((LE [_,_] (.a (.a (.a V0 (.k 8)) V1) (.k 1)) (.a (.a V0 (.k 9)) V1) rfl))).err (by simp);refine bV (kU (C:=C) (B:={B2 with aq:=B2.aq++[q "unexpected-start-tag"]}) (J:=jr J2 r4) (b:=b) (W3.le ((LE [_,_] (.a V0 (.k 2)) (.a (.a V0 (.k 8)) V1) rfl))) I2 ⟨j4.op,j4.ls⟩ (x:=q "nobr")) fun J5 j5 s5 h5=>?_;have W5:=(show Ok {B2 with aq:=B2.aq++[q "unexpected-start-tag"]} (b+7+B.ah.length+1)from W3.le ((LE [_,_] (.a (.a (.a V0 (.k 7)) V1) (.k 1)) (.a (.a V0 (.k 8)) V1) rfl))).aU Ko Kp;have l5:=dA (B:={B2 with aq:=B2.aq++[q "unexpected-start-tag"]}) (x:=q "nobr");have I5:dM (aU (q "nobr") {B2 with aq:=B2.aq++[q "unexpected-start-tag"]}).X:=by refine aa kZ ?_;exact I2
  dsimp only at l5;refine ma (gY (C:=C) (b:=b+3) (W5.le ((LA [_,_,_,_] (.a (Sx (.a V0 (.k 3))) V1) (.a (.a V0 (.k 7)) V2) (.a V1 V3) (.a V3 V2) rfl (Nq l5 (Ny len))))) I5.nN j5) fun J6 j6 s6 n6 h6=>?_;have W6:=(show Ok (aU (q "nobr") {B2 with aq:=B2.aq++[q "unexpected-start-tag"]}) (b+3+_)from W5.le ((LA [_,_,_,_] (.a (.a V0 (.k 3)) V1) (.a (.a V0 (.k 7)) V2) (.a V1 V3) (.a V3 V2) rfl (Nq l5 (Ny len))))).aP;have I6:=I5.aP (b:=b+3) (W5.le ((LA [_,_,_,_] (.a (.a V0 (.k 3)) V1) (.a (.a V0 (.k 7)) V2) (.a V1 V3) (.a V3 V2) rfl (Nq l5 (Ny len)))));refine bV (nS (C:=C) W6 I6 j6 (fD hx) a1 a3 hl) fun J7 j7 s7 h7=>?_;refine⟨J7,j7,s7.trans (s6.trans (s5.trans (s2.trans s1))),fun K=>(h1 _).trans ((h2 _).trans ((h3 _).trans ((h4 _).trans (cT (dT ?_) (fT (cY F2) ?_)))))⟩
  ·show aQ (fun k=>cw (B2.X.nm k)) B2.aj<aQ (fun k=>decide (q "nobr"=B2.X.nm k)) B2.aj;have:=l3 a2;exact L0 l1 a2 l3
  ·exact(congrArg (fun s=>dW (q "nobr") s _) cW).trans ((h5 _).trans ((h6 _).trans (h7 K)))
 ·refine aa (if_neg (by rw[si];exact NG)) ?_;refine bV (nS (C:=C) (b:=b) (W2.le ((LE [_,_] (.a V0 (.k 3)) (.a (.a V0 (.k 9)) V1) rfl))) I2 j4 (fD hx) a1 a3 hl) fun J7 j7 s7 h7=>?_;refine⟨J7,j7,s7.trans (s2.trans s1),fun K=>(h1 _).trans ((h2 _).trans ((h3 _).trans ((h4 _).trans (cF (dF ?_) (h7 K)))))⟩;show¬aQ (fun k=>cw (B2.X.nm k)) B2.aj<aQ (fun k=>decide (q "nobr"=B2.X.nm k)) B2.aj;exact LK l2 l1
theorem Io(W:Ok B (b+4+B.ah.length))(I:dM B.X)(j0:bL (au B) J){x:Str}(hx:x∈cq){l:List cj}(hl:l∈bX):
 ∃J',bL (au (fc x l B)) J'∧J'.dg=J.dg∧∀{ρ:Type}(K:Ku ρ),qL x (l.map cy) (ag C (au B) J) K=K () (ag C (au (fc x l B)) J'):=by
 refine gS (iY _ hx) fun a1 a2 a3=>?_;refine bV (gZ (C:=C) j0 (bN (b:=b) (W.le (Mo)) I.nN) W.hl (x:=q "a")) fun J1 j1 s1 h1=>?_;refine ma (gY (C:=C) (b:=b+3) (W.le (NQ _)) I.nN j1) fun J2 j2 s2 n2 h2=>?_;have W2:Ok (aP B) (b+3):=(W.le (by exact(LE [_,_] (.a (.a V0 (.k 3)) V1) (.a (.a V0 (.k 4)) V1) rfl))).aP;obtain⟨J3,j3,s3,h3⟩:=DJ (C:=C) W2 (I.aP (b:=b+3) (W.le (by exact(LE [_,_] (.a (.a V0 (.k 3)) V1) (.a (.a V0 (.k 4)) V1) rfl)))) j2 (nc hx) a1 (fun h=>by rw[a2]at h;cases h) hl;exact⟨J3,j3,s3.trans (s2.trans s1),fun K=>(h1 _).trans ((h2 _).trans (h3 K))⟩
theorem Iq(W:Ok B (b+2))(I:dM B.X)(j0:bL (au B) J){x:Str}(hx:x∈bZ){l:List cj}(hl:l∈bX):
 ∃J',bL (au (aI x l B)) J'∧J'.dg=J.dg∧∀{ρ:Type}(K:Ku ρ),qM x (l.map cy) (ag C (au B) J) K=K () (ag C (au (aI x l B)) J'):=by
 refine bV (gZ (C:=C) j0 (bN (b:=b) (W.le (z3)) I.nN) W.hl (x:=q "a")) fun J1 j1 s1 h1=>?_;exact⟨_,oI j1 W,s1,fun K=>(h1 _).trans (ua W I j1 hl _)⟩
end
def jA(x:Str):Bool:=decide (x∈cq)
noncomputable def cN(l:List (Option Nat)):Nat:=l.countP Option.isNone
structure Iv (B:Bs):Prop where
 X:dM B.X
 EU:B.aj.countP (fun k=>jA (B.X.nm k))≤cN B.ah
 er:∀w∈B.aq,PyData.strOk w=true
theorem iO{k:Nat}:∀{l:List (Option Nat)},cN (l.erase (some k))=cN l
 |[]=>rfl
 |a::l=>by
  refine aa List.erase_cons ?_;split
  ·rename_i h;exact aa (eq_of_beq h) rfl
  ·show List.countP _ (a::_)=List.countP _ (a::_);exact aa List.countP_cons (aa List.countP_cons (aa (show List.countP Option.isNone (l.erase (some k))=List.countP Option.isNone l from iO) rfl))
theorem og{l:List (Option Nat)}(h:∀o∈l,o.isSome=true):cN l=0:=by
 refine List.countP_eq_zero.mpr fun o ho=>?_;have:=h o ho;clear ho;cases o with
 |none=>first|exact ns this|exact gz this
 |some _=>exact NG
theorem GG{l:List (Option Nat)}(h:0<cN l):.none∈l:=by
 refine ar (List.countP_pos_iff.mp h) fun o ho hp=>?_;cases o with
 |none=>exact ho
 |some _=>first|exact ns hp|exact gz hp
theorem AR{l:List (Option Nat)}:cN l.reverse=cN l:=(List.reverse_perm l).countP_eq _
theorem D6{al:Option Nat→Bool}{n:Nat}{l:List (Option Nat)}:cN (gh al n l)=cN l:=by
 show List.countP _ (some n::_)=_;split
 ·cases h:gn al (l.takeWhile Option.isSome) (l.dropWhile Option.isSome).length with
  |none=>rfl
  |some i=>
   dsimp only;unfold gn at h;cases hp:(l.takeWhile Option.isSome).reverse.findIdx? al with
   |none=>rw[hp]at h;cases h
   |some p=>
    rw[hp]at h;have h:(l.dropWhile Option.isSome).length+p=i:=Oi.mp h;refine bR h ?_;have e:l.reverse=(l.dropWhile Option.isSome).reverse++(l.takeWhile Option.isSome).reverse:=by exact bR N3 (aa NB rfl)
    have tw0:∀o∈(l.takeWhile Option.isSome).reverse,o.isSome=true:=fun o ho=>b8 (N6.mp ho);refine(?_:cN (List.reverse _)=cN l);rw[AR,←AR (l:=l),e,List.eraseIdx_append_of_length_le (by refine aa Nx ?_;exact LB)];unfold cN;refine aa OQ (aa OQ ?_);refine aa (show List.countP Option.isNone (List.takeWhile Option.isSome l).reverse=0 from og tw0) ?_;rw[show List.countP Option.isNone ((List.takeWhile Option.isSome l).reverse.eraseIdx _)=0 from og fun o ho=>tw0 o (List.mem_of_mem_eraseIdx ho)]
 ·rfl
section
variable{B C:Bs}{M:Ms}{J:Jk}{b:Nat}
theorem Iv.set(I:Iv B){o:List Nat}{l:List (Option Nat)}{e:List Str}{f:Bool}(ho:o.Sublist B.aj)(hl:cN l=cN B.ah)(he:∀w∈e,PyData.strOk w=true):Iv {B with aj:=o,ah:=l,aq:=e,free:=f}:=
 ⟨I.X,by show List.countP _ o≤cN l;refine aa hl ?_;exact N1 (ho.countP_le) I.EU,he⟩
theorem Iv.err(I:Iv B){w:Str}(hw:PyData.strOk w=true):∀v∈B.aq++[w],PyData.strOk v=true:=fun v hv=>by
 rcases Nw.mp hv with h|h
 ·exact I.er v h
 ·refine aa (NX.mp h) ?_;exact hw
theorem w1:PyData.strOk (q "open-elements")=true:=by decide+kernel
theorem w2:PyData.strOk (q "unexpected-end-tag")=true:=by decide+kernel
theorem w3:PyData.strOk (q "adoption")=true:=by decide+kernel
theorem w4:PyData.strOk (q "unexpected-start-tag")=true:=by decide+kernel
theorem w5:PyData.strOk (q "non-void-html-element-start-tag-with-trailing-solidus")=true:=by decide+kernel
theorem Iv.ite(I:Iv B){c:Prop} [Decidable c]{w:Str}(hw:PyData.strOk w=true):∀v∈(if c then B.aq else B.aq++[w]),PyData.strOk v=true:=by
 split
 ·exact I.er
 ·exact I.err hw
theorem Iv.eG(I:Iv B){x:Str}:Iv (eG x B):=by
 unfold Hx.eG;cases h:B.aj.dropWhile (cB B.X x)with
 |nil=>exact I
 |cons a l=>
  dsimp only;split
  ·exact I.set (eM (bB h)) rfl (I.ite w1)
  ·exact I.set (NW _) rfl (I.err w2)
theorem Iv.eA(I:Iv B){k:Nat}:Iv (eA k B):=by
 unfold Hx.eA;split
 ·split
  ·exact I.set ((List.tail_sublist _).trans (OD _)) iO (I.ite w3)
  ·exact I.set (NW _) rfl (I.err w3)
 ·exact I.set (NW _) iO (I.err w3)
theorem Iv.aU(I:Iv B){x:Str}:Iv (aU x B):=by
 unfold Hx.aU;cases h:B.aj with
 |nil=>exact I
 |cons a l=>
  dsimp only;split
  ·exact I.set (by refine aa h ?_;exact List.sublist_cons_self _ _) rfl I.er
  ·unfold ie;split
   ·exact I.eG
   ·exact I.eA
theorem Iv.bj(I:Iv B):Iv (bj B):=by
 unfold Hx.bj;cases jd B.X.nm (q "a") B.ah with
 |none=>exact I
 |some k=>
  have I1:Iv {B with aq:=B.aq++[q "unexpected-start-tag"]}:=I.set (NW _) rfl (I.err w4);have I2:=I1.aU (x:=q "a");exact I2.set (OJ) iO I2.er
theorem Iv.eL(I:Iv B){sl:Bool}:Iv (eL sl B):=by
 cases sl with
 |true=>exact I.set (NW _) rfl (I.err w5)
 |false=>exact I
theorem B7(W:Ok B b){x:Str}{l:List cj}:(aI x l B).aj.countP (fun k=>jA ((aI x l B).X.nm k))=B.aj.countP (fun k=>jA (B.X.nm k))+(if jA x then 1 else 0):=by
 refine ar (iA (x:=x) (l:=l) W.ne) fun p hX hO=>?_;refine aa hO (aa hX (aa List.countP_cons ?_));refine(?_:List.countP (fun k=>jA (aN B.X.nm B.X.n x k)) B.aj+(if jA (aN B.X.nm B.X.n x B.X.n)=true then 1 else 0)=_);refine aa az ?_
 congr 1
 exact List.countP_congr fun k hk=>by rw[ay (by have:=W.hk k hk;exact Oa (by assumption))]
theorem ng{x:Str}{l:List cj}:(aI x l B).aq=B.aq:=by unfold aI;split<;>rfl
theorem Iv.aI(I:Iv B)(W:Ok B b){x:Str}{l:List cj}(hx:x∈hW)(hm:jA x=false):Iv (aI x l B):=
 ⟨I.X.aI W hx,by refine aa (B7 W) (aa hm (aa bQ ?_));exact I.EU,by refine aa ng ?_;exact I.er⟩
theorem u6:∀x∈hW,cO x=false→jA x=false:=by decide+kernel
theorem Iv.fN:∀(ks done:List (Option Nat))(B:Bs),Iv B→B.ah=ks.reverse++done→Ok B (b+ks.length)→(∀o∈ks,o≠.none)→Iv (Hx.fN done ks B)
 |[]=>fun done B I h W _=>I
 |.none::ks=>fun done B I h W hs=>absurd rfl (hs _ (.head _))
 |some k::ks=>fun done B I h W hs=>by
  have h':B.ah=ks.reverse++some k::done:=by refine aa h ?_;simp
  have W1:Ok B (b+ks.length+1):=W;have km:some k∈B.ah:=by refine aa h' ?_;simp
  have ka:B.X.nm k∈hW:=I.X.E1 k (W.hl k km) (by have:=(W.l2 k km).1;exact Kz this);refine Iv.fN ks (some B.X.n::done) {Hx.aI (B.X.nm k) (B.X.bc k) B with ah:=ks.reverse++some B.X.n::done} ((I.aI W (l:=B.X.bc k) ka (u6 _ ka (W.l2 k km).2)).set (NW _) ?_ (I.aI W (l:=B.X.bc k) ka (u6 _ ka (W.l2 k km).2)).er) rfl (W1.re h') (fun o ho=>hs o (.tail _ ho));refine aa bQ (aa h' ?_);unfold cN;refine aa OQ ?_;refine aa OQ ?_;rw[List.countP_cons_of_neg (NG),List.countP_cons_of_neg (NG)]
theorem Iv.aP(I:Iv B)(W:Ok B (b+B.ah.length)):Iv (Hx.aP B):=by
 refine Iv.fN (b:=b) _ _ B I ?_ (W.le ?_) ?_
 ·rw[Oq];exact aa NB rfl
 ·refine aa Nx ?_;have:=gk (p:=aT B.aj) (l:=B.ah);exact vj this
 ·intro o ho e;have:=b8 (N6.mp ho);clear ho;subst e;exact gz this
theorem Iv.gp(I:Iv B)(W:Ok B b){x:Str}{l:List cj}(hx:x∈eQ):Iv (gp x l B):=by
 have I1:=I.aI W (l:=l) (fD hx) (u6 _ (fD hx) (fY _ hx).2.1);exact I1.set (NW _) D6 I1.er
theorem Iv.jF(I:Iv B)(W:Ok B (b+2+B.ah.length)):Iv (jF B):=by
 have I1:Iv {B with aq:=B.aq++[q "unexpected-start-tag"]}:=I.set (NW _) rfl (I.err w4);have W1:Ok {B with aq:=B.aq++[q "unexpected-start-tag"]} (b+1+B.ah.length):=(show Ok B (b+1+B.ah.length+1)from W.le ((LE [_,_] (Sx (.a (Sx V0) V1)) (.a (.a V0 (.k 2)) V1) rfl))).err (by simp);exact(I1.aU).aP (b:=b) (((show Ok {B with aq:=B.aq++[q "unexpected-start-tag"]} (b+B.ah.length+1)from W1.le ((LE [_,_] (Sx (.a V0 V1)) (.a (Sx V0) V1) rfl))).aU Ko Kp).le (by have:=dA (B:={B with aq:=B.aq++[q "unexpected-start-tag"]}) (x:=q "nobr");dsimp only at this;exact vj this))
theorem Iv.dX(I:Iv B)(W:Ok B (b+6+2*B.ah.length)){x:Str}{l:List cj}(hx:x∈eQ):Iv (dX x l B):=by
 have Wp:=oD W (x:=x)
 have Ip:Iv (Hx.aP (if x=q "a"then Hx.bj B else B)):=by
  split
  ·have W1:Ok (Hx.bj B) (b+4+2*B.ah.length):=(show Ok B (b+4+2*B.ah.length+2)from W.le ((LE [_,_] (.a (.a (.a V0 (.k 4)) V1) (.k 2)) (.a (.a V0 (.k 6)) V1) rfl))).bj;exact(I.bj).aP (b:=b) (W1.le (by have:=gE (B:=B);exact(LA [_,_,_,_] (.a V0 V1) (.a (.a V0 V2) (.m 2 V3)) V1 V3 rfl this)))
  ·exact I.aP (b:=b) (W.le ((LE [_,_,_] (.a V0 V1) (.a (.a V0 V2) (.m 2 V1)) rfl)))
 refine aa hF ?_;generalize Hx.aP (if x=q "a"then Hx.bj B else B)=R at Wp Ip⊢;unfold lz;split
 ·exact(Ip.jF (b:=b) (Wp.le ((LE [_,_] (.a (.a V0 (.k 2)) V1) (.a (.a V0 (.k 4)) V1) rfl)))).gp (Wp.le (by exact(LE [_,_] (.a (.a V0 (.k 2)) V1) (.a (.a V0 (.k 4)) V1) rfl))|>.jF (b:=b)) hx
 ·exact Ip.gp Wp hx
theorem Iv.fc(I:Iv B)(W:Ok B (b+2+B.ah.length)){x:Str}{l:List cj}(hx:x∈cq):Iv (fc x l B):=by
 have I1:=I.aP (b:=b+2) W;have W1:Ok (Hx.aP B) (b+2):=W.aP;refine⟨I1.X.aI W1 (nc hx),?_,?_⟩
 ·show List.countP (fun k=>jA ((Hx.aI x l (Hx.aP B)).X.nm k)) (Hx.aI x l (Hx.aP B)).aj≤cN (.none::(Hx.aI x l (Hx.aP B)).ah);refine aa (B7 W1) (aa bQ ?_);have:=I1.EU;unfold cN at this⊢;refine aa (List.countP_cons_of_pos (by rfl)) ?_;split<;>(first|assumption|exact NQ _|exact Ov _|exact NT _|exact Oe _|exact Nat.succ_pos _|exact NS (by assumption)|exact NJ (by assumption) (by assumption)|exact NA (by assumption) (by assumption)|exact N1 (by assumption) (by assumption)|exact N_ (by assumption) (by assumption)|exact OA (by assumption)|exact Nat.succ_le_of_lt (by assumption)|exact Ol (by assumption)|exact O1 (by assumption)|exact O7 (by assumption)|exact O2 (by assumption)|exact Om (by assumption)|exact Nat.succ_ne_zero _|exact Oa (by assumption)|exact OY (by assumption)|exact absurd (by assumption) (Oc _)|exact Nat.le_add_right _ _|exact Nat.le_add_left _ _|exact O9 (by assumption) (by assumption)|exact O8 _ _|exact OA (NJ (by assumption) (by assumption))|rfl|fail)
 ·show∀w∈(Hx.aI x l (Hx.aP B)).aq,_;refine aa ng ?_;exact I1.er
theorem Iv.a9(I:Iv B)(W:Ok B b){t:Str}(ht:PyData.strOk t=true):Iv (a9 t B):=by
 have:(Hx.a9 t B).aj=B.aj∧(Hx.a9 t B).ah=B.ah∧(Hx.a9 t B).aq=B.aq∧(Hx.a9 t B).X.nm=B.X.nm:=by
  unfold Hx.a9;split
  ·exact⟨rfl,rfl,rfl,rfl⟩
  ·split
   ·exact⟨rfl,rfl,rfl,rfl⟩
   ·split<;>exact⟨rfl,rfl,rfl,rfl⟩
 revert this;refine Ck fun e1 e2 e3 e4=>?_;exact⟨(I.X.a9 W ht),by refine aa e1 (aa e2 (aa e4 ?_));exact I.EU,by refine aa e3 ?_;exact I.er⟩
end
theorem vH{α:Type}{p:α→Bool}{a:α}{l:List α}(ha:p a=false):∀{pre:List α},∃pre',(pre++a::l).dropWhile p=pre'++a::l∧(∀c∈pre',c∈pre)∧pre.all p=pre'.isEmpty
 |[]=>⟨[],by rw[List.nil_append];refine aa N2 (aa ha ?_);rfl,fun _ h=>h,rfl⟩
 |b::pre=>by
  refine aa Oy (aa N2 (aa List.all_cons ?_));cases h:p b with
  |true=>
   refine bV (vH ha (pre:=pre) (l:=l)) fun pre' e m al=>?_;exact⟨pre',by refine aa (if_pos rfl) ?_;exact e,fun c hc=>.tail _ (m c hc),by rw[Bool.true_and];exact al⟩
  |false=>exact⟨b::pre,by exact aa (if_neg NG) rfl,fun c hc=>hc,rfl⟩
theorem AB:∀x∈hW,(impl x&&!decide (x=q ""))=fF x:=by decide+kernel
theorem fJ:∀x∈cq,cO x=true∧(impl x&&!decide (x=q ""))=false∧x≠q "html"∧x≠q "body"∧jA x=true:=by decide+kernel
section
variable{B C:Bs}{M:Ms}{J:Jk}{b:Nat}
theorem wq(W:Ok B b)(I:Iv B){x:Str}(hx:x∈cq)(h:fZ B x=true):.none∈B.ah:=by
 refine ar (rG h) fun a am an=>?_;have:0<B.aj.countP (fun k=>jA (B.X.nm k)):=List.countP_pos_iff.mpr ⟨a,am,by refine aa an ?_;exact(fJ x hx).2.2.2.2⟩;exact GG (NJ this I.EU)
theorem ox(W:Ok B b)(I:Iv B){x:Str}(hx:x∈cq){pre l:List Nat}{a:Nat}(sp:B.aj=pre++a::l)(hp:∀c∈pre,B.X.nm c≠x) (ha:B.X.nm a=x) (hs:fZ B x=true):
 ∃m,B.ah.dropWhile Option.isSome=.none::m∧cG x B={B with aj:=l,ah:=m,aq:=yW pre (au B)}:=by
 refine sk (vI (p:=Option.isSome) (a:=(none:Option Nat)) rfl (wq W I hx hs)) fun o m e=>?_;have:=et e;cases o with
 |some z=>first|exact ns this|cases this
 |none=>
  refine⟨m,e,?_⟩;have pa:fh B.X (q "") a=false:=by unfold fh;refine aa ha ?_;exact(fJ x hx).2.1
  refine bV (vH pa (pre:=pre) (l:=l)) fun pre' e1 m1 a1=>?_;have pm:∀c∈pre,c∈B.aj:=fun c hc=>by refine aa sp ?_;exact Nr _ hc
  have e2:(pre'++a::l).dropWhile (fun a=>!d8 B.X x a)=a::l:=fA (by unfold d8;refine aa (dT ha.symm) ?_;rfl) fun c hc=>by unfold d8;refine aa (dF (fun e=>hp c (m1 c hc) e.symm)) ?_;rfl
  have ca:yW pre (au B)=if pre'.isEmpty then B.aq else B.aq++[q "open-elements"]:=by
   unfold yW;refine bR a1 ?_
   have z:pre.all (fun b=>fF ((au B).nm b))=pre.all (fh B.X (q "")):=by
    rw[OL,N5,N5];have q1:∀c∈pre,fh B.X (q "") c=fF ((au B).nm c):=fun c hc=>AB _ (W.rR I.X (pm c hc));exact⟨fun z c hc=>by refine aa (q1 c hc) ?_;exact z c hc,fun z c hc=>by rw[←q1 c hc];exact z c hc⟩
   refine aa z ?_;rfl
  unfold cG Eg;refine aa (if_pos hs) (aa sp (aa e1 (aa e2 (aa e (aa ca ?_)))));clear a1 ca e1 e2 pa pm sp;cases pre' with
  |nil=>rw[if_pos (by show decide (B.X.nm a=x)=true;exact dT ha)];rfl
  |cons c r=>rw[if_neg (by show¬decide (B.X.nm c=x)=true;rw[dF (hp c (m1 c (.head _)))];exact NG),if_neg (by exact NG)];rfl
theorem D9{pre:List Nat}:(yW pre (au B)).length≤B.aq.length+1:=by
 unfold yW;split
 ·exact Oe _
 ·refine aa NH ?_;exact NQ _
theorem Ok.cG(W:Ok B (b+1))(I:Iv B){x:Str}(hx:x∈cq):Ok (cG x B) b:=by
 refine dh (oV W I.X (x:=x)) fun pre a l sp hp hc=>?_;rcases hc with⟨ha,si,_⟩|⟨si,_⟩
 ·refine ar (ox W I hx sp (fun c hc=>(hp c hc).1) ha si) fun m e ee=>?_;refine aa ee ?_;obtain⟨t,ht⟩:=W.tail sp (W.named (by refine aa sp ?_;simp) ha (fJ x hx).2.2.1 (fJ x hx).2.2.2.1);have sm:m.Sublist B.ah:=eM (bB e);exact(W.cut (o:=l) (l:=m) (t:=t) (eM sp) ht sm).err D9
 ·unfold Hx.cG;refine aa (if_neg (by refine aa si ?_;exact NG)) ?_;exact W.err (by simp)
theorem Iv.cG(I:Iv B)(W:Ok B b){x:Str}(hx:x∈cq):Iv (cG x B):=by
 refine dh (oV W I.X (x:=x)) fun pre a l sp hp hc=>?_;rcases hc with⟨ha,si,_⟩|⟨si,_⟩
 ·refine ar (ox W I hx sp (fun c hc=>(hp c hc).1) ha si) fun m e ee=>?_;refine aa ee ?_;refine⟨I.X,?_,?_⟩
  ·refine(?_:l.countP (fun k=>jA (B.X.nm k))≤cN m);have h1:=I.EU;rw[sp,OQ,List.countP_cons_of_pos (by refine aa ha ?_;exact(fJ x hx).2.2.2.2)]at h1;rw[(bB e)]at h1;unfold cN at h1⊢;rw[OQ,show List.countP Option.isNone (B.ah.takeWhile Option.isSome)=0 from og fun o ho=>b8 ho,List.countP_cons_of_pos (by rfl)]at h1;exact(LA [_,_,_] V0 V1 (.a V2 (Sx V0)) (.a (.k 0) (Sx V1)) rfl h1)
  ·exact I.ite w1
 ·unfold Hx.cG;refine aa (if_neg (by refine aa si ?_;exact NG)) ?_;exact I.set (NW _) rfl (I.err w2)
theorem DH(W:Ok B (b+2))(I:Iv B)(j0:bL (au B) J){x:Str}(hx:x∈cq){k:Int}(k3:¬k<3)(k5:¬5≤k):
 ∃J',bL (au (cG x B)) J'∧J'.dg=J.dg∧∀{ρ:Type}(K:Ku ρ),jh k x (ag C (au B) J) K=K () (ag C (au (cG x B)) J'):=by
 have F:gw (au B):=bN W I.X.nN;have Fn:=F.n;have last:∀{J:Jk},bL (au B) J→∃r,∀{ρ:Type}(K:Ki ρ),d6 [AV.str x] (ag C (au B) J) K=K (aQ (fun k=>decide (x=B.X.nm k)) B.aj) (ag C (au B) (jr J r)):=fun j=>iu (B:=C) (pn:=fun k=>decide (x=B.X.nm k)) j (o6 Fn) F.o F.hk fun k _=>u4;refine xE (last j0) fun r1 h1=>?_;refine xE (iu (B:=C) (ns:=[AV.str (q "html"),AV.str (q "applet"),AV.str (q "marquee"),AV.str (q "object"),AV.str (q "table")]) (pn:=fun k=>cw (B.X.nm k)) (j0.jr (r:=r1)) (o6 Fn) F.o F.hk fun k _=>lX _) fun r2 h2=>?_;have j2:bL (au B) (jr J r2):=j0.jr;refine dh (oV W I.X (x:=x)) fun pre a l sp hp hc=>?_;rcases hc with⟨ha,si,l1,l2,_⟩|⟨si,l1,l2⟩
 ·refine ar (ox W I hx sp (fun c hc=>(hp c hc).1) ha si) fun m e ee=>?_;refine xE (last j2) fun r3 h3=>?_;refine xE (vt (C:=C) (M:=au B) (J:=jr J r3) (j0.jr) F (pre:=pre) (l:=l) (a:=a) sp) fun r4 h4=>?_;have j4:bL {au B with aj:=l,aq:=yW pre (au B)} (lh (jr J r3) l r4):=⟨aG,j0.ls⟩;have Fl:B.ah.length+1<1000000:=F.l;refine ar (kS (B:=C) j4 Fl) fun r5 _ h5=>?_
  have eb:FN B.ah=(m.length:Int)+1:=by
   unfold FN;refine aa (show(Option.isNone:Option Nat→Bool)=fun o=>!o.isSome from funext fun o=>by cases o<;>rfl) ?_;refine gC.trans ?_;refine aa e ?_;rfl
  have sl:ax (bO B.ah) none (some ((m.length:Int)))=bO m:=by
   refine aa gO ?_;unfold bO;refine aa (bB e) (aa N3 (aa NN (aa Nu (aa Nu ?_))));rw[NK];exact aa (List.take_left' (by simp)) rfl
  have lm:m.length<B.ah.length:=by
   have:=congrArg List.length (bB e);rw[NH,Od]at this;exact(LA [_,_,_] (Sx V0) V1 (.a V2 (Sx V0)) V1 rfl (Ny this.symm))
  have hY:(bO B.ah).length<ab:=aE (by rw[Nn];refine aa Nx ?_;exact NS (by assumption));have capm:(bO m).length<ab:=aE (by rw[Nn];refine aa Nx ?_;exact(LA [_,_,_] (Sx V0) V1 (.a (Sx V0) (Sx (Sx V2))) (.a V2 V1) rfl (Nq lm Fl)));refine aa ee ?_;refine⟨uE (jr (lh (jr J r3) l r4) r5) m,⟨aG,aG⟩,rfl,fun K=>?_⟩;refine cF (dF k3) (cF (dF k5) ((h1 _).trans ((h2 _).trans (cF (dF ?_) ((h3 _).trans ?_)))))
  ·show¬aQ (fun k=>decide (x=B.X.nm k)) B.aj<aQ (fun k=>cw (B.X.nm k)) B.aj;exact LL l1 l2
  ·refine aa l1 ?_;refine(h4 _).trans ((h5 _).trans ?_);refine aa (show FN ({au B with aj:=l,aq:=yW pre (au B)}:Ms).ah=(m.length:Int)+1 from eb) ?_;have g6:ae (aw (ag C {au B with aj:=l,aq:=yW pre (au B)} (jr (lh (jr J r3) l r4) r5))) 6 J.ml=some (bO B.ah):=Bv j4;have sl':ax (bO B.ah) none (some ((m.length:Int)+1-1))=bO m:=by refine aa (show(m.length:Int)+1-1=(m.length:Int) by exact Int.add_sub_cancel _ 1) ?_;exact sl
   refine fT (by refine aa (show(m.length:Int)+1-1=(m.length:Int) by exact Int.add_sub_cancel _ 1) ?_;exact aS (by exact De lm Fl)) (bd g6 (fT hY (fT (sl'.symm▸capm) (congrArg (fun z=>K () (ag C {au B with aj:=l,aq:=yW pre (au B)} {J with r5:=J.r5++[.list (l.reverse.map a8)],mo:=J.r5.length,r6:=J.r6++[.list z],ml:=J.r6.length,r7:=r5})) sl'))))
 ·have es:cG x B={B with aq:=B.aq++[q "unexpected-end-tag"]}:=by
   unfold cG;rw[if_neg (by rw[si];exact NG)]
  refine aa es ?_;refine⟨jr J r2,⟨j0.op,j0.ls⟩,rfl,fun K=>cF (dF k3) (cF (dF k5) ((h1 _).trans ((h2 _).trans (cT (dT ?_) (fT (cY F) ?_)))))⟩
  ·show aQ (fun k=>decide (x=B.X.nm k)) B.aj<aQ (fun k=>cw (B.X.nm k)) B.aj;exact lt_of_lt_of_eq l1 (id (Eq.symm l2))
  ·refine aa cW ?_;rfl
end
@[elab_as_elim]theorem lS{P:Nat→Prop}{n k:Nat}(h:k<n+1)(a:P 0)(b:∀{k},k<n→P (k+1)):P k:=by
  cases k with
  |zero=>exact a
  |succ k=>exact b (O7 h)
@[elab_as_elim]theorem l2{P:Nat→Prop}{k:Nat}(h:k<2)(a:P 0)(b:P 1):P k:=lS h a fun h=>lS h b fun h=>(OZ _ h).elim
@[elab_as_elim]theorem l3{P:Nat→Prop}{k:Nat}(h:k<3)(a:P 0)(b:P 1)(c:P 2):P k:=lS h a fun h=>l2 h b c
@[elab_as_elim]theorem l4{P:Nat→Prop}{k:Nat}(h:k<4)(a:P 0)(b:P 1)(c:P 2)(d:P 3):P k:=lS h a fun h=>l3 h b c d
theorem m2{a b c:Nat}(h:c∈[a,b]):c=a∨c=b:=(Nv.mp h).imp id NX.mp
theorem ze(d:Int):∃l∈bX,∀{ρ:Type}(s:St)(K:List AV→St→Option ρ),c7 d s K=K (l.map cy) s:=by
 obtain⟨m,hm,lt⟩:∃m:Nat,d/16%5=(m:Int)∧m<5:=⟨(d/16%5).toNat,(Int.toNat_of_nonneg (Int.emod_nonneg _ (by decide))).symm,(Int.toNat_lt (Int.emod_nonneg _ (by decide))).mpr (Int.emod_lt_of_pos _ (by decide))⟩;unfold c7;refine aa hm ?_;clear hm;refine lS lt ⟨[],.head _,fun s K=>rfl⟩ fun lt=>l4 lt ⟨[(q "class",q "x")],.tail _ (.head _),fun s K=>rfl⟩ ⟨[(q "class",q "x"),(q "id",q "y")],.tail _ (.tail _ (.head _)),fun s K=>rfl⟩ ⟨[(q "id",q "y"),(q "class",q "x")],.tail _ (.tail _ (.tail _ (.head _))),fun s K=>rfl⟩ ⟨[(q "class",q "y")],.tail _ (.tail _ (.tail _ (.tail _ (.head _)))),fun s K=>rfl⟩
def hZ(a c b:Str):List AV:=[.str (q "a"),.str a,.str (q "nobr"),.str (q "applet"),.str c,.str (q "table"),.str b]
structure Kk (a c b:Str):Prop where
 a1:a∈eQ
 a2:a≠q "a"
 a3:a≠q "nobr"
 c1:c∈cq
 b1:b∈bZ
theorem zr:∀x∈bZ,jA x=false:=by decide+kernel
structure Tn (ns:List Int) (B:Bs) (J:Jk) (j:Nat):Prop where
 W:Ok B (10000-100*j)
 I:Iv B
 jk:bL (au B) J
 l:B.ah.length≤j
 s:J.dg=ns.map .int
section
variable{B C:Bs}{M:Ms}{J:Jk}{b j:Nat}{ns:List Int}
theorem Tn.ok(T:Tn ns B J j)(hj:j<24):Ok B ((10000-100*(j+1))+12+2*B.ah.length):=T.W.le (by have:=T.l;exact Mk hj this)
theorem A5(hn:ns.length≤63)(T:J.dg=ns.map .int)(hj:j<24):∃d:Int,∀{ρ:Type}(K:Ki ρ),iI (j:Int) (ag C M J) K=K d (ag C M J):=by
 have sc:(ag C M J).dg=ns.map .int:=T;have len:(ag C M J).dg.length=ns.length:=by refine aa sc ?_;rw[Nn]
 by_cases h:j<ns.length
 ·refine⟨ns[j],fun K=>fT (aE (by refine aa len ?_;exact(LA [_] (Sx V0) (.k 1000000) V0 (.k 63) rfl hn))) (cT (dT (by refine aa len ?_;exact H9 h)) (bd (t:=.int ns[j]) (bp ?_ ((LA [_,_] (Sx V0) (.k 1000000000) (.a (Sx V0) V1) (.a V1 (.k 63)) rfl (Nq h hn)))) (bd rfl rfl)))⟩;refine aa sc (aa (Nz) (aa (NP h) ?_));rfl
 ·have:∃d:Int,ai [AV.int 1,AV.int 0,AV.int 7,AV.int 6,AV.int 1,AV.int 14,AV.int 7,AV.int 0,AV.int 2,AV.int 5,AV.int 0,AV.int 2,AV.int 2,AV.int 3,AV.int 9,AV.int 6,AV.int 11,AV.int 12,AV.int 1,AV.int 1,AV.int 15,AV.int 9,AV.int 9,AV.int 7] (.int (j:Int))=some (.int d):=by
   have g:∀j,j<24→∃d:Int,([1,0,7,6,1,14,7,0,2,5,0,2,2,3,9,6,11,12,1,1,15,9,9,7]:List Int)[j]?=some d:=fun j hj=>⟨_,NP hj⟩;refine xE (g j hj) fun d hd=>?_;refine⟨d,bp ?_ ((LA [_] (Sx V0) (.k 1000000000) (Sx V0) (.k 24) rfl hj))⟩;have:([1,0,7,6,1,14,7,0,2,5,0,2,2,3,9,6,11,12,1,1,15,9,9,7].map AV.int)[j]?=some (.int d):=by refine aa (Nz) (aa hd ?_);rfl
   exact this
  revert this;refine rE fun d hd=>?_;exact⟨d,fun K=>fT (aE (by refine aa len ?_;exact(LA [_] (Sx V0) (.k 1000000) V0 (.k 63) rfl hn))) (cF (dF (by refine aa len ?_;exact L1 h)) (bd hd (bd rfl rfl)))⟩
theorem Bd{x:Str}:(cG x B).ah.length≤B.ah.length:=by
 unfold cG;split
 ·exact((List.tail_sublist _).trans (OD _)).length_le
 ·exact NQ _
theorem Cj{al:Option Nat→Bool}{n:Nat}{l:List (Option Nat)}:(gh al n l).length≤l.length+1:=by
 refine ar (ni (al:=al) (n:=n) (l:=l)) fun l' e h=>?_;refine aa e (aa Od ?_);have:=h.length_le;exact Ol (by assumption)
theorem EC{x:Str}{l:List cj}:(gp x l B).ah.length≤B.ah.length+1:=by
 refine N1 Cj ?_;refine aa bQ ?_;exact NQ _
theorem E3:(jF B).ah.length≤B.ah.length:=by
 refine aa fO ?_;exact dA
theorem Ep{x:Str}{l:List cj}:(dX x l B).ah.length≤B.ah.length+1:=by
 refine aa hF ?_
 have h1:(aP (if x=q "a"then bj B else B)).ah.length≤B.ah.length:=by
  refine aa fO ?_;split
  ·exact gE
  ·exact NQ _
 generalize aP (if x=q "a"then bj B else B)=R at h1⊢;refine N1 EC ?_;split
 ·have:=E3 (B:=R);exact(LA [_,_,_] (Sx V0) (Sx V1) (.a V0 V2) (.a V2 V1) rfl (Nq this h1))
 ·exact Ol (by assumption)
theorem BW{x:Str}{l:List cj}:(fc x l B).ah.length=B.ah.length+1:=by
 exact aa Od (aa bQ (aa fO rfl))
theorem CA{sl:Bool}:(eL sl B).ah=B.ah:=by cases sl<;>rfl
theorem zy{t:Str}:(a9 t B).ah=B.ah:=by
 unfold a9;split
 ·rfl
 ·split
  ·rfl
  ·split<;>rfl
theorem Gk(W:Ok B (b+2))(hn:B.X.n≤B.X.N)(j0:bL (au B) J){sl:Bool}:bL (au (eL sl B)) J∧∀{ρ:Type}(K:St→Option ρ),(bif sl then if(ag C (au B) J).merrs.length<ab then K ((ag C (au B) J).aX ((ag C (au B) J).merrs++[AV.str (q "non-void-html-element-start-tag-with-trailing-solidus")]))else none else K (ag C (au B) J))=K (ag C (au (eL sl B)) J):=by
 cases sl with
 |false=>exact⟨j0,fun K=>rfl⟩
 |true=>exact⟨⟨j0.op,j0.ls⟩,fun K=>cT rfl (fT (cY (bN W hn)) (by exact aa cW rfl))⟩
theorem HN(T:Tn ns B J j)(hj:j<24){k:Nat}{x:Str}(hk:(k=0∧x=q "a")∨(k=1∧x∈eQ∧x≠q "a"∧x≠q "nobr")∨(k=2∧x=q "nobr")∨((k=3∨k=4)∧x∈cq)∨((k=5∨k=6)∧x∈bZ)){l:List cj}(hl:l∈bX){sl:Bool}:
 ∃B' J',Tn ns B' J' (j+1)∧∀{ρ:Type}(K:St→Option ρ),(c6 x (l.map cy) sl (ag B (au B) J) fun _ s73=>c8 (k:Int) x (l.map cy) s73 fun(x78:Unit)(s79:St)=>bif sl then if s79.merrs.length<ab then K (s79.aX (s79.merrs++[AV.str (q "non-void-html-element-start-tag-with-trailing-solidus")]))else none else K s79)=K (ag B' (au B') J'):=by
 have W:=T.ok hj;have I:=T.I
 have go:∀B1:Bs,Ok B1 (10000-100*(j+1)+2)→Iv B1→B1.ah.length≤j+1→
  (∃r,∀{ρ:Type}(K:Ku ρ),c6 x (l.map cy) sl (ag B (au B) J) K=K () (ag (eL sl B1) (au B) (jr J r)))→
  (∀r,∃J',bL (au B1) J'∧J'.dg=(jr J r).dg∧∀{ρ:Type}(K:Ku ρ),c8 (k:Int) x (l.map cy) (ag (eL sl B1) (au B) (jr J r)) K=K () (ag (eL sl B1) (au B1) J'))→
  ∃B' J',Tn ns B' J' (j+1)∧∀{ρ:Type}(K:St→Option ρ),(c6 x (l.map cy) sl (ag B (au B) J) fun _ s73=>c8 (k:Int) x (l.map cy) s73 fun(x78:Unit)(s79:St)=>bif sl then if s79.merrs.length<ab then K (s79.aX (s79.merrs++[AV.str (q "non-void-html-element-start-tag-with-trailing-solidus")]))else none else K s79)=K (ag B' (au B') J'):=fun B1 W1 I1 l1 h1 h2=>by
  revert h1;refine rE fun r h1=>?_;refine bV (h2 r) fun J' j' s' h2=>?_;refine xA (Gk (C:=eL sl B1) W1 I1.X.nN j' (sl:=sl)) fun j3 h3=>?_;exact⟨eL sl B1,J',⟨(W1.le (Oe _)).eL,I1.eL,j3,by refine aa CA ?_;exact l1,s'.trans T.s⟩,fun K=>(h1 _).trans ((h2 _).trans (h3 K))⟩
 have fm:∀{x},x∈eQ→∀{l},l∈bX→Ok (dX x l B) (10000-100*(j+1)+2)∧Iv (dX x l B)∧(dX x l B).ah.length≤j+1:=fun{x}hx{l}hl=>by
  refine ja (fY x hx) fun a1 a2 a3 _=>?_;have W6:Ok B (10000-100*(j+1)+2+6+2*B.ah.length):=W.le ((LE [_,_] (.a (.a (.a V0 (.k 2)) (.k 6)) V1) (.a (.a V0 (.k 12)) V1) rfl));exact⟨W6.dX a1 a2 a3 hl,I.dX W6 hx,N1 Ep (by have:=T.l;exact Nat.add_le_add_right this 1)⟩
 rcases hk with⟨rfl,rfl⟩|⟨rfl,hx,na,nn⟩|⟨rfl,rfl⟩|⟨hk,hx⟩|⟨hk,hx⟩
 ·refine gS (fm (x:=q "a") (.head _) hl) fun f1 f2 f3=>?_;refine go _ f1 f2 f3 (kT (b:=10000-100*(j+1)) (W.le (C9)) (.head _) hl) fun r=>?_;refine bV (Ik (C:=eL sl (dX (q "a") l B)) (b:=10000-100*(j+1)) (W.le (C9)) I.X (T.jk.jr (r:=r)) hl) fun J' a c d=>?_;exact⟨J',a,c,fun K=>(if_pos rfl).trans (d K)⟩
 ·refine gS (fm hx hl) fun f1 f2 f3=>?_;refine go _ f1 f2 f3 (kT (b:=10000-100*(j+1)) (W.le (C9)) hx hl) fun r=>?_;refine bV (Il (C:=eL sl (dX x l B)) (b:=10000-100*(j+1)) (W.le (C9)) I.X (T.jk.jr (r:=r)) hx na nn hl) fun J' a c d=>?_;exact⟨J',a,c,fun K=>(if_neg (by decide)).trans ((if_pos rfl).trans (d K))⟩
 ·have hx:q "nobr"∈eQ:=by decide+kernel
  refine gS (fm hx hl) fun f1 f2 f3=>?_;refine go _ f1 f2 f3 (kT (b:=10000-100*(j+1)) (W.le (C9)) hx hl) fun r=>?_;refine bV (Im (C:=eL sl (dX (q "nobr") l B)) (b:=10000-100*(j+1)) (W.le ((LE [_,_] (.a (.a V0 (.k 9)) V1) (.a (.a V0 (.k 12)) V1) rfl))) I.X (T.jk.jr (r:=r)) hl) fun J' a c d=>?_;exact⟨J',a,c,fun K=>(if_neg (by decide)).trans ((if_neg (by decide)).trans ((if_pos rfl).trans (d K)))⟩
 ·refine gS (iY x hx) fun a1 a2 a3=>?_;have hs:cO x=false→i7 x=false:=fun h=>by rw[a2]at h;cases h
  have W2:Ok B (10000-100*(j+1)+2+2+B.ah.length):=W.le ((LE [_,_] (.a (.a (.a V0 (.k 2)) (.k 2)) V1) (.a (.a V0 (.k 12)) (.m 2 V1)) rfl));refine go (fc x l B) (W2.fc a1 hs hl) (I.fc W2 hx) (by refine aa BW ?_;have:=T.l;exact Nat.add_le_add_right this 1) (Al (b:=10000-100*(j+1)) (W.le ((LE [_,_] (.a (.a V0 (.k 3)) V1) (.a (.a V0 (.k 12)) (.m 2 V1)) rfl))) hx hl) fun r=>?_;refine bV (Io (C:=eL sl (fc x l B)) (b:=10000-100*(j+1)) (W.le ((LE [_,_] (.a (.a V0 (.k 4)) V1) (.a (.a V0 (.k 12)) (.m 2 V1)) rfl))) I.X (T.jk.jr (r:=r)) hx hl) fun J' a c d=>?_;refine⟨J',a,c,fun K=>Eq.trans ?_ (d K)⟩;rcases hk with rfl|rfl
  ·exact(if_neg (by decide)).trans ((if_neg (by decide)).trans ((if_neg (by decide)).trans (if_pos rfl)))
  ·exact(if_neg (by decide)).trans ((if_neg (by decide)).trans ((if_neg (by decide)).trans ((if_neg (by decide)).trans (if_pos rfl))))
 ·refine xA (hS x hx) fun a1 _=>?_;have W2:Ok B (10000-100*(j+1)+2+1):=W.le ((LE [_,_] (Sx (.a V0 (.k 2))) (.a (.a V0 (.k 12)) V1) rfl));have pm:=zr x hx;refine go (aI x l B) (W2.new a1 (wz hx) hl) (I.aI W2 (u9 hx) pm) (by refine aa bQ ?_;have:=T.l;exact H_ this) (Am (b:=10000-100*(j+1)) (W.le (KC)) hx hl) fun r=>?_;refine bV (Iq (C:=eL sl (aI x l B)) (b:=10000-100*(j+1)) (W.le ((LE [_,_] (.a V0 (.k 2)) (.a (.a V0 (.k 12)) V1) rfl))) I.X (T.jk.jr (r:=r)) hx hl) fun J' a c d=>?_;refine⟨J',a,c,fun K=>Eq.trans ?_ (d K)⟩;clear go hj hl hx pm;rcases hk with rfl|rfl
  ·exact(if_neg (by decide)).trans ((if_neg (by decide)).trans ((if_neg (by decide)).trans ((if_neg (by decide)).trans ((if_neg (by decide)).trans (if_pos rfl)))))
  ·exact(if_neg (by decide)).trans ((if_neg (by decide)).trans ((if_neg (by decide)).trans ((if_neg (by decide)).trans ((if_neg (by decide)).trans ((if_neg (by decide)).trans (if_pos rfl))))))
end
section
variable{B C:Bs}{M:Ms}{J:Jk}{b j:Nat}{ns:List Int}
abbrev Mu (k:Nat) (x:Str):Prop:=(k=0∧x=q "a")∨(k=1∧x∈eQ∧x≠q "a"∧x≠q "nobr")∨(k=2∧x=q "nobr")∨((k=3∨k=4)∧x∈cq)∨((k=5∨k=6)∧x∈bZ)
theorem HM(T:Tn ns B J j)(hj:j<24){k:Nat}{x:Str}(hk:Mu k x):
 ∃B' J',Tn ns B' J' (j+1)∧∀{ρ:Type}(K:St→Option ρ),(eW x (ag B (au B) J) fun _ s63=>jh (k:Int) x s63 fun(x66:Unit)(s67:St)=>K s67)=K (ag B' (au B') J'):=by
 have W:=T.ok hj;have I:=T.I;have hl:=T.l
 have cls:(k<3∧x∈eQ)∨((¬k<3∧¬5≤k)∧x∈cq)∨((¬k<3∧5≤k)∧x∈bZ):=by
  rcases hk with⟨rfl,rfl⟩|⟨rfl,hx,_⟩|⟨rfl,rfl⟩|⟨hk,hx⟩|⟨hk,hx⟩
  ·exact .inl ⟨by decide,.head _⟩
  ·exact .inl ⟨by decide,hx⟩
  ·exact .inl ⟨by decide,by decide+kernel⟩
  ·exact .inr (.inl ⟨LM hk,hx⟩)
  ·exact .inr (.inr ⟨LJ hk,hx⟩)
 rcases cls with⟨k3,hx⟩|⟨⟨k3,k5⟩,hx⟩|⟨⟨k3,k5⟩,hx⟩
 ·refine j9 (fY x hx) fun _ _ _ n1 n2=>?_;refine bV (kU (C:=aU x B) (b:=0) (W.le (Mq)) I.X T.jk (x:=x)) fun J' a c d=>?_;exact⟨aU x B,J',⟨(show Ok B (10000-100*(j+1)+1)from W.le (KC)).aU n1 n2,I.aU,a,N1 dA (H_ hl),c.trans T.s⟩,fun K=>(Ai W hx _).trans (cT (dT (Int.lt_toNat.mp k3)) (d _))⟩
 ·have W1:Ok B (10000-100*(j+1)+1):=W.le (KC);refine bV (DH (C:=cG x B) (b:=0) (W.le (Mq)) I T.jk hx (k:=(k:Int)) (LG k3) (LF k5)) fun J' a c d=>?_;exact⟨cG x B,J',⟨W1.cG I hx,I.cG W1 hx,a,N1 Bd (H_ hl),c.trans T.s⟩,fun K=>(Aj W1 hx (wq W1 I hx) _).trans (d _)⟩
 ·refine ja (hS x hx) fun _ _ n1 n2=>?_;refine bV (Aq (C:=eG x B) (b:=0) (W.le (Mq)) I.X T.jk (x:=x)) fun J' a c d=>?_;exact⟨eG x B,J',⟨(show Ok B (10000-100*(j+1)+1)from W.le (KC)).eG n1 n2,I.eG,a,by refine aa q9 ?_;exact H_ hl,c.trans T.s⟩,fun K=>(Ak W hx _).trans (cF (dF (LC k5)) (cT (dT (Int.toNat_le.mp k5)) (d _)))⟩
theorem HL(T:Tn ns B J j)(hj:j<24){c:Str}(hc:c.length=1)(hs:PyData.strOk c=true):
 ∃B' J',Tn ns B' J' (j+1)∧∀{ρ:Type}(K:St→Option ρ),(gV c (ag B (au B) J) fun _ s57=>gW c s57 fun(x66:Unit)(s67:St)=>K s67)=K (ag B' (au B') J'):=by
 have W:=T.ok hj;have I:=T.I;have W2:Ok B (10000-100*(j+1)+2+B.ah.length):=W.le ((LE [_,_] (.a (.a V0 (.k 2)) V1) (.a (.a V0 (.k 12)) (.m 2 V1)) rfl));refine xE (DE (M:=au B) (J:=J) W2 hc) fun r h1=>?_;refine bV (DL (C:=a9 c (aP B)) (b:=0) (W.le ((LE [_,_] (.a (.a (.k 0) (.k 2)) V0) (.a (.a V1 (.k 12)) (.m 2 V0)) rfl))) I.X (T.jk.jr (r:=r)) hc) fun J' a c' d=>?_;have W3:Ok (aP B) (10000-100*(j+1)+1):=(show Ok B (10000-100*(j+1)+1+B.ah.length)from W.le ((LE [_,_] (.a (Sx V0) V1) (.a (.a V0 (.k 12)) (.m 2 V1)) rfl))).aP;have I3:Iv (aP B):=I.aP (b:=10000-100*(j+1)+1) (W.le ((LE [_,_] (.a (Sx V0) V1) (.a (.a V0 (.k 12)) (.m 2 V1)) rfl)));exact⟨a9 c (aP B),J',⟨W3.a9 hc,I3.a9 W3 hs,a,by refine aa zy (aa fO ?_);exact H_ (T.l),c'.trans T.s⟩,fun K=>(h1 _).trans (d _)⟩
end
theorem u0{a c b:Str}(N:Kk a c b){k:Nat}(hk:k<7):∃x,ai (hZ a c b) (.int (k:Int))=some (.str x)∧Mu k x:=by
 match k,hk with
 |0,_=>exact⟨_,rfl,.inl ⟨rfl,rfl⟩⟩
 |1,_=>exact⟨_,rfl,.inr (.inl ⟨rfl,N.a1,N.a2,N.a3⟩)⟩
 |2,_=>exact⟨_,rfl,.inr (.inr (.inl ⟨rfl,rfl⟩))⟩
 |3,_=>exact⟨_,rfl,.inr (.inr (.inr (.inl ⟨.inl rfl,.head _⟩)))⟩
 |4,_=>exact⟨_,rfl,.inr (.inr (.inr (.inl ⟨.inr rfl,N.c1⟩)))⟩
 |5,_=>exact⟨_,rfl,.inr (.inr (.inr (.inr ⟨.inl rfl,.head _⟩)))⟩
 |6,_=>exact⟨_,rfl,.inr (.inr (.inr (.inr ⟨.inr rfl,N.b1⟩)))⟩
 |k+7,h=>exact(OZ 0 (LA [_,_] (.k 1) (.k 0) (Sx (.a V0 V1)) V1 rfl h)).elim
theorem GH{j:Nat}(hj:j<24):({cps:=#[(97+(j:Int)).toNat]}:Str).length=1∧PyData.strOk {cps:=#[(97+(j:Int)).toNat]}=true:=by
 refine⟨rfl,?_⟩;show(#[(97+(j:Int)).toNat]).all _=true;simp;exact Ox.mpr (NJ (Nat.add_lt_add_left hj 97) (by decide))
section
variable{ns:List Int}
theorem zg{a c b:Str}(N:Kk a c b)(hn:ns.length≤63){j:Nat}{B:Bs}{J:Jk}(hj:j<24)(T:Tn ns B J j):∃B' J',Tn ns B' J' (j+1)∧∀{ρ:Type}(E:Option ρ)(go:Nat→List AV×PUnit→St→Option ρ),
 (bz (aH 0 24 1)[j]? E fun(x52:AV)=>x52.i?.bind fun(x53:Int)=>iI x53 (ag B (au B) J) fun(x54:Int)(s55:St)=>bif decide (x54%8=7)then if 0≤97+x53∧97+x53<128 then gV {cps:=#[(97+x53).toNat]} s55 fun(x56:Unit)(s57:St)=>if 0≤97+x53∧97+x53<128 then gW {cps:=#[(97+x53).toNat]} s57 fun(x58:Unit)(s59:St)=>go (j+1) (hZ a c b,()) s59 else none else none else bif decide (7<x54%16)then(ai (hZ a c b) (AV.int (x54%8))).bind fun(x60:AV)=>x60.s?.bind fun(x61:Str)=>eW x61 s55 fun(x62:Unit)(s63:St)=>(ai (hZ a c b) (AV.int (x54%8))).bind fun(x64:AV)=>x64.s?.bind fun(x65:Str)=>jh (x54%8) x65 s63 fun(x66:Unit)(s67:St)=>go (j+1) (hZ a c b,()) s67 else(ai (hZ a c b) (AV.int (x54%8))).bind fun(x68:AV)=>x68.s?.bind fun(x69:Str)=>c7 x54 s55 fun(x70:List AV)(s71:St)=>c6 x69 x70 (decide (x54/80%4=3)) s71 fun(x72:Unit)(s73:St)=>(ai (hZ a c b) (AV.int (x54%8))).bind fun(x74:AV)=>x74.s?.bind fun(x75:Str)=>c7 x54 s73 fun(x76:List AV)(s77:St)=>c8 (x54%8) x75 x76 s77 fun(x78:Unit)(s79:St)=>bif decide (x54/80%4=3)then if s79.merrs.length<ab then go (j+1) (hZ a c b,()) (s79.aX (s79.merrs++[AV.str (q "non-void-html-element-start-tag-with-trailing-solidus")]))else none else go (j+1) (hZ a c b,()) s79)=go (j+1) (hZ a c b,()) (ag B' (au B') J'):=by
 refine xE (A5 (C:=B) (M:=au B) hn T.s hj) fun d hd=>?_;have rg:(aH 0 24 1)[j]?=some (.int (j:Int)):=(show(aH 0 ((24:Nat):Int) 1)[j]?=_ from cJ).trans (if_pos hj);obtain⟨k,hk,k8⟩:∃k:Nat,d%8=(k:Int)∧k<8:=⟨(d%8).toNat,(Int.toNat_of_nonneg (Int.emod_nonneg _ (by decide))).symm,(Int.toNat_lt (Int.emod_nonneg _ (by decide))).mpr (Int.emod_lt_of_pos _ (by decide))⟩;by_cases k7:k=7
 ·subst k7;refine xA (GH hj) fun c1 c2=>?_;refine eB (HL T hj c1 c2) fun B' J' T' h=>?_;refine⟨B',J',T',fun E go=>oS rg (bd rfl ((hd _).trans (cT (dT hk) (fT (by exact Kg hj) ?_))))⟩;have hi:(0:Int)≤97+(j:Int)∧(97:Int)+(j:Int)<128:=by exact Kg hj
  simp only[if_pos hi];exact h fun s=>go (j+1) (hZ a c b,()) s
 ·refine ar (u0 N (show k<7 by exact L4 hk k7)) fun x hx cl=>?_;by_cases h16:7<d%16
  ·refine eB (HM T hj cl) fun B' J' T' h=>?_;refine⟨B',J',T',fun E go=>oS rg (bd rfl ((hd _).trans ?_))⟩;refine aa hk ?_;refine cF (dF (by exact Nat.ToInt.of_diseq rfl rfl k7)) (cT (dT h16) (bd hx (bd rfl ?_)));refine Eq.trans ?_ (h fun s=>go (j+1) (hZ a c b,()) s);refine aa hx ?_;rfl
  ·refine ar (ze d) fun l hl hla=>?_;refine eB (HN T hj cl hl (sl:=decide (d/80%4=3))) fun B' J' T' h=>?_;refine⟨B',J',T',fun E go=>oS rg (bd rfl ((hd _).trans ?_))⟩;refine aa hk ?_;refine cF (dF (by exact Nat.ToInt.of_diseq rfl rfl k7)) (cF (dF h16) (bd hx (bd rfl ((hla _ _).trans ?_))));refine Eq.trans ?_ (h fun s=>go (j+1) (hZ a c b,()) s);refine congrArg (c6 x (l.map cy) (decide (d/80%4=3)) (ag B (au B) J)) ?_
   funext _ s
   exact bd hx (bd rfl (hla _ _))
end
theorem eH{H:AH}{r i r' i':Nat}{xs ys:List AV}{ds:List PyData}(h1:ae H r i=some xs)(h2:ae H r' i'=some ys)(d1:gj (toPy H 6) xs=some ds)(d2:gj (toPy H 6) ys=some ds)(o:PyData.canLayAll0 ds=true):fg H (.loc r i) (.loc r' i')=some true:=by
 exact aa (uz h1 h2 d1 d2 o o) (aa (PySem.SeqAt.eqvAll_refl _ o) rfl)
theorem df{H:AH}{a b:AV}(h:fg H a b=some true):(Option.map (fun x=>!x) (fg H a b))=some false:=by refine aa h ?_;rfl
theorem BD{α ρ τ:Type}{step:(Nat→List AV×τ→St→Option ρ)→Nat→List AV×τ→St→Option ρ}{body:(Nat→List AV×τ→St→Option ρ)→Nat→List AV×τ→St→AV→Option ρ}{E:List AV×τ→St→Option ρ}(xs:List α)(f0 f:α→AV)(p:α→Bool){c:τ}{s s0:St}{r:Option ρ}{R I:Nat}(h0:s0=s)
 (hstep:∀go j t s,step go j t s=((ae (aw s) R I).bind fun x=>if x.length=(xs.map f0).length then some x[j]? else none).bind fun o=>bz o (E t s) fun v=>body go j t s v)
 (hg:ae (aw s) R I=some (xs.map f0)) (hl:xs.length<1000000)
 (hb:∀go j acc a,a∈xs→xs[j]?=some a→acc.length<ab→body go j (acc,c) s (f0 a)=go (j+1) (cond (p a) (acc++[f a]) acc,c) s)
 (he:((xs.filter p).map f).length<ab→E ((xs.filter p).map f,c) s=r):bK step (cD ((xs.map f0).length+1)) 0 ([],c) s0=r:=by
 refine cR xs f p h0 (by rw[Nn]) hl ?_ ?_
 ·intro go j acc a ha hacc;refine(hstep _ _ _ _).trans (bd (bd hg (if_pos rfl)) (oS (v:=f0 a) (by refine aa (Nz) (aa ha ?_);rfl) ?_));exact hb go j acc a (Oo ha) ha hacc
 ·intro go hacc;refine(hstep _ _ _ _).trans (bd (bd hg (if_pos rfl)) (oN (by exact aa (NO (by simp)) rfl) ?_));exact he hacc
noncomputable def bC(X:Tr):List Nat:=(List.range X.n).map X.id
theorem fL{X:Tr}{k:Nat}(h:k<X.n):(bC X)[k]?=some (X.id k):=cK h
theorem fM{X:Tr}:(bC X).length=X.n:=aW
theorem uf{l:List Nat}{c:Nat}:bg (.int (c:Int)) (l.map a8)=some (decide (c∈l)):=by
 refine aa (show l.map a8=l.map fun k=>.int (k:Int)from rfl) (aa fW ?_);rw[Oi,OL,O5,decide_eq_true_iff];constructor
 ·rintro⟨a,ha,e⟩;refine bR (OM.mp (of_decide_eq_true e)) ?_;exact ha
 ·intro h;exact⟨c,h,dT rfl⟩
theorem u7{X:Tr}(U:gx X){k:Nat}(hk:k<X.n):bf ((bC X).map a8) [.int (X.id k:Int)]=some k:=by
 refine bd rfl (bd rfl (bd (bI (f:=fun k:Nat=>(k:Int))) ?_));rw[List.findIdx?_eq_some_iff_getElem];have hl:(List.map (fun k:Nat=>(k:Int)) (bC X)).length=X.n:=by rw[Nn];exact aa fM rfl
 refine⟨by refine aa hl ?_;exact hk,?_,fun j hj=>?_⟩
 ·have:(List.map (fun k:Nat=>(k:Int)) (bC X))[k]?=some ((X.id k:Nat):Int):=by refine aa (Nz) (aa (fL hk) ?_);rfl
  rw[NP (by refine aa hl ?_;exact hk)]at this;refine aa (Oi.mp this) ?_;simp
 ·have hjn:j<X.n:=N_ (by assumption) (by assumption);have:(List.map (fun k:Nat=>(k:Int)) (bC X))[j]?=some ((X.id j:Nat):Int):=by refine aa (Nz) (aa (fL hjn) ?_);rfl
  rw[NP (by refine aa hl ?_;exact hjn)]at this;refine aa (Oi.mp this) ?_;intro e;have:=U.inj hjn hk (OM.mp (by simpa using e));exact J8 hj this
section
variable{B:Bs}{M:Ms}{J:Jk}{b:Nat}
theorem M7(U:eP B.X):B.X.rk 0=none:=by
 cases h:B.X.rk 0 with
 |none=>rfl
 |some k=>
  refine xA (U.inv 0 k U.Np h) fun a e=>?_;have:=U.pos k a;exact Nf this e
theorem BY(U:eP B.X){c:Nat}(hc:c<B.X.N):c∈bC B.X↔(B.X.rk c).isSome=true:=by
 constructor
 ·intro h;refine ar (NU.mp h) fun k hk e'2=>?_;subst e'2;exact aa (U.rk k (NV.mp hk)) rfl
 ·intro h;cases e:B.X.rk c with
  |none=>rw[e]at h;exact gz h
  |some k=>
   refine xA (U.inv c k hc e) fun a e=>?_;exact NU.mpr ⟨k,NV.mpr a,e⟩
theorem B8(U:gx B.X):(bC B.X).map (fun i=>AV.str (B.X.kH i))=bF B.X.n fun k=>AV.str (B.X.nm k):=by
 refine aa List.map_map ?_;exact NY fun k hk=>congrArg AV.str (show B.X.kH (B.X.id k)=B.X.nm k by unfold Tr.kH;exact aa (U.rk k (NV.mp hk)) rfl)
def Dh(X:Tr):AO:=.list ((bC X).map fun i=>AV.str (X.kH i))
def EB(X:Tr):AO:=.list ((bC X).map fun i=>AV.loc 1 i)
def K7(X:Tr)(r:List AO):List AO:=r++[Dh X]++[EB X]++[.list []]++[.list []]
def rD(X:Tr)(r:List AO):List AO:=K7 X r++[.list (ax ((bC X).map a8) none (some 1))]
def G8(X:Tr)(i:Nat):List AV:=(X.av i).map fun c=>h_ (bw X c)
def bY(X:Tr)(m:Nat):List AO:=(List.range m).map fun k=>.list (G8 X (X.id k))
noncomputable def d_(base m:Nat):List AV:=(List.range m).map fun k=>.loc 7 (base+k)
theorem Bh(W:Ok B b)(I:dM B.X){r:List AO}:fg (aw (ag B (au B) (jr J (r++[Dh B.X])))) (.loc 7 r.length) (.loc 0 24)=some true:=by
 have h1:ae (aw (ag B (au B) (jr J (r++[Dh B.X])))) 7 r.length=some (bF B.X.n fun k=>AV.str (B.X.nm k)):=by refine bR (B8 W.U.togx) ?_;exact d9
 have h2:ae (aw (ag B (au B) (jr J (r++[Dh B.X])))) 0 24=some (bF B.X.n fun k=>AV.str (B.X.nm k)):=rfl;exact eH h1 h2 (bb (H:=aw (ag B (au B) (jr J (r++[Dh B.X])))) (n:=6) (f:=fun k=>AV.str (B.X.nm k)) (g:=fun k=>PyData.str (B.X.nm k)) (l:=List.range B.X.n) fun _ _=>rfl) (bb (H:=aw (ag B (au B) (jr J (r++[Dh B.X])))) (n:=6) (f:=fun k=>AV.str (B.X.nm k)) (g:=fun k=>PyData.str (B.X.nm k)) (l:=List.range B.X.n) fun _ _=>rfl) (br fun k hk=>g_ (I.str (NV.mp hk)))
theorem y8:∀a∈bX,PyData.canLayAll0 (a.map dP)=true:=by decide+kernel
theorem Bg(W:Ok B b){r:List AO}:fg (aw (ag B (au B) (jr J (r++[EB B.X])))) (.loc 7 r.length) (.loc 0 25)=some true:=by
 have h1:ae (aw (ag B (au B) (jr J (r++[EB B.X])))) 7 r.length=some ((List.range B.X.n).map fun k=>AV.loc 1 (B.X.id k)):=by
  refine(d9 (l:=(bC B.X).map fun i=>AV.loc 1 i)).trans ?_;exact aa List.map_map rfl
 have h2:ae (aw (ag B (au B) (jr J (r++[EB B.X])))) 0 25=some ((List.range B.X.n).map fun k=>AV.loc 3 k):=rfl;exact eH h1 h2 (bb (H:=aw (ag B (au B) (jr J (r++[EB B.X])))) (n:=6) (f:=fun k=>AV.loc 1 (B.X.id k)) (g:=fun k=>PyData.list ((B.X.bc k).map dP)) (l:=List.range B.X.n) fun k hk=>iD (n:=5) (ju (W.U).togx (NV.mp hk)) (bb fun _ _=>rfl)) (bb (H:=aw (ag B (au B) (jr J (r++[EB B.X])))) (n:=6) (f:=fun k=>AV.loc 3 k) (g:=fun k=>PyData.list ((B.X.bc k).map dP)) (l:=List.range B.X.n) fun k hk=>iD (n:=5) (iZ (M:=au B) (NV.mp hk)) (bb fun _ _=>rfl)) (br fun k hk=>fy (y8 _ (W.al k (NV.mp hk))))
theorem Cs(W:Ok B b)(I:dM B.X){k:Nat}(hk:k<B.X.n):PyData.canLayAll0 (((au B).av k).map dK)=true:=br fun a ha=>v5 I W hk ha
theorem Hw{k:Nat}:G8 B.X (B.X.id k)=((au B).av k).map h_:=by
 exact aa List.map_map rfl
theorem wC{r m:List AO}{n k:Nat}(hJ:J.r7=r++bY B.X n++m)(hk:k<n):ae (aw (ag B M J)) 7 (r.length+k)=some (((au B).av k).map h_):=by
 refine Dg ?_;refine aa hJ ?_;rw[NK];refine aa (Ow (LB)) (aa (show r.length+k-r.length=k by exact Nat.add_sub_self_left _ _) (aa (NM (by unfold bY;simpa using hk)) ?_));refine bR Hw ?_;exact cK hk
theorem Ei(W:Ok B b)(I:dM B.X){r:List AO}{r6:List AO}:fg (aw (ag B (au B) {J with r6:=r6,r7:=r++bY B.X B.X.n++[.list (d_ r.length B.X.n)]})) (.loc 7 (r++bY B.X B.X.n).length) (.loc 0 26)=some true:=by
 have h1:ae (aw (ag B (au B) {J with r6:=r6,r7:=r++bY B.X B.X.n++[.list (d_ r.length B.X.n)]})) 7 (r++bY B.X B.X.n).length=some ((List.range B.X.n).map fun k=>.loc 7 (r.length+k)):=Dg aG;have h2:ae (aw (ag B (au B) {J with r6:=r6,r7:=r++bY B.X B.X.n++[.list (d_ r.length B.X.n)]})) 0 26=some ((List.range B.X.n).map fun k=>AV.loc 4 k):=rfl;have d2:=bb (H:=aw (ag B (au B) {J with r6:=r6,r7:=r++bY B.X B.X.n++[.list (d_ r.length B.X.n)]})) (n:=6) (f:=fun k=>AV.loc 4 k) (g:=fun k=>PyData.list (((au B).av k).map dK)) (l:=List.range B.X.n) fun k hk=>iD (n:=5) (jE (M:=au B) (NV.mp hk)) (bb fun _ _=>vf);exact eH h1 h2 (bb (H:=aw (ag B (au B) {J with r6:=r6,r7:=r++bY B.X B.X.n++[.list (d_ r.length B.X.n)]})) (n:=6) (f:=fun k=>AV.loc 7 (r.length+k)) (g:=fun k=>PyData.list (((au B).av k).map dK)) (l:=List.range B.X.n) fun k hk=>iD (n:=5) (wC (M:=au B) (J:={J with r6:=r6,r7:=r++bY B.X B.X.n++[.list (d_ r.length B.X.n)]}) rfl (NV.mp hk)) (bb fun _ _=>vf)) d2 (br fun k hk=>fy (Cs W I (NV.mp hk)))
end
section
variable{α ρ τ:Type}{step:(Nat→List AV×τ→St→Option ρ)→Nat→List AV×τ→St→Option ρ}{body:(Nat→List AV×τ→St→Option ρ)→Nat→List AV×τ→St→AV→Option ρ}{E:List AV×τ→St→Option ρ}{c:τ}{s s0:St}{r:Option ρ}{R I:Nat}
theorem fH(xs:List α)(f0 f:α→AV)(h0:s0=s)
 (hstep:∀go j t s,step go j t s=((ae (aw s) R I).bind fun x=>if x.length=(xs.map f0).length then some x[j]? else none).bind fun o=>bz o (E t s) fun v=>body go j t s v)
 (hg:ae (aw s) R I=some (xs.map f0)) (hl:xs.length<1000000)
 (hb:∀go j acc a,a∈xs→xs[j]?=some a→acc.length<ab→body go j (acc,c) s (f0 a)=go (j+1) (acc++[f a],c) s)
 (he:(xs.map f).length<ab→E (xs.map f,c) s=r):bK step (cD ((xs.map f0).length+1)) 0 ([],c) s0=r:=by
 have ft:xs.filter (fun _=>true)=xs:=List.filter_eq_self.mpr fun _ _=>rfl;exact BD xs f0 f (fun _=>true) h0 hstep hg hl (fun go j acc a h1 h2 h3=>hb go j acc a h1 h2 h3) (by refine aa ft ?_;exact he)
theorem jB(xs:List α)(f0:α→AV){a0:List AV}(h0:s0=s)
 (hstep:∀go j t s,step go j t s=((ae (aw s) R I).bind fun x=>if x.length=(xs.map f0).length then some x[j]? else none).bind fun o=>bz o (E t s) fun v=>body go j t s v)
 (hg:ae (aw s) R I=some (xs.map f0)) (hb:∀go j a,a∈xs→body go j (a0,c) s (f0 a)=go (j+1) (a0,c) s)
 (he:E (a0,c) s=r):bK step (cD ((xs.map f0).length+1)) 0 (a0,c) s0=r:=by
 refine(eI xs.length (fun _=>(a0,c)) (fun _=>s) rfl h0 (by rw[Nn];exact NT _) ?_).trans ?_
 ·intro j hj go;refine(hstep _ _ _ _).trans (bd (bd hg (if_pos rfl)) (oS (v:=f0 xs[j]) (by refine aa (Nz) (aa (NP hj) ?_);rfl) ?_));exact hb go j _ (List.getElem_mem hj)
 ·exact(hstep _ _ _ _).trans (bd (bd hg (if_pos rfl)) (oN (by exact aa (NO (by simp)) rfl) he))
end
theorem take1{X:Tr}(h:0<X.n):ax ((bC X).map a8) none (some 1)=[a8 (X.id 0)]:=by
 refine(gO (k:=1)).trans ?_;have:=fL h;cases e:bC X with
 |nil=>rw[e]at this;exact cZ this
 |cons a l=>
  rw[e]at this;cases this;rfl
theorem uJ{X:Tr}{m:Nat}:bY X (m+1)=bY X m++[.list (G8 X (X.id m))]:=by
 unfold bY;refine aa OW (aa Nu ?_);rfl
theorem uI{base m:Nat}:d_ base (m+1)=d_ base m++[.loc 7 (base+m)]:=by
 unfold d_;refine aa OW (aa Nu ?_);rfl
theorem m8{X:Tr}{m:Nat}:(bY X m).length=m:=aW
theorem m7{b m:Nat}:(d_ b m).length=m:=aW
theorem CN{f:Nat→Nat}:∀{l:List Nat},(l.map fun k=>(f k:Int)).sum=((l.map f).sum:Int):=by
 intro l
 induction l with
 |nil=>exact rfl
 |cons a l ih=>exact by refine aa Of (aa Of (aa List.sum_cons (aa List.sum_cons (aa ih ?_))));exact rfl
section
variable{B:Bs}{M:Ms}{J:Jk}{b:Nat}
theorem Ao(W:Ok B b)(I:Iv B){j:Nat}(hj:J.r6[j]?=some (.list ((bC B.X).map a8))):
 ∃r6 r7,∀{ρ:Type}(K:Kb ρ),gv j (ag B (au B) J) K=K true (ag B (au B) {J with r6:=J.r6++r6,r7:=r7}):=by
 have nN:=I.X.nN;have N9:=W.F.N;have N8:B.X.N<999900:=by have:=W.N;exact Kj this
 have n1:=W.n2;have U:=W.U;have jl:=gF hj;have g6:∀{r7},ae (aw (ag B (au B) (jr J r7))) 6 j=some ((bC B.X).map a8):=fun{r7}=>Bx hj;have hl:(bC B.X).length<1000000:=by rw[fM];exact sq nN N8
 have capn:((bC B.X).map a8).length<ab:=aE (by rw[Nn];exact hl)
 have idN:∀{k},k∈bC B.X→∃r,r<B.X.n∧B.X.id r=k:=fun{k}h=>by
  refine ar (NU.mp h) fun r hr e=>?_;exact⟨r,NV.mp hr,e⟩
 let base:=(rD B.X J.r7).length;let R6:=rD B.X J.r7++bY B.X B.X.n++[.list (d_ base B.X.n)];let lens:List AV:=(List.range B.X.n).map fun k=>.int (((au B).av k).length:Int);let r6':List AO:=[.list [.int 0]]++[.list ((0::bC B.X).map a8)];refine⟨r6',R6++[.list []]++[.list []]++[.list lens],fun K=>?_⟩;unfold gv;refine bd (g6 (r7:=J.r7)) ?_;refine fH (s:=ag B (au B) J) (bC B.X) a8 (fun i=>.str (B.X.kH i)) rfl (fun _ _ _ _=>rfl) (g6 (r7:=J.r7)) hl ?_ ?_
 ·intro go jj acc i hi _ hacc;refine ar (idN hi) fun r hr e'2=>?_;rw[←e'2];have e:=(el (M:=au B) (J:=J) W.F U.togx hr).nm;have:B.X.kH (B.X.id r)=B.X.nm r:=by unfold Tr.kH;rw[U.rk r hr]
  rw[this];exact bd rfl (bd e (bd rfl (fT hacc rfl)))
 intro hacc;refine fT hacc (bd (df (Bh W I.X)) (cF rfl (bd g6 ?_)));refine fH (s:=ag B (au B) (jr J (J.r7++[Dh B.X]))) (bC B.X) a8 (fun i=>.loc 1 i) rfl (fun _ _ _ _=>rfl) g6 hl ?_ ?_
 ·intro go jj acc i hi _ hacc;refine ar (idN hi) fun r hr e'2=>?_;rw[←e'2];exact bd rfl (bd (mJ (M:=au B) W.F (U.lt r hr)) (bd rfl (bT rfl (fT hacc rfl))))
 intro hacc;refine fT hacc (bd (df (Bg W)) (cF rfl (bd g6 ?_)));refine jB (s:=ag B (au B) (jr J (J.r7++[Dh B.X]++[EB B.X]))) (bC B.X) a8 rfl (fun _ _ _ _=>rfl) g6 ?_ ?_
 ·intro go jj i hi;refine ar (idN hi) fun r hr e'2=>?_;subst e'2;exact bd rfl (bd (el (M:=au B) W.F U.togx hr).sp (bd rfl (cF (nF (dT rfl)) rfl)))
 have e0:fg (aw (ag B (au B) (jr J (K7 B.X J.r7)))) (.loc 7 (J.r7++[Dh B.X]++[EB B.X]).length) (.loc 7 (J.r7++[Dh B.X]++[EB B.X]++[AO.list []]).length)=some true:=lq (l:=[]) (rB (l:=[]) (m:=[])) d9;refine fT (by decide) (bd (df e0) (cF rfl (bd (iQ (M:=au B) W.F U.Np) (bd rfl (bT rfl ?_)))));refine bd g6 (fT capn ?_);refine fT (by rw[take1 (LW n1)];show 1<ab;decide) ?_
 have e1:fg (aw (ag B (au B) (jr J (rD B.X J.r7)))) (.loc 2 0) (.loc 7 (K7 B.X J.r7).length)=some true:=by
  have h1:=f5 (B:=B) (M:=au B) (J:=jr J (rD B.X J.r7)) U.Np;rw[I.X.BF]at h1;exact eH (ds:=[.int (B.X.id 0:Int)]) h1 ((d9 (l:=ax ((bC B.X).map a8) none (some 1))).trans (congrArg some (take1 (LW n1)))) rfl rfl (br (g:=fun k:Nat=>PyData.int (k:Int)) (l:=[B.X.id 0]) fun _ _=>iP)
 refine bd (df e1) (cF rfl (bd g6 ?_));have rs:∀m,m≤B.X.n→∀{r7:List AO},ae (aw (ag B (au B) (jr J r7))) 6 j=some ((bC B.X).map a8):=fun _ _ _=>g6;have z:(([]:List AV),j,())=(d_ base 0,j,()):=rfl
 have zs:ag B (au B) (jr J (rD B.X J.r7))=ag B (au B) (jr J (rD B.X J.r7++bY B.X 0)):=by
  rw[show rD B.X J.r7++bY B.X 0=rD B.X J.r7 from N7 _]
 refine(eI B.X.n (fun m=>(d_ base m,j,())) (fun m=>ag B (au B) (jr J (rD B.X J.r7++bY B.X m))) z zs ?_ ?_).trans ?_
 ·rw[Nn,fM];exact NT _
 ·intro m hm go;have idN':=U.lt m hm;refine bd (t:=some (a8 (B.X.id m))) (bd g6 ((if_pos rfl).trans (by rw[Nz,fL hm];rfl))) (oS rfl (bd rfl (bd (iQ (M:=au B) W.F idN') (bd rfl (bT rfl (bd (f5 idN') ?_))))));have lk:(B.X.av (B.X.id m)).length<1000000:=by have:=W.kl _ idN';exact sq this N8
  refine fH (s:=ag B (au B) (jr J (rD B.X J.r7++bY B.X m))) (B.X.av (B.X.id m)) a8 (fun c=>h_ (bw B.X c)) rfl (fun _ _ _ _=>rfl) (f5 idN') lk ?_ ?_
  ·intro go2 jj acc c hc _ hacc;refine xA (W.kc _ c idN' hc) fun c0 cN=>?_
   have hin:m9 (aw (ag B (au B) (jr J (rD B.X J.r7++bY B.X m)))) (.int (c:Int)) (.loc 6 j)=some (decide (c∈bC B.X)):=by
    show((J.r6[j]?)).bind _=_;rw[hj];exact uf
   refine bd rfl (bd hin ?_);by_cases hm2:c∈bC B.X
   ·refine ar (idN hm2) fun r hr e'2=>?_;clear hin nN r6' rs zs;subst e'2;refine cT (dT hm2) (bd g6 (bd g6 (fT capn (bd (u7 U.togx hr) (fT hacc ?_)))));rw[show bw B.X (B.X.id r)=.inl r by unfold bw;rw[U.rk r hr]];rfl
   ·refine cF (dF hm2) (bd (wH (M:=au B) W.F cN) (bd rfl (fT hacc ?_)))
    have:B.X.rk c=none:=by
     cases e:B.X.rk c with
     |none=>rfl
     |some k=>exact absurd ((BY U cN).mpr (by rw[e];rfl)) hm2
    rw[show bw B.X c=.inr (B.X.tx c) by unfold bw;rw[this]];rfl
  ·intro hacc;refine fT hacc (fT (aE (by rw[m7];exact(LA [_,_,_] (Sx V0) (.k 1000000) (.a (.a (Sx V0) V1) (Sx V2)) (.a (.a V1 V2) (.k 999900)) rfl (Nq (Nq hm nN) N8)))) ?_);rw[uI,uJ,←NK];rw[show base+m=(rD B.X J.r7++bY B.X m).length by rw[NH,m8]]
   rfl
 refine bd (t:=none) (bd g6 ((if_pos rfl).trans (by rw[NO (by rw[Nn,fM];exact NQ _)]))) (oN rfl (fT (aE (by rw[m7];exact sq nN N8)) ?_));refine bd (df (Ei (J:=J) W I.X (r6:=J.r6))) (cF rfl ?_);have ga:ae (aw (ag B (au B) {J with r6:=J.r6++[.list [.int 0]],r7:=R6})) 6 J.r6.length=some [.int 0]:=Bx aG;have gb:ae (aw (ag B (au B) {J with r6:=J.r6++[.list [.int 0]],r7:=R6})) 6 j=some ((bC B.X).map a8):=Bx ((NM jl).trans hj);have e0n:[AV.int 0]++(bC B.X).map a8=(0::bC B.X).map a8:=rfl;have cap0:((0::bC B.X).map a8).length<ab:=aE (by rw[Nn,Od,fM];exact(LA [_,_] (Sx (Sx V0)) (.k 1000000) (.a V0 (Sx V1)) (.a V1 (.k 999900)) rfl (Nq nN N8)));refine bd ga (bd gb ?_);rw[e0n];refine fT cap0 ?_;let J6:Jk:={J with r6:=J.r6++[.list [.int 0]]++[.list ((0::bC B.X).map a8)],r7:=R6};have gc:ae (aw (ag B (au B) J6)) 6 (J.r6++[AO.list [AV.int 0]]).length=some ((0::bC B.X).map a8):=Bx aG;refine bd gc ?_;refine jB (s:=ag B (au B) J6) (0::bC B.X) a8 rfl (fun _ _ _ _=>rfl) gc ?_ ?_
 ·intro go jj i hi
  have iN:i<B.X.N:=by
   rcases Nv.mp hi with rfl|hi
   ·exact U.Np
   ·obtain⟨r,hr,rfl⟩:=idN hi;exact U.lt r hr
  refine bd rfl (bd (iQ (M:=au B) (J:=J6) W.F iN) (bd rfl (bT rfl (bd (f5 iN) ?_))));refine jB (s:=ag B (au B) J6) (B.X.av i) a8 rfl (fun _ _ _ _=>rfl) (f5 iN) ?_ rfl;intro go2 j2 c hc;refine xA (W.kc i c iN hc) fun c0 cN=>?_;exact bd rfl (bd (oR (M:=au B) (J:=J6) W.F cN) (bd rfl (cF (nF (dT (I.X.kp i c iN hc))) rfl)))
 have e2:fg (aw (ag B (au B) {J6 with r7:=R6++[.list []]++[.list []]})) (.loc 7 R6.length) (.loc 7 (R6++[AO.list []]).length)=some true:=lq (l:=[]) (Dg ((NM (by simp)).trans aG)) (Dg aG);refine fT (by decide) (bd (df e2) (cF rfl (fT (aV N9) ?_)));have bl:base+B.X.n=(rD B.X J.r7++bY B.X B.X.n).length:=by rw[NH,m8]
 have gd:ae (aw (ag B (au B) {J6 with r7:=R6++[.list []]++[.list []]})) 7 (rD B.X J.r7++bY B.X B.X.n).length=some ((List.range B.X.n).map fun k=>AV.loc 7 (base+k)):=Dg (by
  show(rD B.X J.r7++bY B.X B.X.n++[AO.list (d_ base B.X.n)]++[AO.list []]++[AO.list []])[_]?=_;rw[NM (by simp),NM (by simp),aG];rfl)
 refine bd gd ?_;refine fH (s:=ag B (au B) {J6 with r7:=R6++[.list []]++[.list []]}) (List.range B.X.n) (fun k=>AV.loc 7 (base+k)) (fun k=>.int (((au B).av k).length:Int)) rfl (fun _ _ _ _=>rfl) gd (by rw[N0];exact sq nN N8) ?_ ?_
 ·intro go jj acc k hk _ hacc;have kn:=NV.mp hk
  have gr:ae (aw (ag B (au B) {J6 with r7:=R6++[.list []]++[.list []]})) 7 (base+k)=some (((au B).av k).map h_):=wC (n:=B.X.n) (r:=rD B.X J.r7) (m:=[.list (d_ base B.X.n)]++[.list []]++[.list []]) (by
   show rD B.X J.r7++bY B.X B.X.n++[AO.list (d_ base B.X.n)]++[AO.list []]++[AO.list []]=_;simp only[NK]) kn
  have ll:(((au B).av k).map h_).length<ab:=aE (by
   show(List.map _ (List.map _ _)).length<_;rw[Nn,Nn];have:=W.kl _ (U.lt k kn);exact sq this N8)
  refine bd gr (fT ll (fT hacc ?_));rw[Nn]
 intro hacc;refine fT hacc (bd (t:=lens) (Dg (J:={J6 with r7:=R6++[.list []]++[.list []]++[.list lens]}) aG) (bd (bI (f:=fun k=>(((au B).av k).length:Int))) ?_));have ht:=I.X.tot
 have hd:decide (((ag B (au B) {J6 with r7:=R6++[.list []]++[.list []]}).kinds.length:Int)=2+((List.range B.X.n).map fun k=>(((au B).av k).length:Int)).sum)=true:=dT (by
  rw[show(ag B (au B) {J6 with r7:=R6++[.list []]++[.list []]}).kinds.length=B.X.N from aW,CN (f:=fun k=>((au B).av k).length)];have:(List.range B.X.n).map (fun k=>((au B).av k).length)=(List.range B.X.n).map fun k=>(B.X.av (B.X.id k)).length:=NY fun k _=>Nn ..;rw[this];exact Int.neg_inj.mp (congrArg Neg.neg (congrArg Nat.cast ht)))
 refine(congrArg (fun z=>K z _) hd).trans ?_;refine congrArg (K true) ?_;show ag B (au B) {J with r6:=J.r6++[.list [.int 0]]++[.list ((0::bC B.X).map a8)],r7:=R6++[.list []]++[.list []]++[.list lens]}=ag B (au B) {J with r6:=J.r6++([.list [.int 0]]++[.list ((0::bC B.X).map a8)]),r7:=R6++[.list []]++[.list []]++[.list lens]};rw[NK]
end
def uS{ρ:Type}(st:St)(K:Kb ρ):Option ρ:=
 if st.kinds.length<ab then if small (↑st.kinds.length:Int)=true then if(true&&small (↑st.kinds.length:Int)&&true)=true then bK (fun(go4:Nat→List AV×PUnit→St→Option ρ)(j5:Nat)(t6:List AV×PUnit)(s7:St)=>bz (aH 0 (↑st.kinds.length:Int) 1)[j5]? (if t6.fst.length<ab then(ae (aw (s7.bt (s7.r6++[AO.list t6.fst]))) 6 s7.r6.length).bind fun(x8:List AV)=>if x8.length<ab then if s7.mnames.length<ab then bif !decide ((↑x8.length:Int)=(↑s7.mnames.length:Int))then K false (s7.bt (s7.r6++[AO.list t6.fst]))else gv s7.r6.length (s7.bt (s7.r6++[AO.list t6.fst])) fun(x9:Bool)(s10:St)=>bif !x9 then K false s10 else(ae (aw s10) 5 s10.mopen).bind fun(x11:List AV)=>bK (fun(go12:Nat→List AV×Nat×PUnit→St→Option ρ)(j13:Nat)(t14:List AV×Nat×PUnit)(s15:St)=>((ae (aw s15) 5 s10.mopen).bind fun(x16:List AV)=>if x16.length=x11.length then some x16[j13]? else none).bind fun(x17:Option AV)=>bz x17 (if t14.fst.length<ab then(Option.map (fun(x18:Bool)=>!x18) (fg (aw (s15.aB (s15.r7++[AO.list t14.fst]))) (AV.loc 0 16) (AV.loc 7 s15.r7.length))).bind fun(x19:Bool)=>bif x19 then K false (s15.aB (s15.r7++[AO.list t14.fst]))else(ae (aw (s15.aB (s15.r7++[AO.list t14.fst]))) 6 s15.mlist).bind fun(x20:List AV)=>bK (fun(go21:Nat→List AV×Nat×PUnit→St→Option ρ)(j22:Nat)(t23:List AV×Nat×PUnit)(s24:St)=>((ae (aw s24) 6 s15.mlist).bind fun(x25:List AV)=>if x25.length=x20.length then some x25[j22]? else none).bind fun(x26:Option AV)=>bz x26 (if t23.fst.length<ab then(Option.map (fun(x27:Bool)=>!x27) (fg (aw (s24.aB (s24.r7++[AO.list t23.fst]))) (AV.loc 0 19) (AV.loc 7 s24.r7.length))).bind fun(x28:Bool)=>bif x28 then K false (s24.aB (s24.r7++[AO.list t23.fst]))else bK (fun(go29:Nat→List AV×PUnit→St→Option ρ)(j30:Nat)(t31:List AV×PUnit)(st2:St)=>(if st2.merrs.length=s24.merrs.length then some st2.merrs[j30]? else none).bind fun(x33:Option AV)=>bz x33 (if t31.fst.length<ab then(Option.map (fun(x34:Bool)=>!x34) (fg (aw (st2.aB (st2.r7++[AO.list t31.fst]))) (AV.loc 0 22) (AV.loc 7 st2.r7.length))).bind fun(x35:Bool)=>bif x35 then K false (st2.aB (st2.r7++[AO.list t31.fst]))else bif(PyData.bool st2.free).eqv (PyData.bool st2.ig)then K true (st2.aB (st2.r7++[AO.list t31.fst]))else K ((PyData.bool st2.free).eqv (PyData.bool st2.ig)) (st2.aB (st2.r7++[AO.list t31.fst]))else none) fun(x36:AV)=>x36.s?.bind fun(x37:Str)=>if t31.fst.length<ab then go29 (j30+1) (t31.fst++[AV.tup [AV.str x37,AV.str (q "in body")]],()) st2 else none) (cD (s24.merrs.length+1)) 0 ([],()) (s24.aB (s24.r7++[AO.list t23.fst]))else none) fun(x38:AV)=>x38.i?.bind fun(x39:Int)=>bif !decide (x39=-1)then(ae (aw s24) 6 t23.snd.fst).bind fun(x40:List AV)=>(ai x40 (AV.int x39)).bind fun(x41:AV)=>x41.i?.bind fun(x42:Int)=>if t23.fst.length<ab then go21 (j22+1) (t23.fst++[AV.int x42],t23.snd.fst,()) s24 else none else if t23.fst.length<ab then go21 (j22+1) (t23.fst++[AV.int (-1)],t23.snd.fst,()) s24 else none) (cD (x20.length+1)) 0 ([],s7.r6.length,()) (s15.aB (s15.r7++[AO.list t14.fst]))else none) fun(x43:AV)=>x43.i?.bind fun(x44:Int)=>(ae (aw s15) 6 t14.snd.fst).bind fun(x45:List AV)=>(ai x45 (AV.int x44)).bind fun(x46:AV)=>x46.i?.bind fun(x47:Int)=>if t14.fst.length<ab then go12 (j13+1) (t14.fst++[AV.int x47],t14.snd.fst,()) s15 else none) (cD (x11.length+1)) 0 ([],s7.r6.length,()) s10 else none else none else none) fun(x48:AV)=>x48.i?.bind fun(x49:Int)=>(ai s7.kinds (AV.int x49)).bind fun(x50:AV)=>x50.s?.bind fun(x51:Str)=>bif decide (x51=q "element")then if t6.fst.length<ab then go4 (j5+1) (t6.fst++[AV.int x49],()) s7 else none else go4 (j5+1) (t6.fst,()) s7) (cD ((aH 0 (↑st.kinds.length:Int) 1).length+1)) 0 ([],()) st else none else none else none
theorem Bj{es:List Str}(h:∀w∈es,PyData.strOk w=true):PyData.canLayAll0 (es.map fun w=>PyData.tuple [.str w,.str (q "in body")])=true:=
 br fun w hw=>oo (by rw[PyData.canLayAll0,PyData.canLayAll0,PyData.canLayAll0];refine aa (g_ (h w hw)) (aa (g_ (show PyData.strOk (q "in body")=true by decide+kernel)) ?_);rfl)
section
variable{B:Bs}{J:Jk}{ns:List Int}
theorem EG(T:Tn ns B J 24):∃s',∀{ρ:Type}(K:Kb ρ),uS (ag B (au B) J) K=K true s':=by
 have W:=T.W;have I:=T.I;have U:=W.U;have N8:B.X.N<999900:=by have:=W.N;exact Kj this
 have nN:=I.X.nN;have oNl:=W.oN;have lN:=W.lN;have eN:=W.eN;let J1:Jk:={J with r6:=J.r6++[.list ((bC B.X).map a8)]};refine sk (Ao (J:=J1) (j:=J.r6.length) W I aG) fun r6 r7 ht=>?_;let J2:Jk:={J1 with r6:=J1.r6++r6,r7:=r7}
 have n6:∀{J':Jk},J'.r6=J2.r6→ae (aw (ag B (au B) J')) 6 J.r6.length=some ((bC B.X).map a8):=fun{J'}h=>Bx (by
  refine aa h ?_;exact(NM (by show _<(J.r6++[_]).length;simp)).trans aG)
 have l6:∀{J':Jk},J'.r6=J2.r6→J'.ml=J.ml→ae (aw (ag B (au B) J')) 6 J.ml=some (bO B.ah):=fun{J'}h _=>Bx (by
  refine aa h ?_;have:=gF T.jk.ls;exact(NM (by show _<(J.r6++[_]).length;simp;exact Df this)).trans ((NM this).trans T.jk.ls))
 have o5:∀{J':Jk},J'.r5=J.r5→ae (aw (ag B (au B) J')) 5 J.mo=some (B.aj.reverse.map a8):=fun{J'}h=>by
  show(J'.r5[J.mo]?).bind _=_;refine aa h (aa T.jk.op ?_);rfl
 let a1:List AV:=B.aj.reverse.map fun k=>a8 (B.X.id k);let a2:List AV:=B.ah.reverse.map fun o=>.int (eU B.X.id o);let a3:List AV:=B.aq.map fun w=>.tup [.str w,.str (q "in body")];refine⟨ag B (au B) {J2 with r7:=r7++[.list a1]++[.list a2]++[.list a3]},fun K=>?_⟩;unfold uS;have sm:small ((ag B (au B) J).kinds.length:Int)=true:=aS (by refine aa (show(ag B (au B) J).kinds.length=B.X.N from aW) ?_;exact(LA [_] (Sx V0) (.k 1000000000) (Sx V0) (.k 999900) rfl N8));refine fT (aV (H8 N8)) (fT sm (fT (by refine aa sm ?_;rfl) ?_));have kl:(ag B (au B) J).kinds.length=B.X.N:=aW
 have pe:∀i,i<B.X.N→decide (B.X.kd i=q "element")=(B.X.rk i).isSome:=fun i hi=>by
  unfold Tr.kd;by_cases h:i=0
  ·refine aa h ?_;refine aa (if_pos rfl) (aa (M7 U) ?_);exact dF (by decide+kernel)
  ·refine aa (if_neg h) ?_;cases B.X.rk i with
   |none=>exact dF (by decide+kernel)
   |some _=>exact dT rfl
 have fl:(List.range B.X.N).filter (fun i=>decide (B.X.kd i=q "element"))=bC B.X:=by
  refine aa (List.filter_congr fun i hi=>pe i (NV.mp hi)) ?_;exact I.X.bC
 refine cR (List.range B.X.N) a8 (fun i=>decide (B.X.kd i=q "element")) rfl (by exact aa f_ (aa kl (aa N0 rfl))) (by refine aa N0 ?_;exact H8 N8) ?_ ?_
 ·intro go j acc i hi hacc
  have ij:j<B.X.N∧i=j:=by
   have:=gF hi;rw[N0]at this;rw[OF this]at hi;exact⟨this,(Oi.mp hi).symm⟩
  revert ij;refine rA fun hj e'1=>?_;clear hi;subst e'1;refine oS (cJ.trans (if_pos (by refine aa kl ?_;exact hj))) (bd rfl (bd (oJ (M:=au B) W.F hj) (bd rfl ?_)));cases h:decide (B.X.kd i=q "element")with
  |true=>exact cT rfl (fT hacc rfl)
  |false=>exact cF rfl rfl
 intro go hacc;rw[fl]at hacc⊢;refine oN (cJ.trans (if_neg (by refine aa kl (aa N0 ?_);exact Oc _))) (fT hacc ?_);have g0:ae (aw (ag B (au B) J1)) 6 J.r6.length=some ((bC B.X).map a8):=Bx aG
 refine bd g0 (fT hacc (fT (aV (by show B.X.n<_;exact sq nN N8)) (cF (nF (dT (by
  refine aa (show(ag B (au B) J).mnames.length=B.X.n from aW) ?_;rw[Nn];exact aa fM rfl))) ?_)))
 refine(ht _).trans (cF rfl (bd (o5 rfl) ?_));refine fH (s:=ag B (au B) J2) B.aj.reverse a8 (fun k=>a8 (B.X.id k)) rfl (fun _ _ _ _=>rfl) (o5 rfl) (by refine aa Nx ?_;exact sq oNl N8) ?_ ?_
 ·intro go j acc k hk _ hacc;have kn:=W.hk k (N6.mp hk);exact bd rfl (bd (n6 (J':=J2) rfl) (bd (t:=a8 (B.X.id k)) (bp (i:=k) (by refine aa (Nz) (aa (fL kn) ?_);rfl) ((LA [_,_,_] (Sx V0) (.k 1000000000) (.a (.a (Sx V0) V1) (Sx V2)) (.a (.a V1 V2) (.k 999900)) rfl (Nq (Nq kn nN) N8)))) (bd rfl (fT hacc rfl))))
 intro hacc
 have e1:fg (aw (ag B (au B) {J2 with r7:=r7++[.list a1]})) (.loc 0 16) (.loc 7 r7.length)=some true:=by
  have h1:ae (aw (ag B (au B) {J2 with r7:=r7++[.list a1]})) 0 16=some (B.aj.reverse.map fun k=>.int (B.X.id k:Int)):=congrArg some gQ;have d:=bb (H:=aw (ag B (au B) {J2 with r7:=r7++[.list a1]})) (n:=6) (f:=fun k=>AV.int (B.X.id k:Int)) (g:=fun k=>PyData.int (B.X.id k:Int)) (l:=B.aj.reverse) fun _ _=>rfl;exact eH h1 (Dg aG) d d (br fun _ _=>iP)
 refine fT hacc (bd (df e1) (cF rfl (bd (l6 (J':={J2 with r7:=r7++[.list a1]}) rfl rfl) ?_)));refine fH (s:=ag B (au B) {J2 with r7:=r7++[.list a1]}) B.ah.reverse (fun o=>.int (eU (fun k=>k) o)) (fun o=>.int (eU B.X.id o)) rfl (fun _ _ _ _=>rfl) (l6 (J':={J2 with r7:=r7++[.list a1]}) rfl rfl) (by refine aa Nx ?_;exact(LA [_,_] (Sx V0) (.k 1000000) (Sx (.a V0 V1)) (.k 999900) rfl lN)) ?_ ?_
 ·intro go j acc o ho _ hacc;cases o with
  |none=>exact bd rfl (cF (nF (dT rfl)) (fT hacc rfl))
  |some k=>
   have kn:=W.hl k (N6.mp ho);exact bd rfl (cT (nT (dF (by show¬(k:Int)=-1;exact sr))) (bd (n6 (J':={J2 with r7:=r7++[.list a1]}) rfl) (bd (t:=a8 (B.X.id k)) (bp (i:=k) (by refine aa (Nz) (aa (fL kn) ?_);rfl) ((LA [_,_,_] (Sx V0) (.k 1000000000) (.a (.a (Sx V0) V1) (Sx V2)) (.a (.a V1 V2) (.k 999900)) rfl (Nq (Nq kn nN) N8)))) (bd rfl (fT hacc rfl)))))
 intro hacc
 have e2:fg (aw (ag B (au B) {J2 with r7:=r7++[.list a1]++[.list a2]})) (.loc 0 19) (.loc 7 (r7++[AO.list a1]).length)=some true:=by
  have h1:ae (aw (ag B (au B) {J2 with r7:=r7++[.list a1]++[.list a2]})) 0 19=some (B.ah.reverse.map fun o=>.int (eU B.X.id o)):=congrArg some cC;have d:=bb (H:=aw (ag B (au B) {J2 with r7:=r7++[.list a1]++[.list a2]})) (n:=6) (f:=fun o=>AV.int (eU B.X.id o)) (g:=fun o=>PyData.int (eU B.X.id o)) (l:=B.ah.reverse) fun _ _=>rfl;exact eH h1 (Dg aG) d d (br fun _ _=>iP)
 refine fT hacc (bd (df e2) (cF rfl ?_));have me:∀{J'},(ag B (au B) J').merrs=B.aq.map .str:=fun{J'}=>rfl;refine cR B.aq (fun w=>.tup [.str w,.str (q "in body")]) (fun _=>true) rfl (by refine aa me ?_;rw[Nn]) ((LA [_,_] (Sx V0) (.k 1000000) (Sx (.a V0 V1)) (.k 999900) rfl eN)) ?_ ?_
 ·intro go j acc w hw hacc;refine bd (if_pos rfl) (oS (v:=.str w) (by rw[me];refine aa (Nz) (aa hw ?_);rfl) (bd rfl (fT hacc rfl)))
 intro go hacc;have ft:B.aq.filter (fun _=>true)=B.aq:=List.filter_eq_self.mpr fun _ _=>rfl;rw[ft]at hacc⊢;refine bd (if_pos rfl) (oN (by rw[me];exact aa (NO (by simp)) rfl) (fT hacc ?_))
 have e3:fg (aw (ag B (au B) {J2 with r7:=r7++[.list a1]++[.list a2]++[.list a3]})) (.loc 0 22) (.loc 7 (r7++[AO.list a1]++[AO.list a2]).length)=some true:=by
  have h1:ae (aw (ag B (au B) {J2 with r7:=r7++[.list a1]++[.list a2]++[.list a3]})) 0 22=some (B.aq.map fun w=>.tup [.str w,.str (q "in body")]):=rfl;have d:=bb (H:=aw (ag B (au B) {J2 with r7:=r7++[.list a1]++[.list a2]++[.list a3]})) (n:=6) (f:=fun w=>AV.tup [.str w,.str (q "in body")]) (g:=fun w=>PyData.tuple [.str w,.str (q "in body")]) (l:=B.aq) fun _ _=>rfl;exact eH h1 (Dg aG) d d (Bj I.er)
 refine bd (df e3) (cF rfl ?_);refine cT ?_ rfl;show(PyData.bool B.free).eqv (PyData.bool B.free)=true;cases B.free<;>rfl
end
def X0:Tr:=⟨4,3,fun i=>match i with|1=>some 0|2=>some 1|3=>some 2|_=>.none,fun k=>k+1,fun k=>match k with|0=>q "html"|1=>q "head"|_=>q "body",fun _=>[],fun _=>q "",
 fun i=>match i with|0=>-1|1=>0|_=>1,fun i=>match i with|0=>[1]|1=>[2,3]|_=>[]⟩
def B0:Bs:=⟨X0,[2,0],[],[],true⟩
def J0(ns:List Int):Jk:=⟨ns.map .int,0,0,[.list [.int 0,.int 2]],[.list []],JF⟩
theorem HB(ns:List Int):Lu ns=ag B0 (au B0) (J0 ns):=by rfl
theorem KQ:eP X0 where
 lt k hk:=OA hk
 rk k hk:=by
  exact l3 (show k<3 from hk) rfl rfl rfl
 pos k hk:=Nat.succ_pos k
 inv i k hi h:=by
  revert h;exact l4 (show i<4 from hi) cZ (fun h=>by cases h;exact⟨by decide,rfl⟩) (fun h=>by cases h;exact⟨by decide,rfl⟩) (fun h=>by cases h;exact⟨by decide,rfl⟩)
 par i hi:=by
  exact l4 (show i<4 from hi) ⟨by decide,by decide⟩ ⟨by decide,by decide⟩ ⟨by decide,by decide⟩ ⟨by decide,by decide⟩
 Np:=by decide
theorem KH:Ok B0 10000 where
 U:=KQ
 N:=by decide
 oN:=by decide
 lN:=by decide
 eN:=by decide
 tN i:=by show(q "").length+10000<999900;decide+kernel
 kl i hi:=by
  exact l4 (show i<4 from hi) (by decide:1≤4) (by decide:2≤4) (by decide:0≤4) (by decide:0≤4)
 kc i c hi hc:=by
  revert hc;exact l4 (show i<4 from hi) (fun hc=>aa (NX.mp (show c∈[1]from hc)) ⟨by decide,by decide⟩) (fun hc=>(m2 (show c∈[2,3]from hc)).elim (fun e=>aa e ⟨by decide,by decide⟩) fun e=>aa e ⟨by decide,by decide⟩) (fun hc=>nomatch (show c∈[]from hc)) (fun hc=>nomatch (show c∈[]from hc))
 hk k h:=by
  have h:k∈[2,0]:=h;simp only[Nv,OK,or_false]at h;rcases h with rfl|rfl<;>decide
 nd:=by decide
 bot:=⟨[],rfl,fun _ h=>nomatch h⟩
 Hf:=rfl
 Hg:=rfl
 n2:=by decide
 hl k h:=nomatch h
 ln:=List.Pairwise.nil
 l2 k h:=nomatch h
 ok k h2 hn:=by have:k<3:=hn;exact absurd this (Nat.not_lt_of_le h2)
 nt k hn:=by
  exact l3 (show k<3 from hn) (show q "html"≠q "template" by decide+kernel) (show q "head"≠q "template" by decide+kernel) (show q "body"≠q "template" by decide+kernel)
 al k hn:=.head _
theorem KD:Iv B0 where
 X:={
  bC:=by decide
  BF:=rfl
  kp:=fun i c hi hc=>by
   revert hc;exact l4 (show i<4 from hi) (fun hc=>aa (NX.mp (show c∈[1]from hc)) rfl) (fun hc=>(m2 (show c∈[2,3]from hc)).elim (fun e=>aa e rfl) fun e=>aa e rfl) (fun hc=>nomatch (show c∈[]from hc)) (fun hc=>nomatch (show c∈[]from hc))
  kn:=fun i hi=>by
   exact l4 (show i<4 from hi) (by decide:[1].Nodup) (by decide:[2,3].Nodup) List.nodup_nil List.nodup_nil
  tot:=by decide
  E1:=fun k hn h1=>by
   revert h1;exact l3 (show k<3 from hn) (fun _=>.head _) (fun h=>absurd rfl h) (fun _=>.tail _ (.head _))
  Ic:=rfl
  Fh:=fun i hi=>by show PyData.strOk (q "")=true;decide+kernel}
 EU:=by
  decide+kernel
 er:=fun w h=>nomatch h
theorem KG(ns:List Int):Tn ns B0 (J0 ns) 0:=⟨KH,KD,⟨rfl,rfl⟩,NQ _,rfl⟩
def oK{ρ:Type}(K:Kb ρ)(go:Nat→List AV×PUnit→St→Option ρ)(j:Nat)(t:List AV×PUnit)(st:St):Option ρ:=
 bz (aH 0 24 1)[j]? (uS st K) fun(x52:AV)=>x52.i?.bind fun(x53:Int)=>iI x53 st fun(x54:Int)(s55:St)=>bif decide (x54%8=7)then if 0≤97+x53∧97+x53<128 then gV {cps:=#[(97+x53).toNat]} s55 fun(x56:Unit)(s57:St)=>if 0≤97+x53∧97+x53<128 then gW {cps:=#[(97+x53).toNat]} s57 fun(x58:Unit)(s59:St)=>go (j+1) (t.fst,()) s59 else none else none else bif decide (7<x54%16)then(ai t.fst (AV.int (x54%8))).bind fun(x60:AV)=>x60.s?.bind fun(x61:Str)=>eW x61 s55 fun(x62:Unit)(s63:St)=>(ai t.fst (AV.int (x54%8))).bind fun(x64:AV)=>x64.s?.bind fun(x65:Str)=>jh (x54%8) x65 s63 fun(x66:Unit)(s67:St)=>go (j+1) (t.fst,()) s67 else(ai t.fst (AV.int (x54%8))).bind fun(x68:AV)=>x68.s?.bind fun(x69:Str)=>c7 x54 s55 fun(x70:List AV)(s71:St)=>c6 x69 x70 (decide (x54/80%4=3)) s71 fun(x72:Unit)(s73:St)=>(ai t.fst (AV.int (x54%8))).bind fun(x74:AV)=>x74.s?.bind fun(x75:Str)=>c7 x54 s73 fun(x76:List AV)(s77:St)=>c8 (x54%8) x75 x76 s77 fun(x78:Unit)(s79:St)=>bif decide (x54/80%4=3)then if s79.merrs.length<ab then go (j+1) (t.fst,()) (s79.aX (s79.merrs++[AV.str (q "non-void-html-element-start-tag-with-trailing-solidus")]))else none else go (j+1) (t.fst,()) s79
theorem EI{ρ:Type}{names:List AV}{st:St}{K:Kb ρ}:tF names st K=bK (oK K) (cD 25) 0 (names,()) st:=by rfl
theorem turns{a c b:Str}(N:Kk a c b){ns:List Int}(hn:ns.length≤63):∀(m j:Nat)(B:Bs)(J:Jk),j+m=24→Tn ns B J j→
 ∃B' J',Tn ns B' J' 24∧∀{ρ:Type}(K:Kb ρ)(n:Nat),bK (oK K) (m+n) j (hZ a c b,()) (ag B (au B) J)=bK (oK K) n 24 (hZ a c b,()) (ag B' (au B') J')
 |0=>fun j B J e T=>by
  have:j=24:=Nb e;subst this;exact⟨B,J,T,fun K n=>by rw[O0]⟩
 |m+1=>fun j B J e T=>by
  refine eB (zg N hn (show j<24 by exact(LA [_,_,_] (Sx V0) V1 (.a V0 (Sx V2)) V1 rfl (Ny e))) T) fun B1 J1 T1 h1=>?_;refine eB (turns N hn m (j+1) B1 J1 ((Pb (LA [_,_,_] (.a (Sx V0) V1) V2 (.a V0 (Sx V1)) V2 rfl (Ny e)) (LA [_,_,_] V2 (.a (Sx V0) V1) V2 (.a V0 (Sx V1)) rfl (Ny e.symm)))) T1) fun B2 J2 T2 h2=>?_;refine⟨B2,J2,T2,fun K n=>?_⟩;refine aa (show m+1+n=(m+n)+1 by exact Ih) ?_;exact eJ.trans ((h1 _ _).trans (h2 K n))
theorem zf{a c b:Str}(N:Kk a c b){ns:List Int}(hn:ns.length≤63):∃s',∀{ρ:Type}(K:Kb ρ),tF (hZ a c b) (Lu ns) K=K true s':=by
 refine eB (turns N hn 24 0 B0 (J0 ns) rfl (KG ns)) fun B' J' T' h=>?_;refine xE (EG T') fun s' he=>?_;refine⟨s',fun K=>EI.trans ?_⟩;rw[gJ,HB];refine(h K 1).trans (eJ.trans ((oN ?_ rfl).trans (he K)));exact(show(aH 0 ((24:Nat):Int) 1)[24]?=_ from cJ).trans (if_neg (Oc _))
theorem Cc:∀m:Nat,m<12→∃a,ai oQ (.int (m:Int))=some (.str a)∧a∈eQ∧a≠q "a"∧a≠q "nobr":=by
 intro m hm;have key:∀a∈["b","big","code","em","font","i","s","small","strike","strong","tt","u"],q a∈eQ∧q a≠q "a"∧q a≠q "nobr":=by decide+kernel
 have hl:m<["b","big","code","em","font","i","s","small","strike","strong","tt","u"].length:=hm;exact⟨_,bp (by unfold oQ;refine aa (Nz) (aa (NP hl) ?_);rfl) ((LA [_] (Sx V0) (.k 1000000000) (Sx V0) (.k 12) rfl hm)),key _ (List.getElem_mem hl)⟩
theorem uK:∀m:Nat,m<6→∃a,ai lD (.int (m:Int))=some (.str a)∧a∈bZ:=by
 intro m hm;have key:∀a∈["rt","rp","rb","rtc","optgroup","option"],q a∈bZ:=by decide+kernel
 have hl:m<["rt","rp","rb","rtc","optgroup","option"].length:=hm;exact⟨_,bp (by unfold lD;refine aa (Nz) (aa (NP hl) ?_);rfl) ((LA [_] (Sx V0) (.k 1000000000) (Sx V0) (.k 6) rfl hm)),key _ (List.getElem_mem hl)⟩
theorem ER:∀m:Nat,m<2→∃a,ai [.str (q "object"),.str (q "marquee")] (.int (m:Int))=some (.str a)∧a∈cq:=by
 intro m hm;exact l2 hm ⟨q "object",rfl,by decide+kernel⟩ ⟨q "marquee",rfl,by decide+kernel⟩
theorem BI{ns:List Int}(hn:ns.length≤63)(n:Nat):∃s',∀{ρ:Type}(K:KV ρ),dy RR TT PP (fw (n+60)) 82 [.loc 0 0] (H0 ns) K=K (.bool true) (aw s'):=by
 have nat:∀(z:Int)(m:Nat),0<m→∃k:Nat,z%(m:Int)=(k:Int)∧k<m:=fun z m hm=>⟨(z%(m:Int)).toNat,by have:=Int.emod_nonneg z (b:=(m:Int)) (by lia);lia,by have:=Int.emod_lt_of_pos z (b:=(m:Int)) (by lia);have:=Int.emod_nonneg z (b:=(m:Int)) (by lia);lia⟩;refine ar (nat ns.sum 12 (by decide)) fun k1 h1 l1=>?_;refine ar (nat (ns.sum/24) 6 (by decide)) fun k2 h2 l2=>?_;refine ar (nat (ns.sum/12) 2 (by decide)) fun k3 h3 l3=>?_;refine ma (Cc k1 l1) fun a ha a1 a2 a3=>?_;refine ar (uK k2 l2) fun b hb b1=>?_;refine ar (ER k3 l3) fun c hc c1=>?_;refine xE (zf (a:=a) (c:=c) (b:=b) ⟨a1,a2,a3,c1,b1⟩ hn) fun s' hs=>?_;refine⟨s',fun K=>(EH n ns K).trans ?_⟩
 have hi:cQ (ns.map .int)=some ns:=by
  have:=bI (f:=fun x:Int=>x) (l:=ns)
  rwa [List.map_id']at this
 refine bd hi (bd (h1▸ha) (bd rfl (bd (h2▸hb) (bd rfl (bd (h3▸hc) (bd rfl ((EJ n _ _ K).trans (hs _))))))))
end Hx
namespace Hx
open PySem PySem.W PyProof.Rows PySem.Calls
theorem v7:PP.at_ 82=some (.fn gD):=by kernel_rfl
theorem AU{n k:Nat}{f:zK}{args:List AV}{H:AH}{t:AV×AH}(h:PP.at_ k=some (.fn f))(e:ib PP (n+1) k args H=some t):∃lo tr,gy f.params f.defs args=some lo∧ru ((Ek PP (ib PP n) iw).x f.scope) f.body lo H=some tr∧wB tr=some t:=by
 refine ar (ob e) fun g e1 e2=>?_;rw[h]at e1;obtain rfl:=Oi.mp e1;refine ar (ob e2) fun lo e3 e2=>?_;refine ar (ob e2) fun tr e4 e2=>?_;exact⟨lo,tr,e3,e4,e2⟩
theorem BG:gy gD.params gD.defs [.loc 0 0]=some [(("script":Str),.loc 0 0)]:=by kernel_rfl
theorem BH{ns:List Int}(hn:ns.length≤63):∃lo H',ru ((Ek PP (ib PP 60) iw).x gD.scope) gD.body [(("script":Str),.loc 0 0)] (H0 ns)=some (.ret (.bool true),lo,H'):=by
 refine xE (BI hn 0) fun s' hs=>?_;have D:=(r8 (W:=RR) (T:=TT) (P:=PP) (vD 60)).c (n:=82) (args:=[.loc 0 0]) (H:=H0 ns) (k:=fun v H=>some (v,H)) (x:=(.bool true,aw s'));dsimp only at D;refine ar (D (hs (ρ:=AV×AH) fun v H=>some (v,H))) fun t h1 h2=>?_;rw[h2]at h1;refine bx (AU v7 h1) fun lo tr e1 e2 e3=>?_;rw[BG]at e1;obtain rfl:=Oi.mp e1;rcases rV e3 with⟨lo2,e4⟩|⟨e4,_⟩
 ·exact⟨lo2,_,e2.trans (congrArg some e4)⟩
 ·exact nomatch e4
theorem Jr{K:Frag}{w:World}{p:Program}{prog:Program}{loose:List Str}{mg mb:Str→Option Value}{s₁:Shared}{h₁:Heap}{tk:Nat}{env:Env}{l:Addr}{vs:List Value}{ns:List Int}{w1 w2:Obj}{m:Str→Option Value}{A:Around}{b:List Stmt}
 (T:vq K)(hK:∀a o,K.lookup a=some o→o.cls≠.type "list") (KX:K.In s₁.heap) (TR:TopRead p loose mg mb s₁.heap)
 (hs:env.scope=gD.scope) (hgl:env.globals=mainGlobals) (hbl:env.builtins=builtinsNs) (hc:env.cells=[(("numbers":Str),s₁.heap.objs.size+1+1),(("tree":Str),s₁.heap.objs.size+1)])
 (F:Fr s₁.heap env.locals h₁ m) (N:News s₁.heap env.locals h₁ [(s₁.heap.objs.size+1+1,w1),(s₁.heap.objs.size+1,w2)]) (d1:w1.data=.cell none) (d2:w2.data=.cell none)
 (hm:m ("script":Str)=some (.ref l)) (hI:IntsAre vs ns) (hL:s₁.heap.get? l=some (listOf vs.toArray 0)) (hn:ns.length≤63) (hg:s₁.gens=#[]) (hA:cU 60 iw A) (hb:b=gD.body) {dr:Drawn}:
 wpAny (model prog w) A (execs b env) (fun fl s'=>fl=.ret (.bool true)∧(∀b o,s₁.heap.get? b=some o→s'.heap.get? b=some o)∧s'.os=s₁.os∧s'.gens=#[]) aY ⟨h₁,s₁.gens,dr,tk,s₁.os⟩:=by
 subst hb;let c:Cx:=⟨K,PP,rC prog w,p,loose,mg,mb,s₁.os⟩;have TK:KP c:=HJ (c:=c) rfl rfl T;let f:Fm:=⟨hideAll s₁.heap [l],env⟩;have Z:=vR (TK.fns 82 gD v7).sc
 have kind:∀x,env.kindOf x=gD.scope.names.lookup x:=fun x=>by
  show env.scope.names.lookup x=_;exact aa hs rfl
 have O:bW c f gD.scope:=⟨DO KX hL hK,Ay TR hL,hgl,hbl,by show env.scope.kind=_;refine aa hs ?_;exact Z.kind,fun x=>by
  refine aa (show f.env.kindOf x=gD.scope.names.lookup x from kind x) ?_;cases hq:gD.scope.names.lookup x with
  |none=>rfl
  |some k=>
   rcases Z.kinds _ (aR hq)with e|e|e<;>(have e:k=_:=e;refine aa e ?_;rfl),fun x k hx=>Z.debug _ (aR hx),fun x y a hx hy=>by
  refine lM (l:=env.cells) ?_ (aR hx) (aR hy);refine aa hc ?_;exact OC.mpr ⟨fun q hq=>by refine aa (NX.mp hq) ?_;exact Nat.succ_ne_self _,OC.mpr ⟨fun _ h=>(nomatch h),List.Pairwise.nil⟩⟩⟩
 have cellK:∀x,gD.scope.names.lookup x=some .cell→x=("numbers":Str)∨x=("tree":Str):=fun x hx=>by
  have h2:(gD.scope.names.filter fun p=>p.2==.cell)=[(("tree":Str),.cell),(("numbers":Str),.cell)]:=by kernel_rfl
  have h3:(x,NameKind.cell)∈gD.scope.names.filter fun p=>p.2==.cell:=List.mem_filter.mpr ⟨(aR hx),by rfl⟩;rw[h2]at h3;rcases Nv.mp h3 with e|e
  ·revert e;refine du fun e q1=>?_;refine aa e ?_;cases q1;exact .inr rfl
  ·cases NX.mp e;exact .inl rfl
 have C:=CH (c:=c) (f:=f) (s:=⟨h₁,s₁.gens,dr,tk,s₁.os⟩) (m:=m) (h₁:=s₁.heap) (l:=l) (a1:=s₁.heap.objs.size+1+1) (a2:=s₁.heap.objs.size+1) (o1:=w1) (o2:=w2) (vs:=vs) (ns:=ns) rfl hL hI F N (Nat.succ_ne_self _) d1 d2
  (fun x hx=>by
   rcases cellK x ((kind x).symm.trans hx)with rfl|rfl
   ·left;show env.cells.lookup _=_;refine aa hc ?_;rfl
   ·right;show env.cells.lookup _=_;refine aa hc ?_;rfl) hg rfl ((kind _).trans (by kernel_rfl)) hm
 refine sk (BH hn) fun lo H' hx=>?_;refine wpAny_mono (iy (vb TK.toeO (k_ TK 60) iw) O hA hx C) (fun fl s' P=>?_) fun _ _ e=>e;obtain⟨m',W',C',l',v,e,r⟩:=P;cases r;refine⟨e,fun a o ha=>?_,C'.os,C'.gens⟩;by_cases hal:a=l
 ·subst hal;have hz:=l'.z (a,listOf vs.toArray 0) rfl;have:=(C'.N _ (Wd.bP hz)).1;rw[hL]at ha;revert ha;refine aJ fun ha=>?_;subst ha;exact this
 ·exact C'.F.keep a o (hideAll_get [l] ha fun h=>hal (NX.mp h))
end Hx
namespace Hx
open PySem PySem.W PyProof.Rows PySem.Calls
noncomputable def MJ(o:Obj):Bool:=match o.cls with
 |.type n=>!(n=="list")
 |_=>true
theorem Lj{K:Frag}(h:K.all (fun p=>MJ p.2)=true):∀a o,K.lookup a=some o→o.cls≠.type "list":=fun a o e hc=>by
 have:=N5.mp h _ (aR e);unfold MJ at this;dsimp only at this;rw[hc]at this;exact nomatch this
theorem Lq{P:Params}{h:Heap}{l:Addr}{xs:List PyData}{vs:List Value}(hL:h.IsList l vs.toArray)(hw:Well P h (.ref l) (ofPy (.list xs))):h.get? l=some (W.listOf vs.toArray 0):=by
 rw[ofPy]at hw;obtain⟨o,e,hc,n,hd⟩:=hL;cases hw with
 |list e2 _=>
  rw[e]at e2;cases e2;cases hd;exact e
theorem Jm{c:ClaimW}{cl:Str→Option Addr}{mean:ExcName→Option Value}{args:List WData}{s₁ s':Shared}(hr:∀cls,c.raises args cls=false) (hp:c.post args (.bool true) args=true)
 (hk:∀b o,s₁.heap.get? b=some o→s'.heap.get? b=some o) (ho:s'.os=s₁.os) (hg:s'.gens=#[]):GoodW c cl mean args s₁ (.ok (.ret (.bool true))) s':=
 ⟨.inl ⟨_,_,[],rfl,hr,ReadsW.bool true,hp,fun _=>⟨List.nodup_nil,fun _ hm=>(nomatch hm)⟩⟩,hk,ho,hg⟩
end Hx
namespace Hx.all
def tw1462508566802482054:=Nat
def tw12424521524305203681:=Nat
def tw11042391337927882101:=Nat
def tw7765929047992226915:=Nat
def tw8040035291081494847:=Nat
def tw3965329799447953764:=Nat
def tw9431226409774497616:=Nat
def tw18143630282636016013:=Nat
def tw5854263077570618803:=Nat
def tw6331164211382614391:=Nat
def tw16427770669611072655:=Nat
def tw8610021468735977691:=Nat
def tw7990663130413796223:=Nat
def tw10804180579724235336:=Nat
def tw14555257342406587960:=Nat
def tw15280152992955120501:=Nat
def tw2294727678290214524:=Nat
def tw16899115634382622692:=Nat
def tw17111030617569095539:=Nat
def tw1138902384575784339:=Nat
def tw10599888534549720763:=Nat
def tw10720613662274654343:=Nat
def tw15769888758688358598:=Nat
def tw17738831936292264048:=Nat
def tw13126132083003781282:=Nat
def tw15617588817491710297:=Nat
def tw4859352710194621403:=Nat
def tw14064931232762767194:=Nat
def tw14535201198423423245:=Nat
def tw2669970941256108472:=Nat
def tw12538406294531679116:=Nat
def tw1768095037862248588:=Nat
def tw5053527879211967153:=Nat
def tw18126643057041443244:=Nat
def tw3009169943573464055:=Nat
def tw5600231089910380142:=Nat
def tw16969085661881727784:=Nat
def tw9645226728033680255:=Nat
def tw10199300741376574228:=Nat
def tw6993732089682898603:=Nat
def tw9022569791475377677:=Nat
def tw948135388735345612:=Nat
def tw5791860529251694099:=Nat
def tw1509101223103949596:=Nat
def tw7042213742256739536:=Nat
def tw6266359223452106965:=Nat
def tw15826098469239883144:=Nat
def tw3187635876455688923:=Nat
def tw16482333124108155426:=Nat
def tw42879336313372375:=Nat
def tw6207499936443460721:=Nat
def tw505077175340099357:=Nat
def tw1029008657005340275:=Nat
def tw17155739310554955421:=Nat
def tw8515747503635581790:=Nat
def tw14453075324221591067:=Nat
def tw13726985055980787339:=Nat
def tw11000543584396443919:=Nat
def tw14218712706284764393:=Nat
def tw2422449907245907512:=Nat
def tw3581944916821389260:=Nat
def tw17130419090618776825:=Nat
def tw10501912301260066823:=Nat
def tw10264665507764352698:=Nat
def tw4552234154447775757:=Nat
def tw17589130973788837480:=Nat
def tw6522254190155138584:=Nat
def tw5810796760660305991:=Nat
def tw14114748594922981131:=Nat
def tw2854057217217949713:=Nat
def tw17202181010352317813:=Nat
def tw13728840830438014326:=Nat
def tw4479109059319868163:=Nat
def tw17615201281617625150:=Nat
def tw8673383858179855899:=Nat
def tw379589150774708079:=Nat
def tw12591414604337562657:=Nat
def tw6127486618029278907:=Nat
def tw3962925030898865489:=Nat
def tw10616890168576410041:=Nat
def tw18123300477234513327:=Nat
def tw7241843298713551896:=Nat
def tw11205410585829261739:=Nat
def tw34891234670216017:=Nat
def tw12595123981212302365:=Nat
def tw3601458466410067874:=Nat
def tw14712177966386183400:=Nat
def tw4346844764216288186:=Nat
def tw16098060229949432639:=Nat
def tw16716981365261439130:=Nat
def tw1460456344545170055:=Nat
def tw16502077317319015553:=Nat
def tw9042644927554630972:=Nat
def tw11943914517279062325:=Nat
def tw14198358346652093269:=Nat
def tw17607550040269938748:=Nat
def tw7192909961159666916:=Nat
def tw3106018184210138744:=Nat
def tw6041351625254064367:=Nat
def tw6440253982244648172:=Nat
def tw15807364552282534128:=Nat
def tw13243872996815119544:=Nat
def tw9986499710692494751:=Nat
def tw601304407284534180:=Nat
def tw2226266159315032358:=Nat
def tw8776145766175508382:=Nat
def tw9434883637038962147:=Nat
def tw9574819240913694659:=Nat
def tw7681713544818187545:=Nat
def tw13887431430357193761:=Nat
def tw9484541034772505969:=Nat
def tw3472494202718565112:=Nat
def tw3202228780257731168:=Nat
def tw3316073966518890003:=Nat
def tw4914792122260238564:=Nat
def tw4532259325493153769:=Nat
def tw1888892464500731429:=Nat
def tw8966172255159026100:=Nat
def tw13530358854795466617:=Nat
def tw13922166320486232731:=Nat
def tw11139654651971304495:=Nat
def tw7833025308239076437:=Nat
def tw2429705837973067769:=Nat
def tw18382380215474135946:=Nat
def tw16801587183015353886:=Nat
def tw5781403434424531891:=Nat
def tw9793460818074970079:=Nat
def tw12440899958830490693:=Nat
def tw10857367075653227856:=Nat
def tw12867086616170283929:=Nat
def tw10027684500038293280:=Nat
def tw2867459095569797354:=Nat
def tw12285894725313246851:=Nat
def tw6399042094000315441:=Nat
def tw14377492056797752833:=Nat
def tw11948238698791719390:=Nat
def tw16688994300108410347:=Nat
def tw13863934256157909564:=Nat
def tw16291504400292373369:=Nat
def tw14969934289783335500:=Nat
def tw8712427289502372945:=Nat
def tw18001402688338804076:=Nat
def tw9671133308690199690:=Nat
def tw6205399052569878504:=Nat
def tw13194867020875832545:=Nat
def tw15189142942576952283:=Nat
def tw12561858027320812633:=Nat
def tw1046518925290544526:=Nat
def tw4436064879252414753:=Nat
def tw14767213895857889700:=Nat
def tw7590031907366815520:=Nat
def tw15439289716531105000:=Nat
def tw17857005524240368567:=Nat
def tw18138344715743669549:=Nat
def tw11339706932916606776:=Nat
def tw6704260599780621452:=Nat
def tw14220332448206796942:=Nat
def tw14207575659400890419:=Nat
def tw986476918763118731:=Nat
def tw17583436357861036661:=Nat
def tw17305030607032761320:=Nat
def tw12737141471945918569:=Nat
def tw12849063043353598492:=Nat
def tw5741258641469037230:=Nat
def tw18021020648049580521:=Nat
def tw7464334236037250684:=Nat
def tw3090275535445690893:=Nat
def tw6853275667986597471:=Nat
def tw10915807531496936469:=Nat
def tw15785707197440715953:=Nat
def tw10220080242128821920:=Nat
def tw13786508297432584962:=Nat
def tw10463365685109809028:=Nat
def tw483027308439082928:=Nat
def tw3265662375351070641:=Nat
def tw632253363392666340:=Nat
def tw7472023752782734063:=Nat
def tw1193556983172468938:=Nat
def tw17846437847566662983:=Nat
def tw8997646514277863175:=Nat
def tw7655423992787921126:=Nat
def tw11076455992627732339:=Nat
def tw9706528655438059291:=Nat
def tw8088640224768673748:=Nat
def tw649708791861307730:=Nat
def tw5443180702976882663:=Nat
def tw15442233693008962515:=Nat
def tw16820867984919718777:=Nat
def tw16608882450133738774:=Nat
def tw8450019362171010334:=Nat
def tw4807462425887082314:=Nat
def tw2363740542658813988:=Nat
def tw6209765501141276718:=Nat
def tw6644001427558170232:=Nat
def tw2857604032393329932:=Nat
def tw8353798798757914246:=Nat
def tw7198432723083245811:=Nat
def tw17926339786368321008:=Nat
def tw5244373331146035763:=Nat
def tw16768804661824089263:=Nat
def tw16454155149816879913:=Nat
def tw17127293112504658778:=Nat
def tw418427077323229840:=Nat
def tw4252207054775184713:=Nat
def tw10705173505274161644:=Nat
def tw6472613512635597938:=Nat
def tw3312545416194898976:=Nat
def tw1456552821374372076:=Nat
def tw14131577449102483820:=Nat
def tw12197712711165955258:=Nat
def tw2583903036214146349:=Nat
def tw9645054272350849343:=Nat
def tw16171234678932690633:=Nat
def tw14967511882880733991:=Nat
def tw6091527054642994912:=Nat
def tw12134945725534337819:=Nat
def tw5558322486769982261:=Nat
def tw2077762199742471604:=Nat
def tw5780992599062963088:=Nat
def tw10765450666286403215:=Nat
def tw4021508516760814918:=Nat
def tw1117267958022419310:=Nat
def tw3712302619604398905:=Nat
def tw5279952529809248898:=Nat
def tw12751324504691465056:=Nat
def tw9171237999368626753:=Nat
def tw8843948132717320605:=Nat
def tw14216999573466737064:=Nat
def tw1838648175239865519:=Nat
def tw18316042886595042157:=Nat
def tw10153230847207349845:=Nat
def tw10614261628923749393:=Nat
def tw1138856334217862841:=Nat
def tw15933087040266825431:=Nat
def tw12462076548238025767:=Nat
def tw16970478208445171143:=Nat
def tw1413075784919134055:=Nat
def tw7518373331478534706:=Nat
def tw11475653432239452901:=Nat
def tw9575740851796781065:=Nat
def tw10522437012658893141:=Nat
def tw2930123744707416454:=Nat
def tw17783854096651061653:=Nat
def tw7634465003391746676:=Nat
def tw3701967875209723898:=Nat
def tw16474976854048946684:=Nat
def tw12698016922755729520:=Nat
def tw8886046886498408492:=Nat
def tw1647625453535141170:=Nat
def tw15286572231694592634:=Nat
def tw6544063209843269384:=Nat
def tw2714921332939263363:=Nat
def tw1805087703961355301:=Nat
def tw12508746716185443012:=Nat
def tw16003795989481958782:=Nat
def tw17613711315968116923:=Nat
def tw14619117307936275351:=Nat
def tw13805036546912227594:=Nat
def tw5748397504751935443:=Nat
def tw9772488045789426738:=Nat
def tw2739644914922543347:=Nat
def tw12927101438092757585:=Nat
def tw7903534107873475028:=Nat
def tw9857467021122367971:=Nat
def tw9250993657203240297:=Nat
def tw16479007297146488952:=Nat
def tw3988230117077845299:=Nat
def tw16057485698722969604:=Nat
def tw9926392674712967795:=Nat
def tw602300230285158425:=Nat
def tw748982582046623460:=Nat
def tw9135355314444354131:=Nat
def tw14400295955894844582:=Nat
def tw976937576697516924:=Nat
def tw9939465771277087417:=Nat
def tw431180497507855191:=Nat
def tw5880272576887077187:=Nat
def tw6451913354653790160:=Nat
def tw3393276286465678280:=Nat
def tw12591186252994456809:=Nat
def tw8686678783919690249:=Nat
def tw8596637343042099087:=Nat
def tw7081525039605218318:=Nat
def tw260702298866571071:=Nat
def tw5577263225442014042:=Nat
def tw1958644638846287651:=Nat
def tw13804091051757826423:=Nat
def tw16680341059500386957:=Nat
def tw8068650041555186051:=Nat
def tw6044990942119674875:=Nat
def tw14093347858071408994:=Nat
def tw4996016950833432567:=Nat
def tw12276349028223573565:=Nat
def tw17541589843260365563:=Nat
def tw15896685836861715413:=Nat
def tw17198814873980159138:=Nat
def tw13000279824812091080:=Nat
def tw11752339450071090062:=Nat
def tw13363441538947436972:=Nat
def tw5578693362795022373:=Nat
def tw18374646734576086871:=Nat
def tw16460065702022011497:=Nat
def tw15042792085709208845:=Nat
def tw13646692853427632943:=Nat
def tw7225169695679712486:=Nat
def tw18318150278749246906:=Nat
def tw17222773768564804840:=Nat
def tw8575272536856046167:=Nat
def tw13012266289724439780:=Nat
def tw6205518100620567531:=Nat
def tw13814789279914424365:=Nat
def tw7550207977248916731:=Nat
def tw14267942488910550935:=Nat
def tw15186971610089515843:=Nat
def tw9537670432763388861:=Nat
def tw4927317551332365033:=Nat
def tw780564231038986407:=Nat
def tw12365564663198351503:=Nat
def tw7017531461628764838:=Nat
def tw17045231602319072662:=Nat
def tw14491150322487043355:=Nat
def tw12547916664853603095:=Nat
def tw5933716584997746222:=Nat
def tw3413319870344549214:=Nat
def tw14114671328729615712:=Nat
def tw1398334198133507302:=Nat
def tw6498589336877357814:=Nat
def tw11181323135069382640:=Nat
def tw15666910457781422420:=Nat
def tw14454899404850349082:=Nat
def tw11579609373235381407:=Nat
def tw1454839927751443386:=Nat
def tw15855600687795071726:=Nat
def tw57300283748172487:=Nat
def tw531324612152904690:=Nat
def tw1111615090490862177:=Nat
def tw5462757890444898165:=Nat
def tw5295482810219068784:=Nat
def tw10034165346484361769:=Nat
def tw7543646769156789224:=Nat
def tw8946827797277263836:=Nat
def tw1095625715232154712:=Nat
def tw16975693967306923783:=Nat
def tw153196334084954612:=Nat
def tw149288282474121433:=Nat
def tw4522404595916145719:=Nat
def tw11134039113025575355:=Nat
def tw5156140300334220280:=Nat
def tw971735516511730393:=Nat
def tw4318929841160972311:=Nat
def tw4090043079634206209:=Nat
def tw8657616701187073155:=Nat
def tw6710632260978091654:=Nat
def tw14495672596397643562:=Nat
def tw15502114725401840049:=Nat
def tw1260578824778259386:=Nat
def tw7631441389645041078:=Nat
def tw4239572719651232690:=Nat
def tw2543668016552395487:=Nat
def tw6156109522224290811:=Nat
def tw14837490147714955857:=Nat
def tw9085042736373776453:=Nat
def tw18297346747007010510:=Nat
def tw16160498784651764695:=Nat
def tw7702890355479300073:=Nat
def tw8648651679073831749:=Nat
def tw11215928756535484437:=Nat
def tw17861654513819452127:=Nat
def tw5846849078072551879:=Nat
def tw9422683198670999691:=Nat
def tw4706609540585591397:=Nat
def tw17987606824265650031:=Nat
def tw12599743299603075169:=Nat
def tw1741081832272340025:=Nat
def tw7603415132690594264:=Nat
def tw12692210469558513157:=Nat
def tw15912314941519795812:=Nat
def tw18268607286520652308:=Nat
def tw239457557098066257:=Nat
def tw479500247779581918:=Nat
def tw29044128084466803:=Nat
def tw13043344554041935961:=Nat
def tw6141061096685233906:=Nat
def tw3994564096652942713:=Nat
def tw7568241476935837497:=Nat
def tw13499206840022689655:=Nat
def tw17889265660050164677:=Nat
def tw10524045261194106835:=Nat
def tw17654730790910537362:=Nat
def tw14071670384561702715:=Nat
def tw1629383960503993183:=Nat
def tw3151485304054780776:=Nat
def tw14838948521475612127:=Nat
def tw8538495629675372927:=Nat
def tw18040158055951936968:=Nat
def tw6000617917497135329:=Nat
def tw15101671263444854816:=Nat
def tw3841300620348937685:=Nat
def tw6053309249698402884:=Nat
def tw3503261815587602869:=Nat
def tw17786103536952247638:=Nat
def tw11945831480912719317:=Nat
def tw12751932075076361424:=Nat
def tw11040310477813508749:=Nat
def tw10558890657505068587:=Nat
def tw3461396937540237985:=Nat
def tw2194631937751880217:=Nat
def tw10130064607473972215:=Nat
def tw11234566031599055558:=Nat
def tw4392207834880865131:=Nat
def tw1575978149544896983:=Nat
def tw3109528448255117290:=Nat
def tw2375423669663443526:=Nat
def tw2261376035033974884:=Nat
def tw7243767320449765982:=Nat
def tw10203830415509897705:=Nat
def tw10897193235388887133:=Nat
def tw12661825094431323340:=Nat
def tw6941563691302634052:=Nat
def tw286937786884231076:=Nat
def tw2608418308186051478:=Nat
def tw2108503653722634273:=Nat
def tw17566192851143616478:=Nat
def tw10705542326279072356:=Nat
def tw15835865975451113394:=Nat
def tw2726766937482382670:=Nat
def tw15111077298251329971:=Nat
def tw13775038057766845641:=Nat
def tw16714663106076659379:=Nat
def tw2417460265548654414:=Nat
def tw7349333597386554200:=Nat
def tw10733311278370198981:=Nat
def tw13419524376808063320:=Nat
def tw79702722620788479:=Nat
def tw12270451835736834274:=Nat
def tw7816403700547812231:=Nat
def tw17591578866056717924:=Nat
def tw12788860962535456331:=Nat
def tw16272156797768237930:=Nat
def tw7859131199680492238:=Nat
def tw1292804247446820909:=Nat
def tw4235262125301480433:=Nat
def tw5793974014803761251:=Nat
def tw5282615969975596861:=Nat
def tw11485084117164112531:=Nat
def tw9435805336160378501:=Nat
def tw13329356456361798660:=Nat
def tw5994926662767014697:=Nat
def tw853688017130635957:=Nat
def tw15583352297224163494:=Nat
def tw4836613378439719188:=Nat
def tw13282745639947402984:=Nat
def tw8343291209875881112:=Nat
def tw5319818287182167656:=Nat
def tw16959254439138003149:=Nat
def tw11313643727194674714:=Nat
def tw13886910500279595908:=Nat
def tw7226278893160338505:=Nat
def tw13493235122107118241:=Nat
def tw4316468172903327228:=Nat
def tw16714409190734030672:=Nat
def tw12188095937629477268:=Nat
def tw4162232506333363427:=Nat
def tw16240576144266322788:=Nat
def tw5170845779516613089:=Nat
def tw17663783628035491503:=Nat
def tw1889599543758405109:=Nat
def tw11680495286974397272:=Nat
def tw4007350052106518570:=Nat
def tw1901624570319015047:=Nat
def tw379750325827437055:=Nat
def tw6815341047376621186:=Nat
def tw6992738298492205899:=Nat
def tw1629252428566621302:=Nat
def tw12392232117899362027:=Nat
def tw10128715429245937558:=Nat
def tw275309685511553084:=Nat
def tw9580922726819527892:=Nat
def tw13949202687973371524:=Nat
def tw531723344465579989:=Nat
def tw841539470147388767:=Nat
def tw9366544125940008898:=Nat
def tw5884733825679400979:=Nat
def tw7843632605557809549:=Nat
def tw15131273977290643565:=Nat
def tw1269331543100574104:=Nat
def tw15217045621245950959:=Nat
def tw2679003929687922949:=Nat
def tw7056425926775117477:=Nat
def tw5757018434759273515:=Nat
def tw10912846684673663270:=Nat
def tw12780103176076180365:=Nat
def tw13144697345662774394:=Nat
def tw14559108728575698715:=Nat
def tw11630790840840606485:=Nat
def tw8687327849344169028:=Nat
def tw9475523780880590769:=Nat
def tw18410983433251608706:=Nat
def tw10303712544040793577:=Nat
def tw16241194918060844413:=Nat
def tw11557170370491125197:=Nat
def tw5519533344684676086:=Nat
def tw2606680504772121564:=Nat
def tw17008709401559198182:=Nat
def tw2895446919512304811:=Nat
def tw15978518735548644055:=Nat
def tw2539741321274627763:=Nat
def tw13334736557784792645:=Nat
def tw11792406705225949384:=Nat
def tw2336613118855866633:=Nat
def tw16748747043625728655:=Nat
def tw17094988205553577786:=Nat
def tw6036076342292851905:=Nat
def tw3256645842640453875:=Nat
def tw11601061582299255688:=Nat
def tw7266153810919891566:=Nat
def tw13755892987623145643:=Nat
def tw10720398136975608512:=Nat
def tw7026728967037718918:=Nat
def tw16452450849431283463:=Nat
def tw5190611704184671742:=Nat
def tw124582315926822570:=Nat
def tw16943873752971198967:=Nat
def tw16911689921508370417:=Nat
def tw2195532595137450932:=Nat
def tw14338539273114711319:=Nat
def tw3807406102538132033:=Nat
def tw13472359514531202940:=Nat
def tw2131223547696445178:=Nat
def tw3768426272355486148:=Nat
def tw1157094218856441726:=Nat
def tw10202638747487273234:=Nat
def tw14057695141648286482:=Nat
def tw12034009815254202245:=Nat
def tw10557308231952863013:=Nat
def tw13215775626130111622:=Nat
def tw7894101017700328913:=Nat
def tw6108532794258088096:=Nat
def tw16976311059476429832:=Nat
def tw14014411348262765289:=Nat
def tw9745131854997993482:=Nat
def tw2588764206851315893:=Nat
def tw10964974409788435907:=Nat
def tw3141356315484592863:=Nat
def tw11328147573585605491:=Nat
def tw2240163468580514922:=Nat
def tw4362348676738365469:=Nat
def tw7554484670616095392:=Nat
def tw1442640406654072576:=Nat
def tw14611252378589162698:=Nat
def tw5134785241206052377:=Nat
def tw16039883066986622156:=Nat
def tw1084000195914270533:=Nat
def tw10622809081246435629:=Nat
def tw12688272755556571639:=Nat
def tw11702104366754607748:=Nat
def tw10888037886886805841:=Nat
def tw11917303899746178976:=Nat
def tw18296854990251498796:=Nat
def tw1356790738522827010:=Nat
def tw8190735153682461745:=Nat
def tw15048447314015696148:=Nat
def tw7662143425433661380:=Nat
def tw535762203452438965:=Nat
def tw4813889238673968978:=Nat
def tw11651795823056987776:=Nat
def tw14487779842099216631:=Nat
def tw10110465170046387720:=Nat
def tw12751964490960724918:=Nat
def tw17154913585550223012:=Nat
def tw16004180321677473517:=Nat
def tw6638852045408772795:=Nat
def tw16800438984489634121:=Nat
def tw5961473875166589717:=Nat
def tw10265218044287752098:=Nat
def tw7184086999377624420:=Nat
def tw7464664149676434015:=Nat
def tw6766079247624139051:=Nat
def tw8525101448486773851:=Nat
def tw6280057707873610242:=Nat
def tw13171128705392676659:=Nat
def tw10939151472032617019:=Nat
def tw8895034310931576038:=Nat
def tw17307493131065663280:=Nat
def tw17690827517130615362:=Nat
def tw17683430557217241706:=Nat
def tw3776218738585428413:=Nat
def tw17982807464481547204:=Nat
def tw14589798539194707247:=Nat
def tw637572727160287185:=Nat
def tw8185928694804556054:=Nat
def tw10987647187524938006:=Nat
def tw17425854145620038417:=Nat
def tw17984522297016013300:=Nat
def tw15897513900165811267:=Nat
def tw12704800171268358749:=Nat
def tw8898882271863801223:=Nat
def tw8109491844291525198:=Nat
def tw8382848284362036663:=Nat
def tw6203761513089163198:=Nat
def tw2696379400909278668:=Nat
def tw16369758113455047601:=Nat
def tw7626712585691384132:=Nat
def tw1738671229418395870:=Nat
def tw4008723371339385894:=Nat
def tw13829609276407886658:=Nat
def tw12445164351722120125:=Nat
def tw10477704826273716049:=Nat
def tw5669247222222966844:=Nat
def tw8057428565168438873:=Nat
def tw479015404456295465:=Nat
def tw6892777071935289946:=Nat
def tw2308855330011588943:=Nat
def tw13803556647402690802:=Nat
def tw10378633206864708264:=Nat
def tw15083351782848868872:=Nat
def tw8676744871572967617:=Nat
def tw11272973624719686648:=Nat
def tw12556642365467021122:=Nat
def tw5883417149703686275:=Nat
def tw4382319918944450956:=Nat
def tw4765409809793856221:=Nat
def tw12647553823227319196:=Nat
def tw17309137862610984011:=Nat
def tw915761383532622626:=Nat
def tw7719777924790456916:=Nat
def tw3514698198446085326:=Nat
def tw10631288846177350122:=Nat
def tw15168551867543357122:=Nat
def tw5676214151735229806:=Nat
def tw13535148498146546810:=Nat
def tw4833677594363991524:=Nat
def tw1870155538800010838:=Nat
def tw730647736710048030:=Nat
def tw2493490625848509472:=Nat
def tw11596454213132915552:=Nat
def tw9753419316086895609:=Nat
def tw10564096910817709201:=Nat
def tw13262209146704159048:=Nat
def tw8450869119091539328:=Nat
def tw14381860147751570739:=Nat
def tw5108498360056191099:=Nat
def tw7851113962582820069:=Nat
def tw17602687379009787396:=Nat
def tw8476318676610715534:=Nat
def tw16313845640529691301:=Nat
def tw127945423520871139:=Nat
def tw17994691515566895060:=Nat
def tw5639527896113219705:=Nat
def tw16567211858834494726:=Nat
def tw6123264438503331494:=Nat
def tw16173644907088123778:=Nat
def tw7027900035836647369:=Nat
def tw17057865372472246921:=Nat
def tw16318037285169213637:=Nat
def tw17365667445743872286:=Nat
def tw14789978661399565645:=Nat
def tw5624428160131894760:=Nat
def tw9795093909896610091:=Nat
def tw16908190423506688223:=Nat
def tw15872815275755519813:=Nat
def tw12056462263634069063:=Nat
def tw6145500999584073834:=Nat
def tw5057146762749550048:=Nat
def tw3767015828935820534:=Nat
def tw13095623686095726210:=Nat
def tw12416876051931095559:=Nat
def tw17927099281285478393:=Nat
def tw12880881215629185590:=Nat
def tw10519105487112409853:=Nat
def tw12515215055629144324:=Nat
def tw6026424698644826007:=Nat
def tw15010420140856971741:=Nat
def tw11909623144551556577:=Nat
def tw779866428514022964:=Nat
def tw12817580707540634283:=Nat
def tw16683240093171844904:=Nat
def tw10094546444985028656:=Nat
def tw10917266327452264569:=Nat
def tw2310360623342612507:=Nat
def tw16880044537707134557:=Nat
def tw14284431968562891690:=Nat
def tw12944737295867583598:=Nat
def tw7243933859719191504:=Nat
def tw12741251395639639673:=Nat
def tw13567191509586962700:=Nat
def tw16754088898022941426:=Nat
def tw15485974479595502076:=Nat
def tw10500415073270889801:=Nat
def tw5066028147712297328:=Nat
def tw894887622484982715:=Nat
def tw12987210406289580997:=Nat
def tw15959621020286329035:=Nat
def tw13637973966713871440:=Nat
def tw18225338826893739413:=Nat
def tw15935948616904057901:=Nat
def tw16964149477900353284:=Nat
def tw7077372251732576663:=Nat
def tw12826582508151084072:=Nat
def tw363269197429502795:=Nat
def tw2777972695657746364:=Nat
def tw8233395239606474419:=Nat
def tw2187145771603037647:=Nat
def tw5390448642585885433:=Nat
def tw9068267749329153153:=Nat
def tw9875472703127291638:=Nat
def tw2750549432252552778:=Nat
def tw7535698427148070769:=Nat
def tw3430486716326814182:=Nat
def tw10477805619638344662:=Nat
def tw12005757214453787597:=Nat
def tw15314574417159756863:=Nat
def tw8803763641387428616:=Nat
def tw3900028609319107729:=Nat
def tw13381274235720730495:=Nat
def tw1007173753171140184:=Nat
def tw16246486778742999758:=Nat
def tw15195654187518081891:=Nat
def tw4403570722221009421:=Nat
def tw12251815447542009884:=Nat
def tw10478118167498399663:=Nat
def tw9235037258578838906:=Nat
def tw14478446883060211249:=Nat
def tw4131746125213193932:=Nat
def tw25907878106645636:=Nat
def tw1101496592728910523:=Nat
def tw11611266691982815136:=Nat
def tw3041290345563952720:=Nat
def tw3257296739605700993:=Nat
def tw16420922221025862256:=Nat
def tw15813018474768632048:=Nat
def tw599663193133154225:=Nat
def tw12695571525954060874:=Nat
def tw381536109240312796:=Nat
def tw7461006205412457532:=Nat
def tw6071095744067195276:=Nat
def tw18183733575866475227:=Nat
def tw8961374027012570639:=Nat
def tw6155360753797233933:=Nat
def tw14151908815845833349:=Nat
def tw16288001466601664303:=Nat
def tw15080053755751613364:=Nat
def tw7397516019818855083:=Nat
def tw3458774244963184801:=Nat
def tw544568360246482667:=Nat
def tw9726097782529484640:=Nat
def tw2057676324524799364:=Nat
def tw14317436542958206985:=Nat
def tw7319652741684214891:=Nat
def tw17453182363399997650:=Nat
def tw15590796949681896284:=Nat
def tw5623454599431592209:=Nat
def tw2416744422197868321:=Nat
def tw17978686879549605351:=Nat
def tw3394996566016075860:=Nat
def tw321562557683123337:=Nat
def tw196577292117339479:=Nat
def tw3178661425585548591:=Nat
def tw5376106478942367590:=Nat
def tw8687182595411008854:=Nat
def tw7073031563197435836:=Nat
def tw234569788719200086:=Nat
def tw14696107265194601017:=Nat
def tw8303769795517994613:=Nat
def tw17268805280257369338:=Nat
def tw749558617098350013:=Nat
def tw17571396016798413865:=Nat
def tw13279133624572239244:=Nat
def tw3919261660907561941:=Nat
def tw4175112762584361645:=Nat
def tw13553669581021079785:=Nat
def tw11807479054731561972:=Nat
def tw14801933011264271661:=Nat
def tw9367888698978339726:=Nat
def tw1085713920326599756:=Nat
def tw17411790862544664974:=Nat
def tw1359607704344289211:=Nat
def tw7942255678824945332:=Nat
def tw10960989852036083546:=Nat
def tw2962431196697244913:=Nat
def tw7380535673480042755:=Nat
def tw15470984592789162058:=Nat
def tw6689254692306906791:=Nat
def tw14806970990176623183:=Nat
def tw15279829776143165003:=Nat
def tw14920905450051657134:=Nat
def tw730180245920655858:=Nat
def tw15068422838681014882:=Nat
def tw15515392267013511398:=Nat
def tw9394846672241225686:=Nat
def tw10882050949649077402:=Nat
def tw14029151206732505514:=Nat
def tw12051554463833532532:=Nat
def tw13142318559476816958:=Nat
def tw15750305508556031424:=Nat
def tw15667938381006574164:=Nat
def tw6162082766423876804:=Nat
def tw3956599459735993862:=Nat
def tw1402878282742409338:=Nat
def tw8565797538616136228:=Nat
def tw14319718792600188023:=Nat
def tw1468694034763299941:=Nat
def tw1716229490465787489:=Nat
def tw13168705330384464291:=Nat
def tw9606109311570733077:=Nat
def tw9737036872889287688:=Nat
def tw2018992310467187105:=Nat
def tw16534113273369591221:=Nat
def tw18321640537580195858:=Nat
def tw7147368964973287283:=Nat
def tw457493380222177796:=Nat
def tw8231244236447541901:=Nat
def tw129148421151690549:=Nat
def tw5360345414167445500:=Nat
def tw13669042177635934887:=Nat
def tw14000623080698225694:=Nat
def tw9235476012682184210:=Nat
def tw17053769814228062768:=Nat
def tw1775144534579237779:=Nat
def tw5199353956303206085:=Nat
def tw417081660382965593:=Nat
def tw2186107903291412859:=Nat
def tw15513076219732538399:=Nat
def tw11608702503125080832:=Nat
def tw10986303671277490700:=Nat
def tw498970825102042297:=Nat
def tw9996161707076819950:=Nat
def tw9744546551164401611:=Nat
def tw1774994260770598612:=Nat
def tw10870765498270261027:=Nat
def tw8563712087012961876:=Nat
def tw8169229702732805181:=Nat
def tw2391617036483291756:=Nat
def tw16652834234093763751:=Nat
def tw869383718408054558:=Nat
def tw12990030288918312874:=Nat
def tw18402646460861056148:=Nat
def tw788014722471556029:=Nat
def tw18289521365240376763:=Nat
def tw2566736144877031211:=Nat
def tw16217035585132628906:=Nat
def tw7693838769754138377:=Nat
def tw14607198020280143186:=Nat
def tw12889238501632878576:=Nat
def tw16662810596157113622:=Nat
def tw52764862940001316:=Nat
def tw10581884175472947516:=Nat
def tw12533921206454350461:=Nat
def tw5792098458942133080:=Nat
def tw9631451525691132122:=Nat
def tw16977790815184497138:=Nat
def tw10347036418535886462:=Nat
def tw5980070916204919803:=Nat
def tw15448771254831595185:=Nat
def tw2294408243182410193:=Nat
def tw12683022845232630437:=Nat
def tw4764828365155786412:=Nat
def tw10439509252544276064:=Nat
def tw16721819690662330717:=Nat
def tw16496069592984437906:=Nat
def tw13241716238792754171:=Nat
def tw6341156033799333432:=Nat
def tw13408288492402516588:=Nat
def tw9489537768675873547:=Nat
def tw883750537691752338:=Nat
def tw9028313585359525649:=Nat
def tw15085733629700068724:=Nat
def tw5614596517887466514:=Nat
def tw4337303694711352796:=Nat
def tw13206551208726905804:=Nat
def tw9649642379573527243:=Nat
def tw4005384861025534803:=Nat
def tw2282741374773754433:=Nat
def tw14973584224572823382:=Nat
def tw7938744965882113486:=Nat
def tw10273937633493731671:=Nat
def tw9993762614346054595:=Nat
def tw12579367912604212767:=Nat
def tw5281862456991174253:=Nat
def tw5910301809143258137:=Nat
def tw8889520127442824392:=Nat
def tw2962417304409358208:=Nat
def tw8764833698951628043:=Nat
def tw6488758092610634868:=Nat
def tw4862923773872798487:=Nat
def tw10675154209433347442:=Nat
def tw12092314985787609119:=Nat
def tw3967521671641057889:=Nat
def tw8624677731161524695:=Nat
def tw6300315256153280078:=Nat
def tw7132094541667739907:=Nat
def tw10638621778889466743:=Nat
def tw15038848643020831314:=Nat
def tw13197931627165776033:=Nat
def tw12552237931950496070:=Nat
def tw3945131616396165246:=Nat
def tw9304686515299958295:=Nat
def tw14051168501624467642:=Nat
def tw3672462720526800263:=Nat
def tw12860329333140227167:=Nat
def tw16240042995586701885:=Nat
def tw9411088844188934470:=Nat
def tw8431397933666528500:=Nat
def tw15874270638160821870:=Nat
def tw5421543055198808016:=Nat
def tw14623592432890242442:=Nat
def tw13886296527158393417:=Nat
def tw16527819057571710225:=Nat
def tw4248794262935162249:=Nat
def tw7680575548232004134:=Nat
def tw5681905890670768043:=Nat
def tw15616174631442669937:=Nat
def tw1810608388840861311:=Nat
def tw11626252931572260646:=Nat
def tw10899870000657437437:=Nat
def tw14070071666952055260:=Nat
def tw12570035514605128367:=Nat
def tw13638150446537681048:=Nat
def tw3387907594401373817:=Nat
def tw4293533078974961355:=Nat
def tw14201163150160960906:=Nat
def tw6826834940815279325:=Nat
def tw11585275500146268442:=Nat
def tw2249080771590666395:=Nat
def tw12530834697244692725:=Nat
def tw13953066543915001113:=Nat
def tw5563981350795508769:=Nat
def tw11734474501892751795:=Nat
def tw7907491978444325350:=Nat
end Hx.all
open PySem PySem.W PyProof.Rows PySem.Calls
set_option maxHeartbeats 0
set_option tactic.hygienic true
set_option Elab.async true in
theorem Hx.all : PySem.Challenge.rw_nz0106_01.Holds := by
  w_on
  o_law
  k_head
  case hw => w_witness2
  k_go0
  all_goals (
    refine wpAny_mono (Hx.Jr (l := ?l) ?hf (Hx.Lj ?hz) (by assumption) (topRead_of (by assumption)) (by kernel_rfl) rfl rfl rfl (by assumption) (by assumption) ?d1 ?d2 ?hm (by assumption) ?hL ?hn (by assumption) ⟨?a1, ?a2, ?a3⟩ (by kernel_rfl)) ?q1 ?q2
    case hm => exact rfl
    case d1 => exact Eq.trans (by assumption) (congrArg Data.cell (by kernel_rfl))
    case d2 => exact Eq.trans (by assumption) (congrArg Data.cell (by kernel_rfl))
    case hL => exact Hx.Lq (by assumption) (by assumption)
    case hn => omega
    case a1 => exact rfl
    case a2 => exact (by decide : 302 + 3 * 60 + 5 < 690)
    case a3 => exact (by decide : 7 + 150 * 60 + 3 * 40 + 120 < 9900)
    case hz => kernel_rfl
    case hf => exact ⟨by kernel_rfl, by kernel_rfl, by kernel_rfl, by kernel_rfl, by kernel_rfl, by kernel_rfl, by kernel_rfl⟩
    case q1 =>
      rintro fl s' ⟨e, hk, ho, hg⟩
      subst e
      exact Hx.Jm (fun _ => rfl) (by first | rfl | wrow_post) hk ho hg
    case q2 => exact fun _ _ h => h.elim)
theorem PySem.Challenge.cw_nz0106_01_holds : PySem.Challenge.rw_nz0106_01.Holds :=
  Hx.all
