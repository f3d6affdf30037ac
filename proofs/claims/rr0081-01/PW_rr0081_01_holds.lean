import PyProof.Rows.All
import Wide.All
import OpenK.AllK
import Wide.FinOn
import KE.KSortTup
import KE.KDictList
import PyProof.AttrMissHeap
import KE.KDictOf
import KE.KPop
import KE.KRevIter
import PyProof.CollectWalk
import PyProof.ListNew
import PyProof.SetScanFacts
import PyProof.Rows.SetFrom
import KE.KSetInts
import PyProof.ZipIter
import KE.KDictLaws
import PyProof.EnumMake
import PyProof.Draws
import Lean
import PySem.Challenge.RW_rr0081_01
set_option Elab.async false
set_option linter.unusedVariables false
set_option genSizeOf false
set_option bootstrap.genMatcherCode false
set_option compiler.extract_closed false
set_option maxRecDepth 100000
set_option maxHeartbeats 8000000
open Nat renaming add_lt_add_right→Z0p,add_right_comm→Z0q,eq_of_testBit_eq→Z0r,eq_zero_of_not_pos→Z0s,le_add_of_sub_le→Z0t,le_add_right→Z0u,le_antisymm→Z0v,le_of_ble_eq_true→Z0w,le_of_eq→Z0x,le_of_lt→Z0y,le_of_lt_succ→Z0z,le_of_not_lt→Z10,le_of_succ_le→Z11,le_refl→Z12,le_sub_one_of_lt→Z13,le_succ→Z14,le_succ_of_le→Z15,le_trans→Z16,lt_of_le_of_lt→Z17,lt_of_le_of_ne→Z18,lt_of_lt_of_eq→Z19,lt_of_lt_of_le→Z1a,lt_of_not_le→Z1b,lt_of_sub_eq_succ→Z1c,lt_or_eq_of_le→Z1d,lt_succ_of_le→Z1e,lt_succ_of_lt→Z1f,lt_succ_self→Z1g,lt_trans→Z1h,lt_trichotomy→Z1i,min_eq_left→Z1j,min_eq_right→Z1k,min_le_left→Z1l,mod_lt→Z1m,ne_of_gt→Z1n,ne_of_lt→Z1o,not_lt_of_le→Z1p,not_lt_zero→Z1q,or_lt_two_pow→Z1r,pow_le_pow_right→Z1s,strongRecOn→Z1t,sub_add_cancel→Z1u,sub_le→Z1v,sub_le_of_le_add→Z1w,sub_pos_of_lt→Z1x,sub_self→Z1y,succ_le_of_lt→Z1z,succ_le_succ→Z20,succ_pos→Z21,testBit_lt_two_pow→Z22,testBit_or→Z23,testBit_two_pow_sub_one→Z24,zero_le→Z25,zero_testBit→Z26
open List renaming all_eq_true→Z27,append_assoc→Z28,append_nil→Z29,concat_eq_append→Z2a,cons_append→Z2b,cons_ne_nil→Z2c,countP_cons→Z2d,countP_le_length→Z2e,countP_mono_left→Z2f,dropLast_concat_getLast→Z2g,dropLast_eq_take→Z2h,eq_nil_of_length_eq_zero→Z2i,eq_nil_or_concat→Z2j,exists_mem_of_ne_nil→Z2k,ext_getElem→Z2l,ext_getElem?→Z2m,filter_append→Z2n,filter_cons→Z2o,foldl_append→Z2p,foldl_cons→Z2q,getElem?_append_left→Z2r,getElem?_append_right→Z2s,getElem?_cons_succ→Z2t,getElem?_cons_zero→Z2u,getElem?_eq_getElem→Z2v,getElem?_eq_none→Z2w,getElem?_eq_none_iff→Z2x,getElem?_eq_some_iff→Z2y,getElem?_inj→Z2z,getElem?_map→Z30,getElem?_of_mem→Z31,getElem?_range→Z32,getElem?_take→Z33,getElem_map→Z34,getElem_mem→Z35,getElem_range→Z36,getElem_zip→Z37,getLast?_concat→Z38,getLast?_eq_getElem?→Z39,length→Z3a,length_append→Z3b,length_cons→Z3c,length_drop→Z3d,length_erase_of_mem→Z3e,length_filter_le→Z3f,length_map→Z3g,length_nil→Z3h,length_pos_of_mem→Z3i,length_range→Z3j,length_reverse→Z3k,length_singleton→Z3l,length_take→Z3m,length_take_le'→Z3n,lookup_cons→Z3o,map→Z3p,map_append→Z3q,map_congr_left→Z3r,map_cons→Z3s,map_map→Z3t,map_nil→Z3u,map_take→Z3v,mem_append→Z3w,mem_append_left→Z3x,mem_append_right→Z3y,mem_cons→Z3z,mem_cons_of_mem→Z40,mem_cons_self→Z41,mem_erase_of_ne→Z42,mem_iff_getElem→Z43,mem_map→Z44,mem_of_getElem?→Z45,mem_of_mem_drop→Z46,mem_of_mem_take→Z47,mem_range→Z48,mem_singleton→Z49,mergeSort_perm→Z4a,ne_nil_of_mem→Z4b,nil_append→Z4c,nodup_cons→Z4d,nodup_nil→Z4e,nodup_range→Z4f,not_mem_nil→Z4g,pairwise_append→Z4h,pairwise_map→Z4i,pairwise_mergeSort→Z4j,pairwise_singleton→Z4k,perm_append_singleton→Z4l,prefix_append→Z4m,prefix_rfl→Z4n,range→Z4o,replicate→Z4p,reverse_cons→Z4q,size_toArray→Z4r,take_add_one→Z4s,take_length→Z4t,take_of_length_le→Z4u,toArray→Z4v,zip_cons_cons→Z4w
open Option renaming elim→Z4x,elim_some→Z4y,map→Z4z,map_eq_some_iff→Z50,map_map→Z51,map_some→Z52,some_ne_none→Z53
open Option.some renaming inj→Z54
open Array renaming find?_toList→Z55,forIn_toList→Z56,getD_eq_getD_getElem?→Z57,getElem?_eq_getElem→Z58,getElem?_eq_none→Z59,getElem?_eq_some_iff→Z5a,getElem?_toList→Z5b,length_toList→Z5c,size_push→Z5d,toList_push→Z5e
open Classical renaming byContradiction→Z5f
open PySem.Heap renaming SameBut→Z5g,get?_push_of_some→Z5h,get?_push_size→Z5i,lt_size→Z5j
open PySem.Str renaming ofString→Z5k
open PySem renaming wpAny_bind→Z5l,wpAny_call_entry→Z5m,wpAny_holding→Z5n,wpAny_of_eq→Z5o,wpAny_pure→Z5p
open Bool renaming and_eq_true→Z5q,and_self→Z5r,false_eq_true→Z5s,false_ne_true→Z5t,not_eq_false'→Z5u,not_eq_true→Z5v,not_eq_true'→Z5w,or_eq_true→Z5x,true_and→Z5y,xor_false→Z5z,xor_true→Z60
open Int renaming add_assoc→Z61,add_comm→Z62,add_nonneg→Z63,add_zero→Z64,emod_lt_of_pos→Z65,emod_nonneg→Z66,le_natAbs→Z67,le_of_lt→Z68,le_of_sub_nonneg→Z69,le_refl→Z6a,lt_or_gt_of_ne→Z6b,lt_trans→Z6c,lt_trichotomy→Z6d,mul_add→Z6e,mul_zero→Z6f,natAbs_natCast→Z6g,natAbs_neg→Z6h,natAbs_of_nonneg→Z6i,natCast_nonneg→Z6j,ne_of_gt→Z6k,ne_of_lt→Z6l,negSucc→Z6m,neg_mul→Z6n,neg_neg→Z6o,not_ofNat_neg→Z6p,ofNat_natAbs_of_nonpos→Z6q,one_mul→Z6r,sub_nonneg_of_le→Z6s,sub_pos_of_lt→Z6t,toNat→Z6u,toNat_natCast→Z6v,toNat_of_nonneg→Z6w,zero_add→Z6x
open Prod renaming ext→Z6y
open PySem PySem.W PyProof.Rows
namespace Lay
theorem nB{n m:Nat}(h:Nat.ble n m=true):n<=m:=Nat.le_of_ble_eq_true h
noncomputable def fk_nN(l:List Nat):Nat->Nat:=l.rec (fun _=>0) fun x _ r i=>i.rec x fun j _=>r j
noncomputable def fk_nI(l:List Int):Nat->Int:=l.rec (fun _=>0) fun x _ r i=>i.rec x fun j _=>r j
noncomputable def Vb(l:List Int):List Int->Int:=l.rec (fun _=>0) fun c _ r xs=>xs.rec 0 fun x t _=>c*x+r t
noncomputable def Me(l:List Int):List Int->List Int:=l.rec (fun m=>m) fun c t r m=>m.rec (c::t) fun d u _=>(c+d)::r u
noncomputable def Mf(k:Int)(l:List Int):List Int:=l.rec [] fun c _ r=>k*c::r
noncomputable def Rq(i:Nat):List Int:=i.rec [1] fun _ r=>0::r
noncomputable def Rp(l:List Nat):List Int:=l.rec [] fun x _ r=>(x:Int)::r
set_option genInjectivity false in
structure FkPo where
 c:Int
 n:List Int
 i:List Int
noncomputable def FkPo.ev(p:FkPo)(ns:List Nat)(is:List Int):Int:=p.c+Vb p.n (Rp ns)+Vb p.i is
noncomputable def FkPo.add(p q:FkPo):FkPo:=⟨p.c+q.c,Me p.n q.n,Me p.i q.i⟩
noncomputable def FkPo.mul(k:Int)(p:FkPo):FkPo:=⟨k*p.c,Mf k p.n,Mf k p.i⟩
theorem Md(a b c d:Int):a+b+(c+d)=a+c+(b+d):=by rw [Z61,Z61,<-Z61 b,Z62 b c,Z61 c]
theorem Ef(l:List Int) : ∀ m xs,Vb (Me l m) xs=Vb l xs+Vb m xs:=by
 induction l with
 |nil=>intro m xs;exact(Z6x _).symm
 |cons c t ih =>
  intro m xs
  cases m with
  |nil=>exact(Z64 _).symm
  |cons d u=>cases xs with
   |nil=>rfl
   |cons x w =>
    refine(congrArg ((c+d)*x + ·) (ih u w)).trans ?_
    rw [Int.add_mul]
    exact Md _ _ _ _
theorem Eg(k:Int)(l:List Int) : ∀ xs,Vb (Mf k l) xs=k*Vb l xs:=by
 induction l with
 |nil=>intro xs;exact(Z6f _).symm
 |cons c t ih =>
  intro xs
  cases xs with
  |nil=>exact(Z6f _).symm
  |cons x w=>exact(congrArg (k*c*x + ·) (ih w)).trans ((congrArg (· + k*Vb t w) (Int.mul_assoc k c x)).trans (Z6e k (c*x) _).symm)
theorem Lk(i:Nat) : ∀ xs,Vb (Rq i) xs=fk_nI xs i:=by
 induction i with
 |zero=>intro xs;cases xs with
  |nil=>rfl
  |cons x t=>exact(Z64 _).trans (Z6r x)
 |succ i ih=>intro xs;cases xs with
  |nil=>rfl
  |cons x t=>exact(congrArg (· + Vb (Rq i) t) (Int.zero_mul x)).trans ((Z6x _).trans (ih t))
theorem Ct(ns:List Nat) : ∀ i,fk_nI (Rp ns) i=(fk_nN ns i:Nat):=by
 induction ns with
 |nil=>exact fun _=>rfl
 |cons x t ih=>intro i;cases i with
  |zero=>rfl
  |succ i=>exact ih i
theorem Gx(p q:FkPo)(ns is):(p.add q).ev ns is=p.ev ns is+q.ev ns is:=by
 refine(congr (congrArg HAdd.hAdd (congrArg (p.c+q.c + ·) (Ef p.n q.n _))) (Ef p.i q.i _)).trans ?_
 exact(congrArg (· + (Vb p.i is+Vb q.i is)) (Md _ _ _ _)).trans (Md _ _ _ _)
theorem Be(k:Int)(p:FkPo)(ns is):(p.mul k).ev ns is=k*p.ev ns is:=by
 refine(congr (congrArg HAdd.hAdd (congrArg (k*p.c + ·) (Eg k p.n _))) (Eg k p.i _)).trans ?_
 exact(congrArg (· + k*Vb p.i is) (Z6e _ _ _).symm).trans (Z6e _ _ _).symm
noncomputable def FkPo.from(c:Int)(p q:FkPo):FkPo:=FkPo.add ⟨c,[],[]⟩ (q.add (p.mul (-1)))
theorem W5{c:Int}{p q:FkPo}{ns is}{x y:Int}(h1:x=p.ev ns is)(h2:y=q.ev ns is):(FkPo.from c p q).ev ns is=c+(y-x):=by
 subst h1;subst h2
 refine(Gx _ _ ns is).trans (congr (congrArg HAdd.hAdd ((Z64 _).trans (Z64 c))) ((Gx _ _ ns is).trans ?_))
 exact congrArg (q.ev ns is + ·) ((Be _ _ ns is).trans ((Z6n _ _).trans (congrArg Neg.neg (Z6r _))))
noncomputable def Tl(x:Int):Bool:=x.rec (fun _=>true) fun _=>false
noncomputable def Tk(x:Int):Bool:=x.rec (fun n=>n.beq 0) fun _=>false
noncomputable def V6(a b:Bool):Bool:=a.rec false b
noncomputable def Pt(f:Int->Bool)(l:List Int):Bool:=l.rec true fun c _ r=>V6 (f c) r
theorem J7{a b:Bool}(h:V6 a b=true):a=true/\b=true:=by
 cases a with
 |false=>exact Bool.noConfusion h
 |true=>exact⟨rfl,h⟩
theorem Ei{x:Int}(h:Tl x=true):0<=x:=by
 cases x with
 |ofNat n=>exact Z6j n
 |negSucc n=>exact Bool.noConfusion h
theorem Z0a{x:Int}(h:Tk x=true):x=0:=by
 cases x with
 |ofNat n=>exact congrArg Int.ofNat (Nat.eq_of_beq_eq_true h)
 |negSucc n=>exact Bool.noConfusion h
theorem fk_dpos(l:List Int) : ∀ xs,Pt Tl l=true->0<=Vb l (Rp xs):=by
 induction l with
 |nil=>intro xs _;exact Z6a _
 |cons c t ih =>
  intro xs h
  cases xs with
  |nil=>exact Z6a _
  |cons x w=>exact Z63 (Int.mul_nonneg (Ei (J7 h).1) (Z6j x)) (ih w (J7 h).2)
theorem Eh(l:List Int) : ∀ xs,Pt Tk l=true->Vb l xs=0:=by
 induction l with
 |nil=>intro xs _;rfl
 |cons c t ih =>
  intro xs h
  cases xs with
  |nil=>rfl
  |cons x w =>
   have z:=J7 (a:=Tk c) h
   exact congr (congrArg HAdd.hAdd ((congrArg (· * x) (Z0a z.1)).trans (Int.zero_mul x))) (ih w z.2)
set_option genInjectivity false in
structure FkN where
 d:List Nat->List Int->Nat
 q:FkPo
 ok : ∀ ns is,((d ns is:Nat):Int)=q.ev ns is
set_option genInjectivity false in
structure FkI where
 d:List Nat->List Int->Int
 q:FkPo
 ok : ∀ ns is,d ns is=q.ev ns is
noncomputable def Ce(i:Nat):FkN:=⟨fun ns _=>fk_nN ns i,⟨0,Rq i,[]⟩,fun ns is=>(((Z64 _).trans (Z6x _)).trans ((Lk i _).trans (Ct ns i))).symm⟩
noncomputable def Zo(n:Nat):FkN:=⟨fun _ _=>n,⟨n,[],[]⟩,fun _ _=>((Z64 _).trans (Z64 _)).symm⟩
noncomputable def Z8(a b:FkN):FkN:=⟨fun ns is=>a.d ns is+b.d ns is,a.q.add b.q,fun ns is=>(congr (congrArg HAdd.hAdd (a.ok ns is)) (b.ok ns is)).trans (Gx _ _ _ _).symm⟩
noncomputable def Zm(k:Nat)(a:FkN):FkN:=⟨fun ns is=>k*a.d ns is,a.q.mul k,fun ns is=>((Int.natCast_mul _ _).trans (congrArg ((k:Int) * ·) (a.ok ns is))).trans (Be _ _ _ _).symm⟩
noncomputable def fk_i(i:Nat):FkI:=⟨fun _ is=>fk_nI is i,⟨0,[],Rq i⟩,fun ns is=>((Z6x _).trans (Lk i _)).symm⟩
noncomputable def Xh(a:FkN):FkI:=⟨fun ns is=>(a.d ns is:Nat),a.q,a.ok⟩
noncomputable def Vt(n m:Nat):FkI:=⟨fun _ _=>(n:Int)^m,⟨(n:Int)^m,[],[]⟩,fun _ _=>((Z64 _).trans (Z64 _)).symm⟩
noncomputable def Xb(a b:FkI):FkI:=⟨fun ns is=>a.d ns is+b.d ns is,a.q.add b.q,fun ns is=>(congr (congrArg HAdd.hAdd (a.ok ns is)) (b.ok ns is)).trans (Gx _ _ _ _).symm⟩
noncomputable def Wj(a:FkI):FkI:=⟨fun ns is => - a.d ns is,a.q.mul (-1),fun ns is=>(congrArg Neg.neg (a.ok ns is)).trans ((Be _ _ ns is).trans ((Z6n _ _).trans (congrArg Neg.neg (Z6r _)))).symm⟩
noncomputable def Yl(a b:FkI):FkI:=⟨fun ns is=>a.d ns is-b.d ns is,.from 0 b.q a.q,fun ns is=>((W5 (b.ok ns is) (a.ok ns is)).trans (Z6x _)).symm⟩
noncomputable def Nz(e:Bool)(x:Int):Prop:=e.rec (0<=x) (x=0)
set_option genInjectivity false in
structure FkK where
 d:List Nat->List Int->Prop
 q:FkPo
 e:Bool
 ok : ∀ ns is,d ns is->Nz e (q.ev ns is)
theorem Ll{x y:Int}(h:x<=y):0<=0+(y-x):=by rw [Z6x];exact Z6s h
theorem Z08{x y:Int}(h:x<y):0<= -1+(y-x):=by rw [Z62];exact Z6s (Int.add_one_le_of_lt (Z6t h))
theorem Z05{x y:Int}(h:x=y):0+(y-x)=0:=by rw [Z6x,h];exact Int.sub_self y
theorem Z07{x y:Int}(h:0<=0+(y-x)):x<=y:=by rw [Z6x] at h;exact Z69 h
theorem Z09{x y:Int}(h:0<= -1+(y-x)):x<y:=by rw [Z62] at h;exact Int.lt_of_sub_pos (Int.lt_of_add_one_le (Z69 h))
theorem Z06{x y:Int}(h:0+(y-x)=0):x=y:=by rw [Z6x] at h;exact(Int.eq_of_sub_eq_zero h).symm
theorem Jq{e:Bool}{x y:Int}(h:x=y)(k:Nz e y):Nz e x:=h▸k
noncomputable def Xp(a b:FkI):FkK:=⟨fun ns is=>a.d ns is<b.d ns is,.from (-1) a.q b.q,false,fun ns is h=>Jq (W5 (a.ok ns is) (b.ok ns is)) (Z08 h)⟩
noncomputable def Xq(a b:FkI):FkK:=⟨fun ns is=>a.d ns is<=b.d ns is,.from 0 a.q b.q,false,fun ns is h=>Jq (W5 (a.ok ns is) (b.ok ns is)) (Ll h)⟩
noncomputable def Yr(a b:FkI):FkK:=⟨fun ns is=>a.d ns is=b.d ns is,.from 0 a.q b.q,true,fun ns is h=>Jq (W5 (a.ok ns is) (b.ok ns is)) (Z05 h)⟩
noncomputable def Qu(a b:FkI):FkK:=⟨fun ns is => ¬ a.d ns is<b.d ns is,.from 0 b.q a.q,false,fun ns is h=>Jq (W5 (b.ok ns is) (a.ok ns is)) (Ll (Int.not_lt.mp h))⟩
noncomputable def Zq(a b:FkN):FkK:=⟨fun ns is=>a.d ns is<b.d ns is,.from (-1) a.q b.q,false,fun ns is h=>Jq (W5 (a.ok ns is) (b.ok ns is)) (Z08 (Int.ofNat_lt.mpr h))⟩
noncomputable def Zb(a b:FkN):FkK:=⟨fun ns is=>a.d ns is<=b.d ns is,.from 0 a.q b.q,false,fun ns is h=>Jq (W5 (a.ok ns is) (b.ok ns is)) (Ll (Int.ofNat_le.mpr h))⟩
noncomputable def Zj(a b:FkN):FkK:=⟨fun ns is=>a.d ns is=b.d ns is,.from 0 a.q b.q,true,fun ns is h=>Jq (W5 (a.ok ns is) (b.ok ns is)) (Z05 (congrArg Int.ofNat h))⟩
noncomputable def K7(a b:FkN):FkK:=⟨fun ns is => ¬ a.d ns is<b.d ns is,.from 0 b.q a.q,false,fun ns is h=>Jq (W5 (b.ok ns is) (a.ok ns is)) (Ll (Int.ofNat_le.mpr (Z10 h)))⟩
set_option genInjectivity false in
structure FkG where
 d:List Nat->List Int->Prop
 q:FkPo
 e:Bool
 w:Bool
 ok : ∀ ns is,w=true->Nz e (q.ev ns is)->d ns is
noncomputable def J6(a b:FkI):FkG:=⟨fun ns is=>a.d ns is<b.d ns is,.from (-1) a.q b.q,false,true,fun ns is _ h=>Z09 (Jq (e:=false) (W5 (a.ok ns is) (b.ok ns is)).symm h)⟩
noncomputable def Yv(a b:FkI):FkG:=⟨fun ns is=>a.d ns is<=b.d ns is,.from 0 a.q b.q,false,true,fun ns is _ h=>Z07 (Jq (e:=false) (W5 (a.ok ns is) (b.ok ns is)).symm h)⟩
noncomputable def K6(a b:FkI):FkG:=⟨fun ns is=>a.d ns is=b.d ns is,.from 0 a.q b.q,true,true,fun ns is _ h=>Z06 (Jq (e:=true) (W5 (a.ok ns is) (b.ok ns is)).symm h)⟩
noncomputable def Zy(a b:FkN):FkG:=⟨fun ns is=>a.d ns is<b.d ns is,.from (-1) a.q b.q,false,true,fun ns is _ h=>Int.ofNat_lt.mp (Z09 (Jq (e:=false) (W5 (a.ok ns is) (b.ok ns is)).symm h))⟩
noncomputable def Zh(a b:FkN):FkG:=⟨fun ns is=>a.d ns is<=b.d ns is,.from 0 a.q b.q,false,true,fun ns is _ h=>Int.ofNat_le.mp (Z07 (Jq (e:=false) (W5 (a.ok ns is) (b.ok ns is)).symm h))⟩
noncomputable def J9(a b:FkN):FkG:=⟨fun ns is=>a.d ns is=b.d ns is,.from 0 a.q b.q,true,true,fun ns is _ h=>Int.ofNat.inj (Z06 (Jq (e:=true) (W5 (a.ok ns is) (b.ok ns is)).symm h))⟩
noncomputable def Ho:FkG:=⟨fun _ _=>False,⟨-1,[],[]⟩,false,true,fun ns is _ h=>absurd (show 0<=(-1:Int)+0+0 from h) (by decide)⟩
theorem fk_ssub{g c:Bool}{x y:Int}{l:Int}(w:c.rec (V6 (Tl l) (g.rec true false)) true=true)(h:Nz g (x + -l*y))(k:Nz c y):Nz g x:=by
 cases c with
 |true =>
  have k:y=0:=k
  subst k
  rw [Z6f,Z64] at h
  exact h
 |false =>
  have w:=J7 w
  cases g with
  |true=>exact Bool.noConfusion w.2
  |false =>
   have h:0<=x + -l*y:=h
   have k:0<=y:=k
   have:=Z63 h (Int.mul_nonneg (Ei w.1) k)
   rw [Z61,Z6n,Int.add_left_neg,Z64] at this
   exact this
noncomputable def Ze(l:Int)(c:FkK)(g:FkG):FkG:=⟨fun ns is=>c.d ns is->g.d ns is,g.q.add (c.q.mul (-l)),g.e,V6 g.w (c.e.rec (V6 (Tl l) (g.e.rec true false)) true),
 fun ns is w h a=>g.ok ns is (J7 w).1 (fk_ssub (J7 w).2 (Jq ((Gx _ _ ns is).trans (congrArg (g.q.ev ns is + ·) (Be _ _ ns is))).symm h) (c.ok ns is a))⟩
noncomputable def Zd(c:FkK)(g:FkG):FkG:=Ze 1 c g
theorem fk_sok{k:Nat}{x:Int}(h:0<=(k:Int)+(k+1)*x):0<=x:=by
 refine Int.not_lt.mp fun q=>?_
 have w:=Int.mul_le_mul_of_nonneg_left (Int.add_one_le_iff.mpr q) (Z6j (k+1))
 rw [Z6e,Z6f,Int.mul_one] at w
 have w:((k:Int)+1)*x+(k+1)<=0:=w
 generalize ((k:Int)+1)*x=z at *
 (first|lia|omega)
noncomputable def Xn(k:Nat)(g:FkG):FkG:=⟨g.d,FkPo.add ⟨k,[],[]⟩ (g.q.mul (k+1)),false,V6 (g.e.rec true false) g.w,fun ns is w h=>g.ok ns is (J7 w).2 (by
 have q:=(J7 w).1
 cases e:g.e with
 |true=>rw [e] at q;exact Bool.noConfusion q
 |false=>exact fk_sok (k:=k) (Jq (e:=false) ((Gx _ _ ns is).trans (congr (congrArg HAdd.hAdd ((Z64 _).trans (Z64 _))) (Be _ _ ns is))).symm h))⟩
noncomputable def FkPo.ok(e:Bool)(p:FkPo):Bool:=V6 (e.rec (V6 (Tl p.c) (Pt Tl p.n)) (V6 (Tk p.c) (Pt Tk p.n))) (Pt Tk p.i)
theorem Q7(g:FkG)(h:V6 g.w (g.q.ok g.e)=true)(ns:List Nat)(is:List Int):g.d ns is:=by
 refine g.ok ns is (J7 h).1 ?_
 have h:=(J7 h).2
 have hi:=Eh _ is (J7 h).2
 have h:=(J7 h).1
 refine Jq (congrArg (g.q.c+Vb g.q.n (Rp ns) + ·) hi) (Jq (Z64 _) ?_)
 cases e:g.e with
 |false=>rw [e] at h;exact Z63 (Ei (J7 h).1) (fk_dpos _ ns (J7 h).2)
 |true=>rw [e] at h;exact(congr (congrArg HAdd.hAdd (Z0a (J7 h).1)) (Eh _ _ (J7 h).2))
theorem fk_sa(x y:Nat):x<=x-y+y:=Z0t (Z12 _)
theorem fk_na(x:Int) : -x<=(x.natAbs:Nat):=by rw [<-Z6h];exact Z67
noncomputable def Z0:=Ce 0
noncomputable def Z1:=Ce 1
noncomputable def Za:=Ce 2
noncomputable def Zp:=Ce 3
noncomputable def X4:=Ce 4
noncomputable def Vh:=Ce 5
noncomputable def Mg:=Ce 6
noncomputable def Cu:=Ce 7
noncomputable def fk_v8:=Ce 8
noncomputable def fk_v9:=Ce 9
noncomputable def Zg:=fk_i 0
noncomputable def Iw:=fk_i 1
noncomputable def Wt:=Zo 0
noncomputable def Yi:=Zo 1
noncomputable def Ys:=Zo 2
noncomputable def Pu:=Zo 3
noncomputable def Xi:=Zo 4
noncomputable def Zu:=Xh Z0
noncomputable def Xm:=Xh Z1
noncomputable def Qt:=Xh Za
noncomputable def fk_c3:=Xh Zp
noncomputable def X0:=Xh Wt
noncomputable def Xx:=Xh Yi
noncomputable def Y0(a:FkN):FkN:=Z8 a Yi
theorem Wc(g:FkG)(h:V6 g.w (g.q.ok g.e)=true){a0:Int}:g.d [] [a0]:=Q7 g h _ _
theorem fk0_2(g:FkG)(h:V6 g.w (g.q.ok g.e)=true){a0 a1:Int}:g.d [] [a0,a1]:=Q7 g h _ _
theorem Y2(g:FkG)(h:V6 g.w (g.q.ok g.e)=true){a0:Nat}:g.d [a0] []:=Q7 g h _ _
theorem J1(g:FkG)(h:V6 g.w (g.q.ok g.e)=true){a0:Nat}{a1:Int}:g.d [a0] [a1]:=Q7 g h _ _
theorem Zw(g:FkG)(h:V6 g.w (g.q.ok g.e)=true){a0 a1:Nat}:g.d [a0,a1] []:=Q7 g h _ _
theorem Vg(g:FkG)(h:V6 g.w (g.q.ok g.e)=true){a0 a1:Nat}{a2:Int}:g.d [a0,a1] [a2]:=Q7 g h _ _
theorem Ye(g:FkG)(h:V6 g.w (g.q.ok g.e)=true){a0 a1 a2:Nat}:g.d [a0,a1,a2] []:=Q7 g h _ _
theorem Ee(g:FkG)(h:V6 g.w (g.q.ok g.e)=true){a0 a1 a2:Nat}{a3:Int}:g.d [a0,a1,a2] [a3]:=Q7 g h _ _
theorem Xw(g:FkG)(h:V6 g.w (g.q.ok g.e)=true){a0 a1 a2 a3:Nat}:g.d [a0,a1,a2,a3] []:=Q7 g h _ _
theorem fk4_1(g:FkG)(h:V6 g.w (g.q.ok g.e)=true){a0 a1 a2 a3:Nat}{a4:Int}:g.d [a0,a1,a2,a3] [a4]:=Q7 g h _ _
theorem Q6(g:FkG)(h:V6 g.w (g.q.ok g.e)=true){a0 a1 a2 a3 a4:Nat}:g.d [a0,a1,a2,a3,a4] []:=Q7 g h _ _
theorem Ro(g:FkG)(h:V6 g.w (g.q.ok g.e)=true){a0 a1 a2 a3 a4 a5:Nat}:g.d [a0,a1,a2,a3,a4,a5] []:=Q7 g h _ _
theorem fk7_0(g:FkG)(h:V6 g.w (g.q.ok g.e)=true){a0 a1 a2 a3 a4 a5 a6:Nat}:g.d [a0,a1,a2,a3,a4,a5,a6] []:=Q7 g h _ _
theorem fk8_0(g:FkG)(h:V6 g.w (g.q.ok g.e)=true){a0 a1 a2 a3 a4 a5 a6 a7:Nat}:g.d [a0,a1,a2,a3,a4,a5,a6,a7] []:=Q7 g h _ _
theorem fk10_0(g:FkG)(h:V6 g.w (g.q.ok g.e)=true){a0 a1 a2 a3 a4 a5 a6 a7 a8 a9:Nat}:g.d [a0,a1,a2,a3,a4,a5,a6,a7,a8,a9] []:=Q7 g h _ _
end Lay
namespace Lay
theorem byC{p:Prop}(h : ¬p->False):p:=Z5f h
theorem ar0{a b:Nat}(h0:(100<=a))(h1:(a<b))(h2:((a<100)\/(b<=a))):False:=(h2.elim (Y2 (Zd (Zb (Zo 100) Z0) (Zd (Zq Z0 (Zo 100)) Ho)) rfl h0) (Zw (Zd (Zq Z0 Z1) (Zd (Zb Z1 Z0) Ho)) rfl h1))
theorem ar1:(0<=64):=Z25 64
theorem ar2{a:Int}(h0:(a≠(0:Int))):((Int.natAbs a)≠0):=Int.natAbs_ne_zero.mpr h0
theorem ar3{a:Nat}(h0:(a<63)):((a+1)<=64):=Z15 h0
theorem ar4{a b c:Nat}(h0:(((a+(8*c))+100)<b)):((a+64)<b):=(Ye (Zd (Zq (Z8 (Z8 Z0 (Zm 8 Z1)) (Zo 100)) Za) (Zy (Z8 Z0 (Zo 64)) Za)) rfl h0)
theorem ar5{a:Nat}(h0:((a+1)<=64)):(a<=64):=Z11 h0
theorem ar6{a b c:Nat}(h0:(((a+(8*c))+100)<b)):((a+1)<b):=(Ye (Zd (Zq (Z8 (Z8 Z0 (Zm 8 Z1)) (Zo 100)) Za) (Zy (Y0 Z0) Za)) rfl h0)
theorem ar7{a b c d e:Nat}(h0:(((a+(8*e))+100)<d))(h1:(b<=64))(h2:((min b c)<=b)):(((a+1)+(min b c))<d):=(Q6 (Zd (Zq (Z8 (Z8 Z0 (Zm 8 Z1)) (Zo 100)) Za) (Zd (Zb Zp (Zo 64)) (Zd (Zb X4 Zp) (Zy (Z8 (Y0 Z0) X4) Za)))) rfl h0 h1 h2)
theorem ar8{a b:Nat}(h0:((a+1)<=b)):(a<=b):=Z11 h0
theorem ar9{a b c:Nat}(h0:((a+(c+1))<b)):(a<b):=Nat.lt_of_add_right_lt h0
theorem ar10{a b c d e:Nat}(h0:(c<=b))(h1:(d=c))(h2:(e=c))(h3:(a<(min b e))):(a<b):=Z1a h3 (Z1l _ _)
theorem ar11{a b c d e:Nat}(h0:(c<=d))(h1:(e=c))(h2:(b=c))(h3:(a<d))(h4:(a<(min d b))):(a<b):=(Ye (Zd (Zq Z0 Z1) (Zd (Zj Z1 Za) (Zy Z0 Za))) rfl h4 (Z1k (Ye (Zd (Zb Z0 Z1) (Zd (Zj Za Z0) (Zh Za Z1))) rfl h0 h2)))
theorem ar12{a b c d e:Nat}(h0:(b<=c))(h1:(d=b))(h2:(e=b))(h3:(a<e)):(a<(min b c)):=(Xw (Zd (Zj Z0 Z1) (Zd (Zq Za Z0) (Ze (-1) (Zj Zp Z1) (Zy Za Zp)))) rfl h2 h3 (Z1j (Zw (Zd (Zb Z0 Z1) (Zh Z0 Z1)) rfl h0)))
theorem ar13{a b c d e:Nat}(h0:(c<=b))(h1:(d=c))(h2:(e=c))(h3:(a<e)):(a<b):=(Xw (Zd (Zb Z0 Z1) (Zd (Zj Za Z0) (Zd (Zq Zp Za) (Zy Zp Z1)))) rfl h0 h2 h3)
theorem ar14{a b c d e:Nat}(h0:(d<=b))(h1:(e=d))(h2:(c=d))(h3:(a<c)):(a<(min b c)):=Nat.lt_min.mpr ⟨Z1a (h2▸h3) h0,h3⟩
theorem ar15{a b c:Nat}(h0:((a+(b+1))<c)):(((a+1)+b)<c):=(Ye (Zd (Zq (Z8 Z0 (Y0 Z1)) Za) (Zy (Z8 (Y0 Z0) Z1) Za)) rfl h0)
theorem ar16{a b c:Nat}(h0:(((a+(8*(b+1)))+100)<c)):((((a+3)+(8*b))+100)<c):=(Ye (Zd (Zq (Z8 (Z8 Z0 (Zm 8 (Y0 Z1))) (Zo 100)) Za) (Zy (Z8 (Z8 (Z8 Z0 Pu) (Zm 8 Z1)) (Zo 100)) Za)) rfl h0)
theorem ar17{a b c d:Nat}(h0:(b<=d))(h1:((a+d)<c)):((a+b)<c):=(Xw (Zd (Zb Z0 Z1) (Zd (Zq (Z8 Za Z1) Zp) (Zy (Z8 Za Z0) Zp))) rfl h0 h1)
theorem ar18{a b c d:Nat}(h0:(b<=d))(h1:(((a+(8*d))+100)<c)):(((a+(8*b))+100)<c):=(Xw (Ze 8 (Zb Z0 Z1) (Zd (Zq (Z8 (Z8 Za (Zm 8 Z1)) (Zo 100)) Zp) (Zy (Z8 (Z8 Za (Zm 8 Z0)) (Zo 100)) Zp))) rfl h0 h1)
theorem ar19{a:Nat}{b:Int}(h0:(((0:Int)<=(b+((a:Nat):Int)))/\((b+((a:Nat):Int))<((a:Nat):Int)))):((-((a:Nat):Int))<=b):=(J1 (Zd (Xq X0 (Xb Zg Zu)) (Yv (Wj Zu) Zg)) rfl h0.1)
theorem ar20{a:Int}(h0:(¬(a<(0:Int)))):((0:Int)<=a):=Int.not_lt.mp h0
theorem ar21{b:Nat}{a:Int}(h0:(((0:Int)<=a)/\(a<((b:Nat):Int)))):(a<((b:Nat):Int)):=(J1 (Zd (Xp Zg Zu) (J6 Zg Zu)) rfl h0.2)
theorem ar22{a b c:Nat}(h0:(c<b))(h1:(a=c)):(a<=b):=(Ye (Zd (Zq Z0 Z1) (Zd (Zj Za Z0) (Zh Za Z1))) rfl h0 h1)
theorem ar23{a b:Nat}(h0:(a<=b)):(a<=b):=(Zw (Zd (Zb Z0 Z1) (Zh Z0 Z1)) rfl h0)
theorem ar24{a b c:Nat}(h0:(c<=b))(h1:(a=c)):(a<=b):=(Ye (Zd (Zb Z0 Z1) (Zd (Zj Za Z0) (Zh Za Z1))) rfl h0 h1)
theorem ar25{a b:Int}(h0:(b<a)):((0:Int)<=((a-b)-(1:Int))):=(fk0_2 (Zd (Xp Zg Iw) (Yv X0 (Yl (Yl Iw Zg) Xx))) rfl h0)
theorem ar26{a:Int}(h0:(a>(0:Int))):((0:Int)<=a):=Z68 h0
theorem ar27{a:Int}(h0:((0:Int)<=a)):((0:Int)<=(a+(1:Int))):=Int.le_add_one h0
theorem ar28{a b:Int}(h0:(a>b)):((0:Int)<=((a-b)-(1:Int))):=by lia
theorem ar29{a:Int}(h0:(¬(a>(0:Int)))):((0:Int)<=(-a)):=by simp at *;omega
theorem ar30{b:Nat}{a:Int}(h0:(((b:Nat):Int)<a)):((0:Int)<(a-((b:Nat):Int))):=Z6t h0
theorem ar31{a:Nat}{b:Int}(h0:((0:Int)<=b))(h1:(((a:Nat):Int)<b)):(a<(Z6u b)):=Int.lt_toNat.mpr h1
theorem ar32{b:Nat}{a c:Int}:((a+((((b:Nat):Int)*c)+((1:Int)*c)))=((a+(((b:Nat):Int)*c))+c)):=by lia
theorem ar33{b:Nat}{a:Int}:((a-(((b+1):Nat):Int))=((a-((b:Nat):Int))-(1:Int))):=(J1 (K6 (Yl Zg (Xh (Y0 Z0))) (Yl (Yl Zg Zu) Xx)) rfl)
theorem ar34{b:Nat}{a:Int}(h0:(¬(((b:Nat):Int)<a))):((a-((b:Nat):Int))<=(0:Int)):=(J1 (Zd (Qu Zu Zg) (Yv (Yl Zg Zu) X0)) rfl h0)
theorem ar35{b:Nat}{a:Int}(h0:(¬(((b:Nat):Int)<a))):(a<=((b:Nat):Int)):=Int.not_lt.mp h0
theorem ar38{b c:Nat}{a:Int}(h0:(((0:Int)<=a)/\(b<=c))):(a=(((Z6u a):Nat):Int)):=(J1 (Ze (-1) (Yr Zu Zg) (K6 Zg Zu)) rfl (Z6w (Wc (Zd (Xq X0 Zg) (Yv X0 Zg)) rfl h0.1)))
theorem ar43{a b c:Nat}(h0:(c<=b))(h1:(100<=c))(h2:(a<100)):(a≠b):=(Z1o (Ye (Zd (Zb Z0 Z1) (Zd (Zb (Zo 100) Z0) (Zd (Zq Za (Zo 100)) (Zy Za Z1)))) rfl h0 h1 h2))
theorem ar44{a b c:Nat}(h0:(c<=b))(h1:(a<c)):(a≠b):=(Z1o (Ye (Zd (Zb Z0 Z1) (Zd (Zq Za Z0) (Zy Za Z1))) rfl h0 h1))
theorem ar45{a b c:Nat}(h0:(c=b))(h1:(a=c)):(a=b):=(Ye (Zd (Zj Z0 Z1) (Zd (Zj Za Z0) (J9 Za Z1))) rfl h0 h1)
theorem ar46{a b:Nat}(h0:(a<=(b-1)))(h1:(0<b)):((a+1)<=b):=Nat.add_le_of_le_sub h1 h0
theorem ar47{a b c:Nat}(h0:(b<1000))(h1:(a<=c))(h2:(c<=(b+1))):(a<=(16777216+1)):=by lia
theorem ar48{a b:Nat}(h0:(a<100))(h1:(100<=b)):(a<b):=Z1a h0 h1
theorem ar49{a b c d:Nat}(h0:((b+1)<=d))(h1:((a+d)<c)):(((a+1)+b)<c):=(Xw (Zd (Zb (Y0 Z0) Z1) (Zd (Zq (Z8 Za Z1) Zp) (Zy (Z8 (Y0 Za) Z0) Zp))) rfl h0 h1)
theorem ar50{a b c d:Nat}(h0:((b+1)<=d))(h1:(((a+(8*d))+100)<c)):((((a+1)+(8*b))+100)<c):=(Xw (Ze 8 (Zb (Y0 Z0) Z1) (Zd (Zq (Z8 (Z8 Za (Zm 8 Z1)) (Zo 100)) Zp) (Zy (Z8 (Z8 (Y0 Za) (Zm 8 Z0)) (Zo 100)) Zp))) rfl h0 h1)
theorem ar51{a b c:Nat}(h0:(b=c))(h1:(a<c)):(a<b):=Z19 h1 (Eq.symm h0)
theorem ar71{a:Nat}(h0:(2<=a)):(0<a):=(Y2 (Zd (Zb Ys Z0) (Xn 1 (Zy Wt Z0))) rfl h0)
theorem ar81{a b:Nat}(h0:(¬(b<a))):(a<=b):=Z10 h0
theorem ar89{a b c:Nat}(h0:(((a+b)/2)<=c))(h1:(¬(c=((a+b)/2)))):(((a+b)/2)<c):=Z18 h0 fun a_1=>h1 (Eq.symm a_1)
theorem ar94{a b c:Nat}(h0:(a<(((b+c)/2)+1)))(h1:(¬(a=((b+c)/2)))):(a<((b+c)/2)):=by lia
theorem ar106{a b c:Nat}(h0:(a<c))(h1:(c=b)):(a<b):=Z19 h0 h1
theorem ar117{a b:Nat}(h0:(a<=b))(h1:(¬(a<b))):(a=b):=(Z0v (Zw (Zd (Zb Z0 Z1) (Zh Z0 Z1)) rfl h0) (Zw (Zd (K7 Z0 Z1) (Zh Z1 Z0)) rfl h1))
theorem ar118{a:Nat}:(¬(((a:Nat):Int)<(0:Int))):=Z6p a
theorem ar119{a b c:Nat}(h0:(b<(2^63)))(h1:(a<=b))(h2:(c=a)):(((a:Nat):Int)<((2:Int)^63)):=(Zw (Zd (Zq Z0 (Zo (2^63))) (Zd (Zb Z1 Z0) (J6 Xm (Vt 2 63)))) rfl h0 h1)
theorem ar120{a b:Nat}(h0:(b<(2^63)))(h1:(a<=b)):(((a:Nat):Int)<((2:Int)^63)):=(Zw (Zd (Zq Z0 (Zo (2^63))) (Zd (Zb Z1 Z0) (J6 Xm (Vt 2 63)))) rfl h0 h1)
theorem ar123{a b c:Int}(h0:(a<=c))(h1:(c<=b)):(a<=b):=Int.le_trans h0 h1
theorem ar124{a b:Int}:((a<=b)\/(b<=a)):=Int.le_total a b
theorem ar125{a b c:Nat}(h0:(a<64))(h1:(b=a))(h2:(c=a)):(a<=16777216):=by lia
theorem ar126{a b c d:Int}:((¬((a<b)\/((a=b)/\(c<d))))↔((b<a)\/((a=b)/\(d<=c)))):=⟨fun h=>(Z6d a b).elim (fun w=>absurd (.inl w) h) fun w=>w.elim (fun e=>.inr ⟨e,Int.not_lt.mp fun k=>h (.inr ⟨e,k⟩)⟩) .inl,fun h k=>h.elim (fun w=>k.elim (fun x=>Int.lt_asymm w x) fun x=>Z6k w x.1) fun w=>k.elim (fun x=>Z6l x w.1) fun x=>Int.not_le.mpr x.2 w.2⟩
theorem ar127{a b:Nat}(h0:((a+(b+1))<64)):(a<=16777216):=by lia
theorem ar128{a b:Nat}(h0:((a+(b+1))<64)):((a+1)<=(16777216+1)):=by lia
theorem ar129{a b:Nat}(h0:((a+(b+1))<64)):(((a+1)+b)<64):=(Zw (Zd (Zq (Z8 Z0 (Y0 Z1)) (Zo 64)) (Zy (Z8 (Y0 Z0) Z1) (Zo 64))) rfl h0)
theorem ar130{a b c d:Int}(h0:(b=a))(h1:(d=c)):((a<b)\/((b=a)/\(c<=d))):=(.inr ⟨(fk0_2 (Zd (Yr Zg Iw) (K6 Zg Iw)) rfl h0),(fk0_2 (Ze (-1) (Yr Zg Iw) (Yv Iw Zg)) rfl h1)⟩)
theorem ar131{a b:Int}:((a<a)\/((a=a)/\(b<=b))):=(.inr ⟨(Wc (K6 Zg Zg) rfl),(Wc (Yv Zg Zg) rfl)⟩)
theorem ar132{a b c d e f:Int}(h0:((a<e)\/((a=e)/\(c<f))))(h1:((e<b)\/((e=b)/\(f<d)))):((a<b)\/((a=b)/\(c<d))):=by rcases h0 with h|⟨rfl,h⟩<;>rcases h1 with k|⟨rfl,k⟩;exact .inl (Z6c h k);exact .inl h;exact .inl k;exact .inr ⟨rfl,Z6c h k⟩
theorem ar133{a b c d:Int}(h0:(¬((a=b)/\(c=d)))):(((a<b)\/((a=b)/\(c<d)))\/((b<a)\/((b=a)/\(d<c)))):=(Z6d a b).elim (fun w=>.inl (.inl w)) fun w=>w.elim (fun e=>(Z6d c d).elim (fun k=>.inl (.inr ⟨e,k⟩)) fun k=>k.elim (fun k=>absurd ⟨e,k⟩ h0) fun k=>.inr (.inr ⟨e.symm,k⟩)) fun w=>.inr (.inl w)
theorem ar134{a b c d:Nat}(h0:(c=b))(h1:(d=c))(h2:(a<c)):(a<b):=ar106 h2 h0
theorem ar135{a b c d e f:Int}(h0:((a<e)\/((e=a)/\(c<=f))))(h1:((e<b)\/((b=e)/\(f<=d)))):((a<b)\/((b=a)/\(c<=d))):=by rcases h0 with h|⟨rfl,h⟩<;>rcases h1 with k|⟨rfl,k⟩;exact .inl (Z6c h k);exact .inl h;exact .inl k;exact .inr ⟨rfl,Int.le_trans h k⟩
theorem ar136{a b c d:Int}(h0:((a<b)\/((a=b)/\(c<d)))):((a<b)\/((b=a)/\(c<=d))):=h0.imp id fun h=>⟨h.1.symm,Z68 h.2⟩
theorem ar137{a b c d e:Nat}(h0:(b=c))(h1:(d=b))(h2:(a<e))(h3:(e=b)):(a<b):=Z19 h2 h3
theorem ar138{e f g:Nat}{a b c d:Int}(h0:(e<f))(h1:(g<f))(h2:((a<b)\/((a=b)/\(c<d)))):((a<b)\/((b=a)/\(c<=d))):=by grind
theorem ar139{a:Nat}(h0:(a<64)):(a<=16777216):=by lia
theorem ar140{a b:Nat}(h0:(a<64))(h1:(b=a)):(a<=(16777216+1)):=by lia
theorem ar141{a b c d:Nat}(h0:(a<64))(h1:(b=a))(h2:(c=b))(h3:(d=a)):(a<=16777216):=ar125 h0 h1 h1
theorem ar142{a b c d:Nat}(h0:((b+1)<=d))(h1:((a+d)<c)):((a+b)<c):=(Xw (Zd (Zb (Y0 Z0) Z1) (Zd (Zq (Z8 Za Z1) Zp) (Zy (Z8 Za Z0) Zp))) rfl h0 h1)
theorem ar143{a b c d:Nat}(h0:((b+1)<=d))(h1:(((a+(8*d))+100)<c)):(((((a+1)+1)+(8*b))+100)<c):=(Xw (Ze 8 (Zb (Y0 Z0) Z1) (Zd (Zq (Z8 (Z8 Za (Zm 8 Z1)) (Zo 100)) Zp) (Zy (Z8 (Z8 (Y0 (Y0 Za)) (Zm 8 Z0)) (Zo 100)) Zp))) rfl h0 h1)
theorem ar144{a b c d e:Nat}(h0:(a<64))(h1:(b=a))(h2:(c=b))(h3:(d=a))(h4:(e=a))(h5:(d<2)):(a<2):=lt_of_eq_of_lt (Eq.symm h3) h5
theorem ar145{a b c d e:Nat}(h0:(c=d))(h1:(e=c))(h2:(a=d))(h3:(b=d)):(a<=b):=(Ye (Zd (Zj Z0 Z1) (Ze (-1) (Zj Za Z1) (Zh Z0 Za))) rfl h2 h3)
theorem ar146{a b c d e:Nat}(h0:(a<64))(h1:(b=a))(h2:(c=b))(h3:(d=a))(h4:(e=a))(h5:(¬(d<2))):(2<=a):=(Zw (Zd (Zj Z0 Z1) (Zd (K7 Z0 Ys) (Zh Ys Z1))) rfl h3 h5)
theorem ar147{a b c d e f:Nat}(h0:(a<64))(h1:(b=a))(h2:(c=b))(h3:(d=a))(h4:(e=a))(h5:(2<=a))(h6:(f=c)):(0<a):=ar71 h5
theorem ar148{a b:Nat}(h0:((b-a)=0))(h1:(a<=b)):(a=b):=(Ye (Ze (-1) (Zj Z0 Wt) (Zd (Zj (Z8 Z0 Z1) Za) (J9 Z1 Za))) rfl h0 (Z1u (Zw (Zd (Zb Z0 Z1) (Zh Z0 Z1)) rfl h1)))
theorem ar149{a b c:Nat}(h0:((b-a)=(c+1)))(h1:(a<=b)):(a<b):=Z1c h0
theorem ar157{a b:Nat}(h0:(a=b))(h1:(0<b)):((a-1)<a):=(Zw (Zd (Zj (Y0 Z0) Z1) (Zy Z0 Z1)) rfl (Z1u (Zw (Ze (-1) (Zj Z0 Z1) (Zd (Zq Wt Z1) (Zh Yi Z0))) rfl h0 h1)))
theorem ar158{a b:Nat}(h0:(a=b))(h1:(0<b))(h2:((a-1)<a)):(((a-1)+1)=a):=(Zw (Zd (Zj (Y0 Z0) Z1) (J9 (Y0 Z0) Z1)) rfl (Z1u (Zw (Zd (Zq Z0 Z1) (Zh Yi Z1)) rfl h2)))
theorem ar159{a b:Nat}(h0:((a+1)<(b+1))):(a<b):=Nat.succ_lt_succ_iff.mp h0
theorem ar161{a:Nat}(h0:(((a:Nat):Int)<((2:Int)^63))):(¬(((a:Nat):Int)<(0:Int))):=Z6p a
theorem ar162{a:Nat}(h0:(((a:Nat):Int)<((2:Int)^63))):((-((2:Int)^63))<=((a:Nat):Int)):=Int.neg_ofNat_le_natCast (2^63) a
theorem ar163{a b:Nat}(h0:(a<b)):(a<b):=(Zw (Zd (Zq Z0 Z1) (Zy Z0 Z1)) rfl h0)
theorem ar164{a:Nat}(h0:(a<=16777216)):(((a:Nat):Int)<((2:Int)^62)):=by lia
theorem ar165{a:Nat}(h0:(((a:Nat):Int)<((2:Int)^62))):(((a:Nat):Int)<((2:Int)^63)):=(Y2 (Zd (Xp Zu (Vt 2 62)) (J6 Zu (Vt 2 63))) rfl h0)
theorem ar166{a:Nat}:(¬(((a:Nat):Int)<((((a:Nat):Int)-(1:Int))+(1:Int)))):=(Y2 (Zd (Xp Zu (Xb (Yl Zu Xx) Xx)) Ho) rfl)
theorem ar167{a:Nat}(h0:(((a:Nat):Int)<((2:Int)^62))):(((-((2:Int)^63))<=((((a:Nat):Int)-(1:Int))+(1:Int)))/\(((((a:Nat):Int)-(1:Int))+(1:Int))<((2:Int)^63))):=⟨(Y2 (Yv (Wj (Vt 2 63)) (Xb (Yl Zu Xx) Xx)) rfl),(Y2 (Zd (Xp Zu (Vt 2 62)) (J6 (Xb (Yl Zu Xx) Xx) (Vt 2 63))) rfl h0)⟩
theorem ar168{a b:Nat}(h0:(a<=b))(h1:(((a:Nat):Int)<((2:Int)^62))):(¬((Z6u ((((a:Nat):Int)-(1:Int))+(1:Int)))>b)):=by simp at *;omega
theorem ar169{a:Nat}(h0:(((a:Nat):Int)<((2:Int)^62))):(¬(((((a:Nat):Int)-(1:Int))+(1:Int))<(0:Int))):=(Y2 (Zd (Xp (Xb (Yl Zu Xx) Xx) X0) Ho) rfl)
theorem ar170{a b:Nat}(h0:((a+1)<=b)):((a+1)<=(b+1)):=Nat.le_add_right_of_le h0
theorem ar171{a b:Nat}(h0:((a+1)<=b)):(a<=(b+1)):=(Zw (Zd (Zb (Y0 Z0) Z1) (Zh Z0 (Y0 Z1))) rfl h0)
theorem ar172{a b c:Nat}(h0:(b<(c+a)))(h1:(c<=b)):(((((a:Nat):Int)-(1:Int))-(((b-c):Nat):Int))=((((a-1)-(b-c)):Nat):Int)):=((Int.natCast_sub (Z13 (Nat.sub_lt_left_of_lt_add h1 h0))).trans (congrArg (· - _) (Int.natCast_sub (Nat.pos_of_ne_zero fun e=>by subst e;exact Z1p h1 h0)))).symm
theorem ar173{a b c:Nat}(h0:(((((a:Nat):Int)-(1:Int))-(((b-c):Nat):Int))=((((a-1)-(b-c)):Nat):Int))):(((a-1)-(b-c))<a):=(Ye (Ze (-1) (Yr (Yl (Yl Zu Xx) Xm) Qt) (Zy Za Z0)) rfl h0)
theorem ar174{a b c:Nat}(h0:(a<=16777216))(h1:(b<(c+a)))(h2:(c<=b))(h3:(((((a:Nat):Int)-(1:Int))-(((b-c):Nat):Int))=((((a-1)-(b-c)):Nat):Int))):(((((a-1)-(b-c)):Nat):Int)<((2:Int)^63)):=by lia
theorem ar175{a b:Nat}(h0:(a<=b)):(a<=(b+1)):=(Zw (Zd (Zb Z0 Z1) (Zh Z0 (Y0 Z1))) rfl h0)
theorem ar176{a b c:Nat}(h0:(a<(b+c)))(h1:(((((c:Nat):Int)-(1:Int))-(((a-b):Nat):Int))=((((c-1)-(a-b)):Nat):Int))):((a+1)<=(b+c)):=ar24 h0 rfl
theorem ar177{a b c:Nat}(h0:(c<=b))(h1:(((((a:Nat):Int)-(1:Int))-(((b-c):Nat):Int))=((((a-1)-(b-c)):Nat):Int))):((((((a-1)-(b-c)):Nat):Int)-(1:Int))=((((a:Nat):Int)-(1:Int))-((((b+1)-c):Nat):Int))):=(Ro (Ze (-1) (Yr (Yl (Yl Zu Xx) Xm) Qt) (Ze (-1) (Zj (Z8 Z1 Zp) X4) (Zd (Zj (Z8 Vh Zp) (Y0 X4)) (K6 (Yl Qt Xx) (Yl (Yl Zu Xx) (Xh Vh)))))) rfl h1 (Z1u (Zw (Zd (Zb Z0 Z1) (Zh Z0 Z1)) rfl h0)) (Z1u (Zw (Zd (Zb Z0 Z1) (Zh Z0 (Y0 Z1))) rfl h0)))
theorem ar178{a b:Nat}(h0:(b<=(b+a))):(((((a:Nat):Int)-(1:Int))-((((b+a)-b):Nat):Int))=(-(1:Int))):=(Ye (Ze (-1) (Zj (Z8 Z0 Z1) (Z8 Z1 Za)) (K6 (Yl (Yl Qt Xx) Zu) (Wj Xx))) rfl (Z1u (Zw (Zh Z0 (Z8 Z0 Z1)) rfl)))
theorem ar179{a b c:Nat}(h0:(a<(b+c)))(h1:(¬(a<b))):((a-b)<c):=(Xw (Zd (Zq Z0 (Z8 Z1 Za)) (Zd (Zj (Z8 Zp Z1) Z0) (Zy Zp Za))) rfl h0 (Z1u (Zw (Zd (K7 Z0 Z1) (Zh Z1 Z0)) rfl h1)))
theorem ar180{a b c d:Nat}(h0:(a=(c+d)))(h1:(¬(b<(c+d)))):(a<=b):=(Xw (Zd (Zj Z0 (Z8 Z1 Za)) (Zd (K7 Zp (Z8 Z1 Za)) (Zh Z0 Zp))) rfl h0 h1)
theorem ar181{a b c:Nat}(h0:(¬(c<(a+b)))):((a+b)<=c):=ar81 h0
theorem ar182{a b c:Nat}(h0:(((c+a)+1)<=b)):(a<=b):=(Ye (Zd (Zb (Y0 (Z8 Z0 Z1)) Za) (Zh Z1 Za)) rfl h0)
theorem ar183{a b c:Nat}(h0:(((a+b)+1)<=c)):((a+b)<=c):=Z11 h0
theorem ar184{a b:Nat}:(a<=(a+b)):=(Zw (Zh Z0 (Z8 Z0 Z1)) rfl)
theorem ar185{a b c:Nat}(h0:(((a+c)+1)<=b)):((a+1)<=b):=(Ye (Zd (Zb (Y0 (Z8 Z0 Z1)) Za) (Zh (Y0 Z0) Za)) rfl h0)
theorem ar186{a b c:Nat}(h0:((a+b)<c)):(((a+b)+1)<=c):=Z1z h0
theorem ar187{a b c d:Nat}(h0:(a=b))(h1:(((c+b)+1)<=d))(h2:(d=16777216)):(((a:Nat):Int)<((2:Int)^63)):=by lia
theorem ar188{a b c d e:Nat}(h0:(b=d))(h1:(((e+d)+1)<=c))(h2:(c=16777216))(h3:(a=e)):(((a+b)+1)<=c):=(Q6 (Zd (Zj Z0 Z1) (Zd (Zb (Y0 (Z8 Za Z1)) Zp) (Zd (Zj X4 Za) (Zh (Y0 (Z8 X4 Z0)) Zp)))) rfl h0 h1 h3)
theorem ar189{a b:Nat}(h0:(a<=b)):(a<(b+1)):=Z1e h0
theorem ar190{a b:Nat}(h0:(a<(b+1))):(a<=b):=Z0z h0
theorem ar191{a b c:Nat}(h0:(a<=c))(h1:(b<=a)):((a-b)<=c):=(Xw (Zd (Zb Z0 Z1) (Zd (Zj (Z8 Za Zp) Z0) (Zh Za Z1))) rfl h0 (Z1u (Zw (Zd (Zb Z0 Z1) (Zh Z0 Z1)) rfl h1)))
theorem ar192{a b:Nat}(h0:(a<=b)):((a+(b-a))=b):=Nat.add_sub_of_le h0
theorem ar193{a b c:Nat}(h0:(b<=a))(h1:(¬(b<=c))):((((a+1)-b)+c)<=a):=Z0z (Z19 (Nat.add_lt_add_left (Z1b h1) _) (Z1u (Z15 h0)))
theorem ar194{a b c:Nat}(h0:(a<=b)):((a+(((b+1)-a)+c))=((b+1)+c)):=(Xw (Zd (Zj (Z8 Z0 Z1) (Y0 Za)) (J9 (Z8 Z1 (Z8 Z0 Zp)) (Z8 (Y0 Za) Zp))) rfl (Z1u (Zw (Zd (Zb Z0 Z1) (Zh Z0 (Y0 Z1))) rfl h0)))
theorem ar195{a b:Nat}(h0:(a<(b*32))):((a/32)<b):=by lia
theorem ar196{a b:Nat}(h0:(a<=b)):((13+a)<=(b+13)):=(Zw (Zd (Zb Z0 Z1) (Zh (Z8 (Zo 13) Z0) (Z8 Z1 (Zo 13)))) rfl h0)
theorem ar197{a b:Nat}(h0:((a+9)<=b)):(((a+9)<=b)/\(((a+9)<=(a+9))/\(a<=(a+9)))):=by simp at *;omega
theorem ar198{a b:Nat}(h0:(a<=b))(h1:(¬((a+9)<=b))):((a<=b)/\((a<=(a+9))/\(a<=a))):=⟨(Zw (Zd (Zb Z0 Z1) (Zh Z0 Z1)) rfl h0),⟨(Y2 (Zh Z0 (Z8 Z0 (Zo 9))) rfl),(Y2 (Zh Z0 Z0) rfl)⟩⟩
theorem ar199{a b c d e:Nat}(h0:((c<=b)/\((c<=(d+9))/\(d<=c))))(h1:((a+e)=c)):(a<=b):=(Xw (Zd (Zb Z0 Z1) (Zd (Zj (Z8 Za Zp) Z0) (Zh Za Z1))) rfl h0.1 h1)
theorem ar200{a:Int}(h0:((a%((2:Int)^64))<((2:Int)^64))):((Z6u (a%((2:Int)^64)))<(2^64)):=by simp at *;omega
theorem ar201{a b c:Nat}(h0:((b<=c)/\((b<=(a+9))/\(a<=b)))):((a+(b-a))=b):=(Ye (Zd (Zj (Z8 Z0 Z1) Za) (J9 (Z8 Z1 Z0) Za)) rfl (Z1u (Zw (Zd (Zb Z0 Z1) (Zh Z0 Z1)) rfl h0.2.2)))
theorem ar202{a:Nat}(h0:(a=0)):(¬(a>0)):=Std.Rxo.size_eq_zero_iff_not_le.mp h0
theorem ar203{a b c d:Nat}(h0:((b+c)=d))(h1:(a<=b)):(a<=(b+1)):=ar175 h1
theorem ar204{a b c:Nat}(h0:((a+b)=c))(h1:(0<b)):(((a+1)+(b-1))=c):=(Xw (Zd (Zj (Z8 Z0 Z1) Za) (Zd (Zj (Y0 Zp) Z1) (J9 (Z8 (Y0 Z0) Zp) Za))) rfl h0 (Z1u (Y2 (Zd (Zq Wt Z0) (Zh Yi Z0)) rfl h1)))
theorem ar205{a:Nat}(h0:(¬(0<a))):(a=0):=Z0s h0
theorem ar206{a b:Nat}(h0:(a=(b+1))):(0<a):=Z1c h0
theorem ar207{a b:Nat}(h0:(a=(b+1))):((a-1)=b):=Eq.symm (Nat.eq_sub_of_add_eq (Eq.symm h0))
theorem ar208{a b c d e:Nat}(h0:((b<=c)/\((b<=(d+9))/\(d<=b))))(h1:((e+a)=b))(h2:(d<=e)):((a+1)<=(10*(0+1))):=(Xw (Zd (Zb Z0 (Z8 Z1 (Zo 9))) (Zd (Zj (Z8 Za Zp) Z0) (Zd (Zb Z1 Za) (Zh (Y0 Zp) (Zm 10 (Y0 Wt)))))) rfl h0.2.1 h1 h2)
theorem ar209{a b c d e f g:Nat}(h0:(a<=(10*(c+1))))(h1:(d=e))(h2:((f<=g)/\((f<=(e+9))/\(e<=f))))(h3:((d+b)=f)):((a+(b+1))<=(10*((c+1)+1))):=(Ro (Zd (Zb Z0 (Zm 10 (Y0 Z1))) (Ze (-1) (Zj Za Zp) (Zd (Zb X4 (Z8 Zp (Zo 9))) (Zd (Zj (Z8 Za Vh) X4) (Zh (Z8 Z0 (Y0 Vh)) (Zm 10 (Y0 (Y0 Z1)))))))) rfl h0 h1 h2.2.1 h3)
theorem ar210{a b:Nat}(h0:(a<=b))(h1:((b+1)<=a)):False:=(Zw (Zd (Zb Z0 Z1) (Zd (Zb (Y0 Z1) Z0) Ho)) rfl h0 h1)
theorem ar211{a b c:Nat}(h0:(a=c))(h1:((c*5)<(b*3))):(a<=b):=by lia
theorem ar212{a b c:Nat}(h0:(c<=(b+13)))(h1:(a<=(10*(c+1)))):(a<(10*(b+15))):=(Ye (Ze 10 (Zb Z0 (Z8 Z1 (Zo 13))) (Zd (Zb Za (Zm 10 (Y0 Z0))) (Zy Za (Zm 10 (Z8 Z1 (Zo 15)))))) rfl h0 h1)
theorem ar213{a b:Nat}(h0:(a<b)):(a<(b+1)):=Nat.lt_add_right 1 h0
theorem ar214{a b:Nat}(h0:((b-a)<=0))(h1:(a<=b)):(a=b):=(Z0v (Zw (Zd (Zb Z0 Z1) (Zh Z0 Z1)) rfl h1) (Ye (Zd (Zb Z0 Wt) (Ze (-1) (Zj (Z8 Z0 Z1) Za) (Zh Za Z1))) rfl h0 (Z1u (Zw (Zd (Zb Z0 Z1) (Zh Z0 Z1)) rfl h1))))
theorem ar215{a b c:Nat}(h0:(b<=c))(h1:(a<b)):(((a+b)/2)<c):=by lia
theorem ar216{a b c:Nat}(h0:((a-b)<=(c+1)))(h1:(b<a)):((a-(((b+a)/2)+1))<=c):=Z16 (Nat.sub_le_sub_left (Z20 ((Nat.le_div_iff_mul_le (by decide)).mpr (Nat.mul_two b▸Nat.add_le_add_left (Z0y h1) b))) a) (Nat.pred_le_pred h0)
theorem ar217{a b:Nat}(h0:(a<b)):((((a+b)/2)+1)<=b):=by omega
theorem ar218{a b c:Nat}(h0:((b-a)<=(c+1)))(h1:(a<b)):((((a+b)/2)-a)<=c):=Z1w (Z0z (Z1a (Nat.div_lt_of_lt_mul (show a+b<2*b from(Nat.two_mul b).symm▸Z0p h1 b)) (Nat.succ_add c a▸Z0t h0)))
theorem ar219{a b:Nat}(h0:(a<b)):(a<=((a+b)/2)):=by lia
theorem ar220{a b c:Nat}(h0:(b<=c))(h1:(a<b)):(((a+b)/2)<=c):=by omega
theorem ar221{a b c:Nat}(h0:(¬(c<a)))(h1:(c<b)):(a<=b):=(Ye (Zd (K7 Z0 Z1) (Zd (Zq Z0 Za) (Zh Z1 Za))) rfl h0 h1)
theorem ar222{a:Nat}:((a-0)<=a):=Z1v a 0
theorem ar223{a b c:Nat}(h0:(a<=b))(h1:(a<c))(h2:(c<b)):(a<b):=Z1h h1 h2
theorem ar224{a b c d e:Nat}(h0:(a<=c))(h1:(a<b))(h2:(b<c))(h3:(d<=e))(h4:(e<d)):(a=b):=by lia
theorem ar225{a b c:Nat}(h0:(c<c)):(a=b):=by lia
theorem ar226{a b:Nat}(h0:(a<=b))(h1:(b≠a)):(a<b):=Z18 h0 (id (Ne.symm h1))
theorem ar227{a b c d:Nat}(h0:(c=b))(h1:((a<=d)/\((a<=(b+9))/\(b<=a)))):(0<((a+1)-b)):=Z1x (Z1e h1.2.2)
theorem ar228{a b c d:Nat}(h0:((a+(b+1))<=c))(h1:(d=(c+1))):(((a+1)+b)<=c):=(Ye (Zd (Zb (Z8 Z0 (Y0 Z1)) Za) (Zh (Z8 (Y0 Z0) Z1) Za)) rfl h0)
theorem ar229{a b c:Nat}(h0:(c=(b+1)))(h1:(a<c)):(a<=b):=(Ye (Zd (Zj Z0 (Y0 Z1)) (Zd (Zq Za Z0) (Zh Za Z1))) rfl h0 h1)
theorem ar230{a b c d:Nat}(h0:((a+(b+1))<=c))(h1:(d=(c+1)))(h2:(a=d)):False:=(Xw (Zd (Zb (Z8 Z0 (Y0 Z1)) Za) (Ze (-1) (Zj Zp (Y0 Za)) (Ze (-1) (Zj Z0 Zp) (Xn 1 Ho)))) rfl h0 h1 h2)
theorem ar231{a b c:Nat}(h0:(c=(b+1)))(h1:(a<=(b+13))):(a<(b+15)):=(Zw (Zd (Zb Z0 (Z8 Z1 (Zo 13))) (Zy Z0 (Z8 Z1 (Zo 15)))) rfl h1)
theorem ar232{a b c:Nat}(h0:(b=(c+1)))(h1:(a<(c+1))):(a<b):=Z19 h1 (Eq.symm h0)
theorem ar233{a b c:Nat}(h0:(c=(a+1)))(h1:(¬(b<(a+1)))):((a+1)<=b):=ar181 h1
theorem ar234{a b c:Nat}(h0:(a=(c+1)))(h1:(¬(b<(c+1)))):(a<=b):=(Ye (Zd (Zj Z0 (Y0 Z1)) (Zd (K7 Za (Y0 Z1)) (Zh Z0 Za))) rfl h0 h1)
theorem ar235{a:Nat}(h0:(a<300))(h1:((a*5)<(7*3)))(h2:((7*3)<=((a+1)*5))):(((7=7)/\(a=4))\/(((7=31)/\(a=18))\/((7=127)/\(a=76)))):=by lia
theorem ar236{a:Nat}(h0:(a<300))(h1:((a*5)<(31*3)))(h2:((31*3)<=((a+1)*5))):(((31=7)/\(a=4))\/(((31=31)/\(a=18))\/((31=127)/\(a=76)))):=by lia
theorem ar237{a:Nat}(h0:(a<300))(h1:((a*5)<(127*3)))(h2:((127*3)<=((a+1)*5))):(((127=7)/\(a=4))\/(((127=31)/\(a=18))\/((127=127)/\(a=76)))):=by lia
theorem ar238{a:Nat}(h0:(a<300))(h1:((511*3)<=((a+1)*5))):(((511=7)/\(a=4))\/(((511=31)/\(a=18))\/((511=127)/\(a=76)))):=by omega
theorem ar239{a b:Nat}(h0:((a*5)<(b*3))):((a+0)<=b):=ar211 rfl h0
theorem ar240{a b c d e:Nat}(h0:(a<300))(h1:(c=b))(h2:(d=(a+1)))(h3:(e=(a+1)))(h4:((a*5)<(b*3))):((a+1)<=b):=by lia
theorem ar241{a:Nat}(h0:((a-1)=7)):(a<=16777216):=by simp at *;omega
theorem ar242{a:Nat}(h0:((a-1)=31)):(a<=16777216):=by lia
theorem ar243{a:Nat}(h0:((a-1)=127)):(a<=16777216):=by lia
theorem ar244{a:Nat}(h0:((a-1)=511)):(a<=16777216):=by lia
theorem ar245{a b c d e:Nat}(h0:(a<300))(h1:(c=(a+1)))(h2:(d=(a+1)))(h3:(((a+1)*5)<((b-1)*3)))(h4:(e=(a+1))):((a+1)<=(b-1)):=by lia
theorem ar246{a b c d:Nat}(h0:(c=(a+1)))(h1:(d=(a+1)))(h2:(¬((b*3)<=((a+1)*5)))):(¬(((a+1)*5)≥(b*3))):=Not.imp h2 fun a=>a
theorem ar247{a b c d:Nat}(h0:(c=(a+1)))(h1:(d=(a+1)))(h2:(¬((b*3)<=((a+1)*5)))):(((a+1)*5)<(b*3)):=Z1b h2
theorem ar248{a b c:Nat}(h0:(a<300))(h1:(b=a))(h2:(c=(a+1))):((a+1)<=16777216):=by lia
theorem ar249{a b c:Nat}(h0:(a<300))(h1:(b=a))(h2:(c=(a+1))):(a<4096):=(Y2 (Zd (Zq Z0 (Zo 300)) (Zy Z0 (Zo 4096))) rfl h0)
theorem ar250{a b c:Nat}(h0:(c<(b+1)))(h1:(a<c)):(a<b):=(Ye (Zd (Zq Z0 (Y0 Z1)) (Zd (Zq Za Z0) (Zy Za Z1))) rfl h0 h1)
theorem ar251{a b c:Nat}(h0:(c<(10*b)))(h1:(a<c)):(a<(10*b)):=Z1h h1 h0
theorem ar252{a b:Nat}(h0:(a<300))(h1:(b=a)):((a+1)<=16777216):=ar248 h0 h1 rfl
theorem ar253{a:Nat}(h0:(a=7)):((10*(a+15))<=5260):=(Y2 (Ze 10 (Zj Z0 (Zo 7)) (Zh (Zm 10 (Z8 Z0 (Zo 15))) (Zo 5260))) rfl h0)
theorem ar254{a:Nat}(h0:(a=31)):((10*(a+15))<=5260):=(Y2 (Ze 10 (Zj Z0 (Zo 31)) (Zh (Zm 10 (Z8 Z0 (Zo 15))) (Zo 5260))) rfl h0)
theorem ar255{a:Nat}(h0:(a=127)):((10*(a+15))<=5260):=(Y2 (Ze 10 (Zj Z0 (Zo 127)) (Zh (Zm 10 (Z8 Z0 (Zo 15))) (Zo 5260))) rfl h0)
theorem ar256{a:Nat}(h0:(a=511)):((10*(a+15))<=5260):=(Y2 (Ze 10 (Zj Z0 (Zo 511)) (Zh (Zm 10 (Z8 Z0 (Zo 15))) (Zo 5260))) rfl h0)
theorem ar257{a b:Nat}(h0:(a<(10*b)))(h1:((10*b)<=5260)):(a<100000):=(Zw (Zd (Zq Z0 (Zm 10 Z1)) (Zd (Zb (Zm 10 Z1) (Zo 5260)) (Zy Z0 (Zo 100000)))) rfl h0 h1)
theorem ar258{a b:Nat}(h0:(a<=b)):(¬(a>b)):=Nat.not_lt.mpr h0
theorem ar259{a b c:Nat}(h0:((a-b)=(c+1)))(h1:(b<=a)):((a-(b+1))=c):=congrArg Nat.pred h0
theorem ar260{a b c:Nat}(h0:((b-a)=(c+1)))(h1:(a<=b)):((a+1)<=b):=(Xw (Ze (-1) (Zj Z0 (Y0 Z1)) (Zd (Zj (Z8 Z0 Za) Zp) (Zh (Y0 Za) Zp))) rfl h0 (Z1u (Zw (Zd (Zb Z0 Z1) (Zh Z0 Z1)) rfl h1)))
theorem ar261{a:Nat}:((((a+1)+1)+1)<=(a+100)):=(Y2 (Zh (Y0 (Y0 (Y0 Z0))) (Z8 Z0 (Zo 100))) rfl)
theorem ar262{a:Nat}(h0:(a<=0)):(a=0):=Nat.eq_zero_of_le_zero h0
theorem ar263{a b:Nat}(h0:(a<=b))(h1:(b<a)):(a=0):=by lia
theorem ar264{a b c:Nat}(h0:(a<=(b+1)))(h1:(c<a)):((a-1)<=b):=Z1w h0
theorem ar266{a b:Nat}(h0:(b<=a))(h1:(0<b)):(0<a):=Z1a h1 h0
theorem ar267{a b c:Nat}(h0:(a<=b))(h1:(0<a))(h2:(c<0)):False:=Nat.not_succ_le_zero c h2
theorem Cm{a b:Nat}(h0:(a<=b))(h1:(¬(a=0))):((a-1)<b):=by lia
theorem ar269{a b c:Nat}(h0:(a<=b))(h1:(c<=b))(h2:(a<c)):(a<b):=ar13 h1 rfl rfl h2
theorem ar270{a b c:Nat}(h0:(a<=b))(h1:(¬(a=0)))(h2:(c<=b))(h3:(a<c)):((a-1)<a):=Nat.sub_one_lt h1
theorem ar271{a b c d e:Nat}(h0:(a<=b))(h1:(c<=b))(h2:(a<c))(h3:(d<(e+1)))(h4:(e<d)):False:=(Zw (Zd (Zq Z0 (Y0 Z1)) (Zd (Zq Z1 Z0) Ho)) rfl h3 h4)
theorem ar272{a b:Nat}(h0:(a<b)):(a<=(b-1)):=Z13 h0
theorem ar273{a:Nat}(h0:((a+1)<=a)):False:=by lia
theorem ar274{a b c d:Nat}(h0:(b=c))(h1:(d=a))(h2:(a<c)):(a<b):=ar106 h2 (Eq.symm h0)
theorem ar275{a b c d:Nat}(h0:(c=a))(h1:(a<d))(h2:(b=d)):(a<b):=(Ye (Zd (Zq Z0 Z1) (Ze (-1) (Zj Za Z1) (Zy Z0 Za))) rfl h1 h2)
theorem ar276{a b:Nat}(h0:(b=a)):(¬((a+1)=0)):=Nat.add_one_ne_zero a
theorem ar277{a b c d:Nat}(h0:(a=c))(h1:(b<=c))(h2:(d=b))(h3:(¬(b<c))):(a<=b):=(Ye (Zd (Zj Z0 Z1) (Zd (K7 Za Z1) (Zh Z0 Za))) rfl h0 h3)
theorem ar278{a b c:Nat}(h0:(b=c))(h1:(a<c)):((min a b)=a):=(Zw (Zd (Zj Z0 Z1) (J9 Z0 Z1)) rfl (Z1j (Ye (Ze (-1) (Zj Z0 Z1) (Zd (Zq Za Z1) (Zh Za Z0))) rfl h0 h1)))
theorem ar279{a b c d:Nat}(h0:(b<=300))(h1:(c=b))(h2:(a<b))(h3:(d=a)):(a<300):=Z1a h2 h0
theorem ar280{a b c:Nat}(h0:(c=b))(h1:(a<b)):(a≠b):=Z1o h1
theorem ar281{a b c:Nat}(h0:((c+100)<b))(h1:(a<=(c+100))):(a<b):=Z17 h1 h0
theorem ar282{a b c:Nat}(h0:(a=b))(h1:(c<b))(h2:(c=b)):False:=(Zw (Zd (Zq Z0 Z1) (Ze (-1) (Zj Z0 Z1) Ho)) rfl h1 h2)
theorem ar283{a b:Nat}(h0:(b<=300))(h1:(a=b)):(((a:Nat):Int)<(9223372036854775808:Int)):=by lia
theorem ar284{a b c:Nat}(h0:(((a+(8*c))+100)<b)):((a+100)<b):=(Ye (Zd (Zq (Z8 (Z8 Z0 (Zm 8 Z1)) (Zo 100)) Za) (Zy (Z8 Z0 (Zo 100)) Za)) rfl h0)
theorem ar285{a b:Nat}(h0:(a<64))(h1:(b=a)):(a<=16777216):=ar125 h0 h1 h1
theorem ar307{a:Nat}:(a<=(a+4)):=(Y2 (Zh Z0 (Z8 Z0 Xi)) rfl)
theorem ar311{a:Nat}:(a<=(a+3)):=Z0u a 3
theorem ar315{a:Nat}:((a+1)<=(a+4)):=ar311
theorem ar324{a b c:Nat}(h0:(b<c))(h1:(c<=a)):(a≠b):=Ne.symm (ar44 h1 h0)
theorem ar325{a b c:Nat}(h0:(a<=c))(h1:(c<=b)):(a<=b):=Z16 h0 h1
theorem ar326{a b:Nat}(h0:(a<=b))(h1:(b<=a)):(a=b):=Z0v h0 h1
theorem ar327{a b c:Nat}(h0:((a-b)<(c+1)))(h1:(b<a)):((a-(b+1))<c):=show a-b-1<c from Nat.sub_lt_right_of_lt_add (Z1x h1) h0
theorem ar328{a:Nat}:((a-0)<(a+1)):=Nat.sub_lt_succ a 0
end Lay
namespace Lay
theorem nope{α:Type}{x:α}(e:none=some x):False:=nomatch e
theorem pair_of{α β:Type}{a b:α}{s t:β}(e:some (a,s)=some (b,t)):b=a/\t=s:=Prod.mk.inj (Z54 e.symm)
open Classical in
noncomputable def un{α β:Type}(f:α->β)(b:β):Option α:=if h : ∃ a,b=f a then some h.choose else none
theorem Zi{α β:Type}{f:α->β}{b:β}{a:α}(e:un f b=some a):b=f a:=by
 unfold un at e
 by_cases h : ∃ a,b=f a
 ·rw [dif_pos h] at e;exact h.choose_spec.trans (congrArg f (Z54 e))
 ·rw [dif_neg h] at e;exact(nope e).elim
theorem Ym{α β:Type}{f:α->β}{a:α}(i : ∀ x y,f x=f y->x=y):un f (f a)=some a:=by
 have h : ∃ x,f a=f x:=⟨a,rfl⟩
 unfold un
 rw [dif_pos h];exact congrArg some (i _ _ h.choose_spec.symm)
theorem Yc{α β:Type}{f:α->β}{b:β}(h : ∀ a,b≠f a):un f b=none:=dif_neg fun⟨a,e⟩=>h a e
theorem bs{α β:Type}{o:Option α}{f:α->Option β}{a:α}{r:Option β}(h:o=some a)(k:f a=r):o.bind f=r:=by subst h;exact k
theorem ors{α:Type}{x y:Option α}{a:α}(h:x=some a):x.or y=some a:=by subst h;rfl
theorem orn{α:Type}{x y r:Option α}(h:x=none)(k:y=r):x.or y=r:=by subst h;exact k
theorem bn{α β:Type}{o:Option α}{f:α->Option β}(h:o=none):o.bind f=none:=by subst h;rfl
inductive BindO{α β:Type}(o:Option α)(f:α->Option β)(b:β):Prop
 |mk (a:α) (h:o=some a) (k:f a=some b)
theorem ob{α β:Type}{o:Option α}{f:α->Option β}{b:β}(e:o.bind f=some b):BindO o f b:=by
 cases o with
 |none=>exact(nope e).elim
 |some a=>exact⟨a,rfl,e⟩
inductive IfO{β:Type}(p:Prop)(x:Option β)(b:β):Prop
 |mk (h:p) (k:x=some b)
theorem io{β:Type}{p:Prop}{_:Decidable p}{x:Option β}{b:β}(e:(if p then x else none)=some b):IfO p x b:=by
 by_cases h:p
 ·rw [if_pos h] at e;exact⟨h,e⟩
 ·rw [if_neg h] at e;exact(nope e).elim
theorem oro{α:Type}{x y:Option α}{a:α}(e:x.or y=some a):x=some a\/y=some a:=by
 cases x with
 |none=>exact .inr e
 |some b=>exact .inl e
noncomputable abbrev HM:=Addr->Option Obj
noncomputable abbrev RM:=Nat->Option Addr
noncomputable def Le{α β:Type}(f g:α->Option β):Prop := ∀ a o,f a=some o->g a=some o
theorem Le.refl{α β:Type}(f:α->Option β):Le f f:=fun _ _ e=>e
theorem Le.trans{α β:Type}{f g h:α->Option β}(a:Le f g)(b:Le g h):Le f h:=fun x o e=>b x o (a x o e)
structure Wd where
 prog:Program
 w:World
 K:Frag
 p:Program
 loose:List Str
 mg:Str->Option Value
 mb:Str->Option Value
noncomputable def Wd.Ok(W:Wd)(h:Heap):Prop:=W.K.In h/\TopRead W.p W.loose W.mg W.mb h
theorem Wd.Ok.keeps{W:Wd}{h h':Heap}(x:W.Ok h)(k:Le h.get? h'.get?):W.Ok h':=⟨x.1.keeps k,x.2.keeps k⟩
inductive V where
 |none|bool (b:Bool)|int (i:Int)|str (s:Str)
 |tup (xs:List V)|lst (xs:List V)|dct (kvs:List (Int×V))
 |ref (n:Nat)|val (v:Value)|rng (a b c:Int)
noncomputable def V.low(v:V):Bool:=@V.casesOn (fun _=>Bool) v true (fun _=>true) (fun _=>true) (fun _=>true) (fun _=>true) (fun _=>true) (fun _=>true) (fun n=>decide (n<100)) (fun _=>true) (fun _ _ _=>true)
noncomputable def Hw(o:Obj)(ys:Array Value):Prop:=o.cls = .type "tuple" /\∃ n,o.data = .seq ys n
noncomputable def LstIs(o:Obj)(ys:Array Value):Prop := ∃ n,o=⟨.type "list",none,.seq ys n,#[]⟩
theorem LstIs.cls{o:Obj}{ys:Array Value}(h:LstIs o ys):o.cls = .type "list" :=by obtain⟨n,rfl⟩:=h;rfl
theorem LstIs.data{o:Obj}{ys:Array Value}(h:LstIs o ys) : ∃ n,o.data = .seq ys n:=by obtain⟨n,rfl⟩:=h;exact⟨n,rfl⟩
noncomputable abbrev Gq(es:Array DictEntry)(n:Nat):Obj:=⟨.type "dict",none,.dict es n,#[]⟩
noncomputable def Ent(W:Wd){K:Type} [DecidableEq K](knd:KeyKind W.prog W.w K)(es:Array DictEntry)(kvs:List (K×Value)):Prop :=
 KeysOf knd es/\Pairs knd es.toList kvs/\(kvs.map (·.1)).Nodup
mutual
def VR(W:Wd)(ζ:HM)(ρ:RM):V->Value->Prop
 |.none,x=>x = .none
 |.bool b,x=>x = .bool b
 |.int i,x => ∃ t,x = .int i t
 |.str s,x => ∃ t,x = .str s t
 |.tup xs,x => ∃ a o ys,x = .ref a/\ζ a=some o/\Hw o ys/\VRs W ζ ρ xs ys.toList
 |.lst xs,x => ∃ a o ys,x = .ref a/\ζ a=some o/\LstIs o ys/\VRs W ζ ρ xs ys.toList
 |.dct kvs,x => ∃ a es n kys,x = .ref a/\ζ a=some (Gq es n)/\Ent W (intKind W.prog W.w) es kys/\VRp W ζ ρ kvs kys
 |.ref n,x => ∃ a,ρ n=some a/\x = .ref a
 |.val v,x=>x=v
 |.rng a b c,x => ∃ r t u w,x = .ref r/\ζ r=some {cls:=.type "range",data:=.fields #[.int a t,.int b u,.int c w]}
def VRs(W:Wd)(ζ:HM)(ρ:RM):List V->List Value->Prop
 | [],ys=>ys = []
 |x::xs,ys => ∃ y r,ys=y::r/\x.low=true/\VR W ζ ρ x y/\VRs W ζ ρ xs r
def VRp(W:Wd)(ζ:HM)(ρ:RM):List (Int×V)->List (Int×Value)->Prop
 | [],ys=>ys = []
 |(k,x)::xs,ys => ∃ y r,ys=(k,y)::r/\x.low=true/\VR W ζ ρ x y/\VRp W ζ ρ xs r
end
noncomputable def Ko(ρ ρ':RM):Prop := ∀ n a,n<100->ρ n=some a->ρ' n=some a
theorem Le.low{ρ ρ':RM}(h:Le ρ ρ'):Ko ρ ρ':=fun n a _ e=>h n a e
mutual
theorem VR.lowMono{W:Wd}{ζ ζ':HM}{ρ ρ':RM}(hz:Le ζ ζ')(hr:Ko ρ ρ') : ∀ (v:V) (x:Value),v.low=true->VR W ζ ρ v x->VR W ζ' ρ' v x
 |.none,_,_,h=>h
 |.bool _,_,_,h=>h
 |.int _,_,_,h=>h
 |.str _,_,_,h=>h
 |.tup xs,_,_,h=>by
  refine(?_:Exists _)
  refine byC fun hG=>?_
  obtain⟨a,o,ys,e,hz',ho,hs⟩:=h
  refine hG ?_
  clear hG
  exact⟨a,o,ys,e,hz _ _ hz',ho,VRs.mono hz hr xs _ hs⟩
 |.lst xs,_,_,h=>by
  refine(?_:Exists _)
  refine byC fun hG=>?_
  obtain⟨a,o,ys,e,hz',ho,hs⟩:=h
  refine hG ?_
  clear hG
  exact⟨a,o,ys,e,hz _ _ hz',ho,VRs.mono hz hr xs _ hs⟩
 |.dct kvs,_,_,h=>by
  refine(?_:Exists _)
  refine byC fun hG=>?_
  obtain⟨a,es,n,kys,e,hz',hk,hs⟩:=h
  refine hG ?_
  clear hG
  exact⟨a,es,n,kys,e,hz _ _ hz',hk,VRp.mono hz hr kvs _ hs⟩
 |.ref n,_,hl,h=>by
  refine(?_:Exists _)
  obtain⟨a,e,hx⟩:=h
  exact⟨a,hr _ _ (of_decide_eq_true hl) e,hx⟩
 |.val _,_,_,h=>h
 |.rng _ _ _,_,_,h=>by
  refine(?_:Exists _)
  refine byC fun hG=>?_
  obtain⟨r,t,u,w,e,hz'⟩:=h
  refine hG ?_
  clear hG
  exact⟨r,t,u,w,e,hz _ _ hz'⟩
theorem VRs.mono{W:Wd}{ζ ζ':HM}{ρ ρ':RM}(hz:Le ζ ζ')(hr:Ko ρ ρ') : ∀ (v:List V) (x:List Value),VRs W ζ ρ v x->VRs W ζ' ρ' v x
 | [],_,h=>h
 |v::vs,_,h=>by
  refine(?_:Exists _)
  refine byC fun hG=>?_
  obtain⟨y,r,e,hl,h1,h2⟩:=h
  refine hG ?_
  clear hG
  exact⟨y,r,e,hl,VR.lowMono hz hr v y hl h1,VRs.mono hz hr vs r h2⟩
theorem VRp.mono{W:Wd}{ζ ζ':HM}{ρ ρ':RM}(hz:Le ζ ζ')(hr:Ko ρ ρ') : ∀ (v:List (Int×V)) (x:List (Int×Value)),VRp W ζ ρ v x->VRp W ζ' ρ' v x
 | [],_,h=>h
 |(k,v)::vs,_,h=>by
  refine(?_:Exists _)
  refine byC fun hG=>?_
  obtain⟨y,r,e,hl,h1,h2⟩:=h
  refine hG ?_
  clear hG
  exact⟨y,r,e,hl,VR.lowMono hz hr v y hl h1,VRp.mono hz hr vs r h2⟩
end
theorem VR.mono{W:Wd}{ζ ζ':HM}{ρ ρ':RM}(hz:Le ζ ζ')(hr:Le ρ ρ'){v:V}{x:Value}(h:VR W ζ ρ v x):VR W ζ' ρ' v x:=by
 cases v with
 |ref n=>refine(?_:Exists _);obtain⟨a,e,hx⟩:=h;exact⟨a,hr _ _ e,hx⟩
 |_=>exact VR.lowMono hz hr.low _ _ rfl h
noncomputable def VRa(W:Wd)(ζ:HM)(ρ:RM):List V->List Value->Prop
 | [],ys=>ys = []
 |x::xs,ys => ∃ y r,ys=y::r/\VR W ζ ρ x y/\VRa W ζ ρ xs r
theorem VRa.mono{W:Wd}{ζ ζ':HM}{ρ ρ':RM}(hz:Le ζ ζ')(hr:Le ρ ρ') : ∀ {v:List V} {x:List Value},VRa W ζ ρ v x->VRa W ζ' ρ' v x
 | [],_,h=>h
 |_::_,_,hH=>by obtain⟨y,r,e,h1,h2⟩:=hH;exact⟨y,r,e,h1.mono hz hr,VRa.mono hz hr h2⟩
theorem VRs.toA{W:Wd}{ζ:HM}{ρ:RM} : ∀ {v:List V} {x:List Value},VRs W ζ ρ v x->VRa W ζ ρ v x
 | [],_,h=>h
 |_::_,_,h=>by obtain⟨y,r,e,_,h1,h2⟩:=h;exact⟨y,r,e,h1,h2.toA⟩
theorem VRa.toS{W:Wd}{ζ:HM}{ρ:RM} : ∀ {v:List V} {x:List Value},VRa W ζ ρ v x->v.all V.low=true->VRs W ζ ρ v x
 | [],_,h,_=>h
 |_::_,_,hH,hl=>by
  refine byC fun hG=>?_
  obtain⟨y,r,e,h1,h2⟩:=hH
  refine hG ?_
  clear hG
  simp only [List.all_cons,Z5q] at hl
  refine(?_:Exists _);exact⟨y,r,e,hl.1,h1,h2.toS hl.2⟩
theorem VRs.length{W:Wd}{ζ:HM}{ρ:RM} : ∀ {v:List V} {x:List Value},VRs W ζ ρ v x->x.length=v.length
 | [],_,h=>by change _=_ at h;subst h;rfl
 |_::_,_,h=>by obtain⟨y,r,rfl,_,_,h2⟩:=h;simp [h2.length]
theorem VRa.length{W:Wd}{ζ:HM}{ρ:RM} : ∀ {v:List V} {x:List Value},VRa W ζ ρ v x->x.length=v.length
 | [],_,h=>by change _=_ at h;subst h;rfl
 |_::_,_,hH=>by obtain⟨y,r,e,_,h2⟩:=hH;subst e;simp [h2.length]
theorem VRs.get{W:Wd}{ζ:HM}{ρ:RM} : ∀ {v:List V} {x:List Value},VRs W ζ ρ v x->∀ (i:Nat) (u:V),v[i]?=some u->∃ y,x[i]?=some y/\u.low=true/\VR W ζ ρ u y
 | [],_,_,i,u,e=>by simp at e
 |a::r,_,h,i,u,e=>by
  refine byC fun hG=>?_
  obtain⟨y,r',rfl,hl,h1,h2⟩:=h
  refine hG ?_
  clear hG
  cases i with
  |zero=>simp at e;subst e;exact⟨y,by simp,hl,h1⟩
  |succ i=>simp at e;obtain⟨z,hz⟩:=h2.get i u e;exact⟨z,by simpa using hz⟩
theorem VRs.append{W:Wd}{ζ:HM}{ρ:RM} : ∀ {v v':List V} {x x':List Value},VRs W ζ ρ v x->VRs W ζ ρ v' x'->VRs W ζ ρ (v++v') (x++x')
 | [],_,_,_,h,h'=>by change _=_ at h;subst h;exact h'
 |a::r,_,_,_,h,h'=>by
  refine(?_:Exists _)
  refine byC fun hG=>?_
  obtain⟨y,r',rfl,hl,h1,h2⟩:=h
  refine hG ?_
  clear hG
  exact⟨y,_,rfl,hl,h1,h2.append h'⟩
theorem VRs.one{W:Wd}{ζ:HM}{ρ:RM}{v:V}{x:Value}(hl:v.low=true)(h:VR W ζ ρ v x):VRs W ζ ρ [v] [x]:=by
 refine(?_:Exists _);exact⟨x,[],rfl,hl,h,rfl⟩
theorem VRs.snoc{W:Wd}{ζ:HM}{ρ:RM}{v:List V}{x:List Value}{u:V}{y:Value}(h:VRs W ζ ρ v x)(hl:u.low=true)(hy:VR W ζ ρ u y):VRs W ζ ρ (v ++ [u]) (x ++ [y]):=h.append (.one hl hy)
theorem VRs.reverse{W:Wd}{ζ:HM}{ρ:RM} : ∀ {v:List V} {x:List Value},VRs W ζ ρ v x->VRs W ζ ρ v.reverse x.reverse
 | [],_,h=>by change _=_ at h;subst h;rfl
 |a::r,_,h=>by
  refine byC fun hG=>?_
  obtain⟨y,r',rfl,hl,h1,h2⟩:=h
  refine hG ?_
  clear hG
  simp only [Z4q]
  exact h2.reverse.snoc hl h1
theorem VRs.take{W:Wd}{ζ:HM}{ρ:RM} : ∀ {v:List V} {x:List Value},VRs W ζ ρ v x->∀ n,VRs W ζ ρ (v.take n) (x.take n)
 | [],_,h,n=>by change _=_ at h;subst h;cases n<;>rfl
 |a::r,_,h,0=>rfl
 |a::r,_,h,n+1=>by
  refine byC fun hG=>?_
  obtain⟨y,r',rfl,hl,h1,h2⟩:=h
  refine hG ?_
  clear hG
  refine(?_:Exists _)
  exact⟨y,_,rfl,hl,h1,h2.take n⟩
theorem VRs.drop{W:Wd}{ζ:HM}{ρ:RM} : ∀ {v:List V} {x:List Value},VRs W ζ ρ v x->∀ n,VRs W ζ ρ (v.drop n) (x.drop n)
 | [],_,h,n=>by change _=_ at h;subst h;cases n<;>rfl
 |a::r,_,h,0=>by simpa using h
 |a::r,_,h,n+1=>by
  refine byC fun hG=>?_
  obtain⟨y,r',rfl,hl,h1,h2⟩:=h
  refine hG ?_
  clear hG
  simp only [List.drop_succ_cons]
  exact h2.drop n
noncomputable def VRk{K:Type}(W:Wd)(ζ:HM)(ρ:RM):List (K×V)->List (K×Value)->Prop
 | [],ys=>ys = []
 |(k,x)::xs,ys => ∃ y r,ys=(k,y)::r/\x.low=true/\VR W ζ ρ x y/\VRk W ζ ρ xs r
theorem VRk_p{W:Wd}{ζ:HM}{ρ:RM} : ∀ {kvs:List (Int×V)} {kys:List (Int×Value)},VRk W ζ ρ kvs kys↔VRp W ζ ρ kvs kys
 | [],_=>Iff.rfl
 |(k,v)::r,_=>⟨fun h=>by obtain⟨y,r',e,hl,h1,h2⟩:=h;exact⟨y,r',e,hl,h1,VRk_p.mp h2⟩,fun h=>by obtain⟨y,r',e,hl,h1,h2⟩:=h;exact⟨y,r',e,hl,h1,VRk_p.mpr h2⟩⟩
theorem VRk.mono{K:Type}{W:Wd}{ζ ζ':HM}{ρ ρ':RM}(hz:Le ζ ζ')(hr:Ko ρ ρ') : ∀ {v:List (K×V)} {x:List (K×Value)},VRk W ζ ρ v x->VRk W ζ' ρ' v x
 | [],_,h=>h
 |(_,_)::_,_,hH=>by obtain⟨y,r,e,hl,h1,h2⟩:=hH;exact⟨y,r,e,hl,VR.lowMono hz hr _ _ hl h1,VRk.mono hz hr h2⟩
theorem VRk.keys{K:Type}{W:Wd}{ζ:HM}{ρ:RM} : ∀ {v:List (K×V)} {x:List (K×Value)},VRk W ζ ρ v x->x.map (·.1)=v.map (·.1)
 | [],_,h=>by change _=_ at h;subst h;rfl
 |(_,_)::_,_,hH=>by obtain⟨y,r,e,hl,h1,h2⟩:=hH;subst e;simp [h2.keys]
inductive O where
 |list (xs:List V)
 |idict (kvs:List (Int×V))
 |sdict (kvs:List (Str×V))
 |tdict (kvs:List (List Int×V))
 |attrs (kvs:List (Str×V))
 |inst (C:Addr) (d:Nat)
noncomputable def TKeys(W:Wd)(ζ:HM)(ρ:RM):List (List Int×V)->List (List Int×Addr×Value)->Prop
 | [],ys=>ys = []
 |(k,x)::xs,ys => ∃ a y r ks o,ys=(k,a,y)::r/\ζ a=some o/\Hw o ks/\ItemsAre (intKind W.prog W.w) k ks.toList/\x.low=true/\VR W ζ ρ x y/\TKeys W ζ ρ xs r
theorem TKeys.mono{W:Wd}{ζ ζ':HM}{ρ ρ':RM}(hz:Le ζ ζ')(hr:Ko ρ ρ') : ∀ {v:List (List Int×V)} {x:List (List Int×Addr×Value)},TKeys W ζ ρ v x->TKeys W ζ' ρ' v x
 | [],_,h=>h
 |(_,_)::_,_,hH=>by obtain⟨a,y,r,ks,o,e,h0,ht,h1,hl,h2,h3⟩:=hH;exact⟨a,y,r,ks,o,e,hz _ _ h0,ht,h1,hl,VR.lowMono hz hr _ _ hl h2,h3.mono hz hr⟩
noncomputable def Y1{K:Type} [DecidableEq K]{α:Type}(kvs:List (K×α))(k:K):Option α:=(kvs.find? fun kv=>kv.1=k).map (·.2)
noncomputable def Y6{K:Type} [DecidableEq K]{α:Type}(kvs:List (K×α))(k:K)(v:α):List (K×α) :=
 if kvs.any (fun kv=>kv.1=k) then kvs.map (fun kv=>if kv.1=k then (kv.1,v) else kv) else kvs ++ [(k,v)]
theorem D8{K:Type} [DecidableEq K]{α:Type}(k:K):Y1 ([]:List (K×α)) k=none:=rfl
theorem Yx{K:Type} [DecidableEq K]{α:Type}(k':K)(v:α)(r:List (K×α))(k:K):Y1 ((k',v)::r) k=if k'=k then some v else Y1 r k:=by
 unfold Y1
 by_cases h:k'=k
 ·rw [List.find?_cons_of_pos (by exact decide_eq_true h),if_pos h];rfl
 ·rw [List.find?_cons_of_neg (by exact mt of_decide_eq_true h),if_neg h]
theorem N2{K:Type} [DecidableEq K]{α:Type}(a b:List (K×α))(k:K):Y1 (a++b) k=(Y1 a k).or (Y1 b k):=by
 unfold Y1
 rw [List.find?_append]
 cases a.find? (fun kv=>decide (kv.1=k))<;>rfl
theorem Xz{K:Type} [DecidableEq K]{α:Type}(kvs:List (K×α))(k:K):kvs.any (fun kv=>decide (kv.1=k))=(Y1 kvs k).isSome:=by
 induction kvs with
 |nil=>rfl
 |cons p r ih =>
  refine(congrArg (_ || ·) ih).trans ?_
  refine Eq.trans ?_ (congrArg Option.isSome (Yx p.1 p.2 r k)).symm
  change (decide (p.1=k)||_)=_
  by_cases h:p.1=k
  ·rw [if_pos h,decide_eq_true h];rfl
  ·rw [if_neg h,decide_eq_false h];rfl
theorem D7{K:Type} [DecidableEq K]{α:Type}(kvs:List (K×α))(k:K)(v:α)(x:K):Y1 (kvs.map fun kv=>if kv.1=k then (kv.1,v) else kv) x=if x=k then (Y1 kvs x).map (fun _=>v) else Y1 kvs x:=by
 induction kvs with
 |nil=>exact(ite_self (c:=x=k) none).symm
 |cons p r ih =>
  obtain⟨a,b⟩:=p
  rw [Z3s,Yx]
  by_cases q:a=k
  ·rw [if_pos q,Yx,ih]
   by_cases q':a=x
   ·rw [if_pos q',if_pos q',if_pos (q'.symm.trans q)];rfl
   ·rw [if_neg q',if_neg q']
  ·rw [if_neg q,Yx,ih]
   by_cases q':a=x
   ·rw [if_pos q',if_pos q',if_neg (fun e=>q (q'.trans e))]
   ·rw [if_neg q',if_neg q']
theorem Xe{K:Type} [DecidableEq K]{α:Type}(kvs:List (K×α))(k:K)(v:α)(x:K):Y1 (Y6 kvs k v) x=if x=k then some v else Y1 kvs x:=by
 unfold Y6
 rw [Xz]
 by_cases h:(Y1 kvs k).isSome=true
 ·rw [if_pos h,D7]
  by_cases q:x=k
  ·rw [if_pos q,if_pos q,q]
   cases e:Y1 kvs k with
   |none=>rw [e] at h;cases h
   |some _=>rfl
  ·rw [if_neg q,if_neg q]
 ·rw [if_neg h,N2,Yx,D8]
  by_cases q:x=k
  ·rw [if_pos q,if_pos q.symm,q]
   cases e:Y1 kvs k with
   |none=>rfl
   |some _=>rw [e] at h;exact absurd rfl h
  ·rw [if_neg q,if_neg (Ne.symm q),Option.or_none]
noncomputable def AttrsAre(W:Wd)(ζ:HM)(ρ:RM)(kvs:List (Str×V))(es:Array DictEntry):Prop :=
 StrKeys es/\UniqKeys es/\∀ x:Str,match Y1 kvs x with
  |.none=>nsFind es x = .none
  |.some v=>v.low=true/\∃ y,nsFind es x = .some y/\VR W ζ ρ v y
noncomputable def OR(W:Wd)(ζ:HM)(ρ:RM):O->Obj->Prop
 |.list xs,o => ∃ ys,LstIs o ys/\VRs W ζ ρ xs ys.toList
 |.idict kvs,o => ∃ es n kys,o=Gq es n/\Ent W (intKind W.prog W.w) es kys/\VRk W ζ ρ kvs kys
 |.sdict kvs,o => ∃ es n kys,o=Gq es n/\Ent W (strKind W.prog W.w) es kys/\VRk W ζ ρ kvs kys
 |.tdict kvs,o => ∃ es n kys,o=Gq es n/\es.toList=kys.map (entryOfKey (tupleKind (intKind W.prog W.w)))/\(kys.map (·.1)).Nodup/\TKeys W ζ ρ kvs kys
 |.attrs kvs,o => ∃ es n,o.data = .dict es n/\AttrsAre W ζ ρ kvs es
 |.inst C d,o=>d<100/\∃ dx,ρ d=some dx/\o=⟨.ref C,some dx,.plain,#[]⟩
theorem AttrsAre.mono{W:Wd}{ζ ζ':HM}{ρ ρ':RM}(hz:Le ζ ζ')(hr:Ko ρ ρ'){kvs:List (Str×V)}{es:Array DictEntry}(h:AttrsAre W ζ ρ kvs es):AttrsAre W ζ' ρ' kvs es:=by
 refine⟨h.1,h.2.1,fun x=>?_⟩
 have:=h.2.2 x
 cases e:Y1 kvs x with
 |none=>rw [e] at this;exact this
 |some v=>rw [e] at this;obtain⟨hl,y,h1,h2⟩:=this;exact⟨hl,y,h1,VR.lowMono hz hr _ _ hl h2⟩
theorem OR.mono{W:Wd}{ζ ζ':HM}{ρ ρ':RM}(hz:Le ζ ζ')(hr:Ko ρ ρ'){O:O}{o:Obj}(h:OR W ζ ρ O o):OR W ζ' ρ' O o:=by
 cases O with
 |list xs=>obtain⟨ys,e,h1⟩:=h;exact⟨ys,e,VRs.mono hz hr _ _ h1⟩
 |idict kvs=>obtain⟨es,n,kys,e,h1,h2⟩:=h;exact⟨es,n,kys,e,h1,h2.mono hz hr⟩
 |sdict kvs=>obtain⟨es,n,kys,e,h1,h2⟩:=h;exact⟨es,n,kys,e,h1,h2.mono hz hr⟩
 |tdict kvs=>obtain⟨es,n,kys,e,h1,h2,h3⟩:=h;exact⟨es,n,kys,e,h1,h2,h3.mono hz hr⟩
 |attrs kvs=>obtain⟨es,n,e,h1⟩:=h;exact⟨es,n,e,h1.mono hz hr⟩
 |inst C d=>obtain⟨hd,dx,e,h1⟩:=h;exact⟨hd,dx,hr _ _ hd e,h1⟩
structure SRel(W:Wd)(hY ζ:HM)(ρ:RM)(σ:Nat->Option O)(h:Heap):Prop where
 ok:W.Ok h
 kept:Le hY h.get?
 frozen:Le ζ h.get?
 fcls : ∀ a o,ζ a=some o->True
 slot : ∀ n O,σ n=some O->∃ a o,ρ n=some a/\h.get? a=some o/\OR W ζ ρ O o
 dom : ∀ n,σ n=none->ρ n=none
 inj : ∀ n m a,ρ n=some a->ρ m=some a->n=m
 offz : ∀ n a,ρ n=some a->ζ a=none
 offk : ∀ n a,ρ n=some a->hY a=none
 good : ∀ h':Heap,Le hY h'.get?->W.Ok h'
 sysr : ∀ n,ρ n≠some sysModules
 sysz:ζ sysModules=none
end Lay
open Lay.V renaming noConfusion→Z7i
local macro_rules | `(tactic| injection $e:ident) => `(tactic| first | exact (Lay.nope $e).elim | (obtain ⟨h1, h2⟩ := Lay.pair_of $e; clear $e; subst h1; subst h2) | cases $e:ident)
namespace Lay
structure St where
 loc:Nat->Option V
 hp:Nat->Option O
noncomputable def M(α:Type):=St->Option (α×St)
noncomputable def M.ret{α:Type}(a:α):M α:=fun s=>some (a,s)
noncomputable def M.andThen{α β:Type}(m:M α)(f:α->M β):M β:=fun s=>match m s with|none=>none|some (a,s')=>f a s'
noncomputable instance:Monad M where
 pure:=M.ret
 bind:=M.andThen
noncomputable def M.fail{α:Type}:M α:=fun _=>none
theorem M.bind_eq{α β:Type}(m:M α)(f:α->M β)(s:St):(m>>=f) s=match m s with|none=>none|some (a,s')=>f a s':=rfl
inductive Cf{α β:Type}(m:M α)(f:α->M β)(s:St)(r:β×St):Prop
 |mk (a:α) (s':St) (h1:m s=some (a,s')) (h2:f a s'=some r)
theorem Z6z{α β:Type}{m:M α}{f:α->M β}{s:St}{r:β×St}(h:(m>>=f) s=some r):Cf m f s r:=by
 rw [M.bind_eq] at h
 cases e:m s with
 |none=>rw [e] at h;injection h
 |some p=>obtain⟨a,s'⟩:=p;rw [e] at h;exact⟨a,s',e,h⟩
noncomputable def upd{β:Type}(f:Nat->Option β)(n:Nat)(b:Option β):Nat->Option β:=fun m=>if m=n then b else f m
theorem Z4{β:Type}(f:Nat->Option β)(n:Nat)(b:Option β):upd f n b n=b:=by simp [upd]
theorem Z5{β:Type}(f:Nat->Option β){n m:Nat}(b:Option β)(h:m≠n):upd f n b m=f m:=by simp [upd,h]
inductive Fl where
 |next|brk|cont
 |ret (v:V)
inductive Place where
 |loc (L:Addr) (x:Str)
 |cell (c:Addr)
noncomputable def Place.addr:Place->Addr
 |.loc L _=>L
 |.cell c=>c
noncomputable def Place.has(h:Heap):Place->Value->Prop
 |.loc L x,v => ∃ m,h.Ns L m/\m x=some v
 |.cell c,v=>h.IsCell c (some v)
noncomputable def Place.ok(h:Heap):Place->Prop
 |.loc L _ => ∃ m,h.Ns L m
 |.cell c => ∃ v,h.IsCell c v
structure Cx where
 W:Wd
 A:Around
 env:Env
 k:Nat
 B:Nat
 T:Nat
 pl:Nat->Option Place
 mid:Nat->Prop
structure Room(A:Around)(k:Nat):Prop where
 depth:A.depth+k<recursionLimit
 units:A.units+8*k+100<cLine
 handled:A.handled=none
structure Cx.Ok(C:Cx):Prop where
 room:Room C.A C.k
 kind:C.env.scope.kind = .function
 glob:C.env.globals=mainGlobals
 bins:C.env.builtins=builtinsNs
 bt:C.B<=C.T
 b100:100<=C.B
structure Rel(C:Cx)(hY ζ:HM)(ρ:RM)(st:St)(h:Heap):Prop extends SRel C.W hY ζ ρ st.hp h where
 fresh : ∀ n,C.T<=n->st.hp n=none
 mid : ∀ n,100<=n->n<C.B->st.hp n≠none->C.mid n
 var : ∀ i v,st.loc i=some v->∃ pl x,C.pl i=some pl/\pl.has h x/\VR C.W ζ ρ v x
 plok : ∀ i pl,C.pl i=some pl->pl.ok h
 ploff : ∀ i pl,C.pl i=some pl->ζ pl.addr=none/\hY pl.addr=none/\∀ n,ρ n≠some pl.addr
 plinj : ∀ i j pl,C.pl i=some pl->C.pl j=some pl->i=j
noncomputable def Nw(B:Nat)(h:Heap)(ρ:RM)(a:Addr):Prop:=h.get? a=none\/∃ n,B<=n/\ρ n=some a
structure Gr(B:Nat)(h:Heap)(ζ:HM)(ρ:RM)(h':Heap)(ζ':HM)(ρ':RM):Prop where
 zl:Le ζ ζ'
 rl : ∀ n a,n<B->ρ n=some a->ρ' n=some a
 zn : ∀ a o,ζ' a=some o->ζ a=some o\/Nw B h ρ a
 rn : ∀ n a,ρ' n=some a->ρ n=some a\/Nw B h ρ a
 dm : ∀ a,h.get? a≠none->h'.get? a≠none
theorem Gr.refl(B:Nat)(h:Heap)(ζ:HM)(ρ:RM):Gr B h ζ ρ h ζ ρ:=⟨Le.refl _,fun _ _ _ e=>e,fun _ _ e=>.inl e,fun _ _ e=>.inl e,fun _ e=>e⟩
theorem Gr.nw{B:Nat}{h h1 h2:Heap}{ζ ζ1 ζ2:HM}{ρ ρ1 ρ2:RM}(x:Gr B h ζ ρ h1 ζ1 ρ1)(y:Gr B h1 ζ1 ρ1 h2 ζ2 ρ2){a:Addr}(q:Nw B h1 ρ1 a):Nw B h ρ a :=
 q.elim (fun q=>.inl (Z5f fun q'=>x.dm a q' q)) fun q=>by
  obtain⟨m,hm,q⟩:=q
  exact(x.rn m a q).elim (fun q=>.inr ⟨m,hm,q⟩) id
theorem Gr.trans{B:Nat}{h h1 h2:Heap}{ζ ζ1 ζ2:HM}{ρ ρ1 ρ2:RM}(x:Gr B h ζ ρ h1 ζ1 ρ1)(y:Gr B h1 ζ1 ρ1 h2 ζ2 ρ2):Gr B h ζ ρ h2 ζ2 ρ2 where
 zl:=x.zl.trans y.zl
 rl n a hb e:=y.rl n a hb (x.rl n a hb e)
 zn a o e:=(y.zn a o e).elim (x.zn a o) fun q=>.inr (x.nw y q)
 rn n a e:=(y.rn n a e).elim (x.rn n a) fun q=>.inr (x.nw y q)
 dm a e:=y.dm a (x.dm a e)
theorem Nw.weak{B B':Nat}{h:Heap}{ρ:RM}{a:Addr}(hb:B'<=B)(q:Nw B h ρ a):Nw B' h ρ a :=
 q.imp id fun q=>by obtain⟨m,hm,q⟩:=q;exact⟨m,Z16 hb hm,q⟩
theorem Gr.weak{B B':Nat}{h h':Heap}{ζ ζ':HM}{ρ ρ':RM}(x:Gr B h ζ ρ h' ζ' ρ')(hb:B'<=B):Gr B' h ζ ρ h' ζ' ρ' :=
 ⟨x.zl,fun n a hn e=>x.rl n a (Z1a hn hb) e,fun a o e=>(x.zn a o e).imp id (Nw.weak hb),fun n a e=>(x.rn n a e).imp id (Nw.weak hb),x.dm⟩
theorem Gr.heap{B:Nat}{h h':Heap}{ζ:HM}{ρ:RM}(dm : ∀ a,h.get? a≠none->h'.get? a≠none):Gr B h ζ ρ h' ζ ρ:=⟨Le.refl _,fun _ _ _ e=>e,fun _ _ e=>.inl e,fun _ _ e=>.inl e,dm⟩
theorem Rel.rdom{C:Cx}{hY ζ:HM}{ρ:RM}{st:St}{h:Heap}(R:Rel C hY ζ ρ st h){n:Nat}{a:Addr}(e:ρ n=some a):n<C.T:=by
 rcases Nat.lt_or_ge n C.T with q|q
 ·exact q
 ·have:=R.dom n (R.fresh n q);rw [this] at e;injection e
theorem Nw.none{C:Cx}{hY ζ:HM}{ρ:RM}{st:St}{h h':Heap}{a:Addr}(q:Nw C.T h' ρ a)(R:Rel C hY ζ ρ st h):h'.get? a=Option.none :=
 q.elim id fun q=>by obtain⟨m,hm,q⟩:=q;exact absurd (R.rdom q) (Nat.not_lt.mpr hm)
theorem Gr.le{C:Cx}{hY ζ ζ':HM}{ρ ρ':RM}{st:St}{h h':Heap}(R:Rel C hY ζ ρ st h)(G:Gr C.T h ζ ρ h' ζ' ρ'):Le ρ ρ' :=
 fun n a e=>G.rl n a (R.rdom e) e
theorem VR.gr{C:Cx}{hY ζ ζ':HM}{ρ ρ':RM}{st:St}{h h':Heap}(R:Rel C hY ζ ρ st h)(G:Gr C.T h ζ ρ h' ζ' ρ'){v:V}{x:Value}(e:VR C.W ζ ρ v x):VR C.W ζ' ρ' v x :=
 e.mono G.zl (G.le R)
theorem VRa.gr{C:Cx}{hY ζ ζ':HM}{ρ ρ':RM}{st:St}{h h':Heap}(R:Rel C hY ζ ρ st h)(G:Gr C.T h ζ ρ h' ζ' ρ'){v:List V}{x:List Value}(e:VRa C.W ζ ρ v x):VRa C.W ζ' ρ' v x :=
 e.mono G.zl (G.le R)
noncomputable def Kont{α β:Type}(C:Cx)(B:Nat)(hY:HM)(s:Shared)(ζ:HM)(ρ:RM)(R:HM->RM->α->β->Prop)(P:β->Shared->Prop)(a:α)(st':St):Prop :=
 ∀ ζ' ρ' h' tk' b,Gr B s.heap ζ ρ h' ζ' ρ'->Rel C hY ζ' ρ' st' h'->R ζ' ρ' a b->P b {s with heap:=h',toks:=tk'}
noncomputable def KontU(C:Cx)(hY:HM)(s:Shared)(ζ:HM)(ρ:RM)(P:Unit->Shared->Prop)(st':St):Prop :=
 ∀ ζ' ρ' h' tk',Gr C.T s.heap ζ ρ h' ζ' ρ'->Rel C hY ζ' ρ' st' h'->P () {s with heap:=h',toks:=tk'}
noncomputable def Sim{α β:Type}(C:Cx)(B:Nat)(t:Sem β)(m:M α)(R:HM->RM->α->β->Prop):Prop :=
 ∀ (hY ζ:HM) (ρ:RM) (st:St) (s:Shared) (P:β->Shared->Prop) (E:Value->Shared->Prop),C.Ok->Rel C hY ζ ρ st s.heap->∀ a st',m st=some (a,st')->
  Kont C B hY s ζ ρ R P a st'->wpAny (model C.W.prog C.W.w) C.A t P E s
noncomputable abbrev Yb(C:Cx)(t:Sem Value)(m:M V):Prop:=Sim C C.T t m (VR C.W)
noncomputable abbrev T2(C:Cx)(t:Sem (List Value))(m:M (List V)):Prop:=Sim C C.T t m (VRa C.W)
noncomputable abbrev P9(C:Cx)(t:Sem Bool)(m:M Bool):Prop:=Sim C C.T t m (fun _ _ a b=>a=b)
noncomputable def FR(W:Wd)(ζ:HM)(ρ:RM):Fl->Flow->Prop
 |.next,f=>f = .next
 |.brk,f=>f = .brk
 |.cont,f=>f = .cont
 |.ret v,f => ∃ x,f = .ret x/\VR W ζ ρ v x
noncomputable abbrev Qi(C:Cx)(t:Sem Flow)(m:M Fl):Prop:=Sim C C.B t m (FR C.W)
variable{C:Cx}
noncomputable def Pb{α β α' β':Type}(C:Cx)(B:Nat)(R:HM->RM->α->β->Prop)(k:β->Sem β')(f:α->M α')(R':HM->RM->α'->β'->Prop):Prop :=
 ∀ (hY ζ:HM) (ρ:RM) (st:St) (s:Shared) (P:β'->Shared->Prop) (E:Value->Shared->Prop) (a:α) (b:β),C.Ok->Rel C hY ζ ρ st s.heap->R ζ ρ a b->∀ a' st',f a st=some (a',st')->
  Kont C B hY s ζ ρ R' P a' st'->wpAny (model C.W.prog C.W.w) C.A (k b) P E s
theorem Sim.step{α α' β β':Type}{B:Nat}{t:Sem β}{m:M α}{R:HM->RM->α->β->Prop}{t':Sem β'}{k:β->Sem β'}{f:α->M α'}{R':HM->RM->α'->β'->Prop}
  (rule : ∀ {s:Shared} {P:β'->Shared->Prop} {E:Value->Shared->Prop},wpAny (model C.W.prog C.W.w) C.A t (fun b s₁=>wpAny (model C.W.prog C.W.w) C.A (k b) P E s₁) E s->wpAny (model C.W.prog C.W.w) C.A t' P E s)
  (h:Sim C C.T t m R) (hk:Pb C B R k f R') (hB:C.Ok->B<=C.T):Sim C B t' (m>>=f) R':=by
 intro hY ζ ρ st s P E ok rel a' st' e kk
 refine byC fun hG=>?_
 obtain⟨a,s1,e1,e2⟩:=Z6z e
 refine hG ?_
 clear hG
 refine rule (h hY ζ ρ st s _ E ok rel a s1 e1 fun ζ1 ρ1 h1 tk1 b G1 rel1 r1=>?_)
 exact hk hY ζ1 ρ1 s1 _ P E a b ok rel1 r1 a' st' e2 fun ζ2 ρ2 h2 tk2 b' G2 rel2 r2=>kk ζ2 ρ2 h2 tk2 b' ((G1.weak (hB ok)).trans G2) rel2 r2
noncomputable abbrev SimK1(C:Cx)(k:Value->Sem Value)(f:V->M V):Prop:=Pb C C.T (VR C.W) k f (VR C.W)
noncomputable def Ve{α' β':Type}(C:Cx)(k:Value->Value->Sem β')(f:V->V->M α')(R':HM->RM->α'->β'->Prop):Prop :=
 ∀ (hY ζ:HM) (ρ:RM) (st:St) (s:Shared) (P:β'->Shared->Prop) (E:Value->Shared->Prop) (a b:V) (x y:Value),C.Ok->Rel C hY ζ ρ st s.heap->VR C.W ζ ρ a x->VR C.W ζ ρ b y->∀ a' st',f a b st=some (a',st')->
  Kont C C.T hY s ζ ρ R' P a' st'->wpAny (model C.W.prog C.W.w) C.A (k x y) P E s
noncomputable def SimK3(C:Cx)(k:Value->Value->Value->Sem Unit)(f:V->V->V->M Unit):Prop :=
 ∀ (hY ζ:HM) (ρ:RM) (st:St) (s:Shared) (P:Unit->Shared->Prop) (E:Value->Shared->Prop) (a b c:V) (x y z:Value),C.Ok->Rel C hY ζ ρ st s.heap->VR C.W ζ ρ a x->VR C.W ζ ρ b y->VR C.W ζ ρ c z->∀ a' st',f a b c st=some (a',st')->
  KontU C hY s ζ ρ P st'->wpAny (model C.W.prog C.W.w) C.A (k x y z) P E s
section
variable{M':Model}{A:Around}{env:Env}
theorem Y5{op:UnaryOp}{x:PySem.Expr}{pos:Pos}{m:M V}{g:V->M V}(h:Yb C (eval x C.env) m)(hg:SimK1 C (unaryOp op) g):Yb C (eval (.UnaryOp op x pos) C.env) (m>>=g) :=
 Sim.step (fun h=>wpAny_UnaryOp h) h hg fun _=>Z12 _
theorem M7{α' β':Type}{t1 t2:Sem Value}{t:Sem β'}{m1 m2:M V}{k:Value->Value->Sem β'}{g:V->V->M α'}{R':HM->RM->α'->β'->Prop}
  (rule : ∀ {s:Shared} {P:β'->Shared->Prop} {E:Value->Shared->Prop},wpAny (model C.W.prog C.W.w) C.A t1 (fun a s₁=>wpAny (model C.W.prog C.W.w) C.A t2 (fun b s₂=>wpAny (model C.W.prog C.W.w) C.A (k a b) P E s₂) E s₁) E s->wpAny (model C.W.prog C.W.w) C.A t P E s)
  (h1:Yb C t1 m1) (h2:Yb C t2 m2) (hg:Ve C k g R'):Sim C C.T t (do let a<-m1;let b<-m2;g a b) R':=by
 intro hY ζ ρ st s P E ok rel a' st' e kk
 refine byC fun hG=>?_
 obtain⟨a,s1,e1,e⟩:=Z6z e
 obtain⟨b,s2,e2,e3⟩:=Z6z e
 refine hG ?_
 clear hG
 refine rule (h1 hY ζ ρ st s _ E ok rel a s1 e1 fun ζ1 ρ1 h1' tk1 x G1 rel1 r1=>?_)
 refine h2 hY ζ1 ρ1 s1 _ _ E ok rel1 b s2 e2 fun ζ2 ρ2 h2' tk2 y G2 rel2 r2=>?_
 exact hg hY ζ2 ρ2 s2 _ P E a b x y ok rel2 (VR.gr rel1 G2 r1) r2 a' st' e3 fun ζ3 ρ3 h3 tk3 z G3 rel3 r3=>kk ζ3 ρ3 h3 tk3 z ((G1.trans G2).trans G3) rel3 r3
theorem Zk{l r:PySem.Expr}{op:Operator}{pos:Pos}{m1 m2:M V}{g:V->V->M V}(h1:Yb C (eval l C.env) m1)(h2:Yb C (eval r C.env) m2)(hg:Ve C (binaryOp op) g (VR C.W)) :
  Yb C (eval (.BinOp l op r pos) C.env) (do let a<-m1;let b<-m2;g a b):=M7 (fun h=>wpAny_BinOp h) h1 h2 hg
theorem Wn{l r:PySem.Expr}{op:CmpOp}{pos:Pos}{m1 m2:M V}{g:V->V->M V}(h1:Yb C (eval l C.env) m1)(h2:Yb C (eval r C.env) m2)(hg:Ve C (compareOp op) g (VR C.W))(hm:behindInMarks op r=false:=by with_unfolding_all rfl) :
  Yb C (eval (.Compare l [op] [r] pos) C.env) (do let a<-m1;let b<-m2;g a b):=M7 (fun h=>wpAny_Compare1 h hm) h1 h2 hg
end
theorem Z6{i:Int}{k:Nat}{pos:Pos}:Yb C (eval (.Constant (.int i) k pos) C.env) (pure (.int i)):=by
 intro hY ζ ρ st s P E ok rel a st' e kk
 injection e
 exact wpAny_Constant_int (kk ζ ρ s.heap _ _ (Gr.refl _ _ _ _) rel (Exists.intro _ rfl))
theorem Zr{i:Str}{k:Nat}{pos:Pos}:Yb C (eval (.Constant (.str i) k pos) C.env) (pure (.str i)):=by
 intro hY ζ ρ st s P E ok rel a st' e kk
 injection e
 exact wpAny_Constant_str (kk ζ ρ s.heap _ _ (Gr.refl _ _ _ _) rel (Exists.intro _ rfl))
theorem Zt{i:Bool}{k:Nat}{pos:Pos}:Yb C (eval (.Constant (.bool i) k pos) C.env) (pure (.bool i)):=by
 intro hY ζ ρ st s P E ok rel a st' e kk
 injection e
 exact wpAny_Constant_bool (kk ζ ρ s.heap _ _ (Gr.refl _ _ _ _) rel rfl)
theorem Ku{k:Nat}{pos:Pos}:Yb C (eval (.Constant .none k pos) C.env) (pure .none):=by
 intro hY ζ ρ st s P E ok rel a st' e kk
 injection e
 exact wpAny_Constant_none (kk ζ ρ s.heap _ _ (Gr.refl _ _ _ _) rel rfl)
noncomputable def Z71(i:Nat):M V:=fun s=>(s.loc i).bind fun v=>some (v,s)
noncomputable def Z72(i:Nat)(v:V):M Unit:=fun s=>some ((),{s with loc:=upd s.loc i (some v)})
theorem Ra{x:Str}{i:Nat}(hk:C.env.kindOf x=some .local)(hp:C.pl i=some (.loc C.env.locals x)):Yb C (loadName C.env x) (Z71 i):=by
 intro hY ζ ρ st s P E ok rel a st' e kk
 ·refine byC fun hG=>?_
  obtain⟨v,hv,e⟩:=ob e
  injection e
  obtain⟨pl,y,h1,h2,h3⟩:=rel.var i a hv
  refine hG ?_
  clear hG
  rw [hp] at h1;injection h1
  obtain⟨m,hn,hm⟩:=h2
  exact wpAny_loadName_local ok.kind hk hn hm (kk ζ ρ s.heap s.toks _ (Gr.refl _ _ _ _) rel h3)
theorem Pf{x:Str}{i:Nat}{c:Addr}(hk:C.env.kindOf x=some .cell)(hc:C.env.cells.lookup x=some c)(hp:C.pl i=some (.cell c)):Yb C (loadName C.env x) (Z71 i):=by
 intro hY ζ ρ st s P E ok rel a st' e kk
 ·refine byC fun hG=>?_
  obtain⟨v,hv,e⟩:=ob e
  injection e
  obtain⟨pl,y,h1,h2,h3⟩:=rel.var i a hv
  refine hG ?_
  clear hG
  rw [hp] at h1;injection h1
  exact wpAny_loadName_cell ok.kind hk hc h2 (kk ζ ρ s.heap s.toks _ (Gr.refl _ _ _ _) rel h3)
theorem L2{x:Str}{pos:Pos}{m:M V}(h:Yb C (loadName C.env x) m)(hd:(x==("__debug__" :Str))=false:=by decide):Yb C (eval (.Name x pos) C.env) m:=by
 intro hY ζ ρ st s P E ok rel a st' e kk
 exact wpAny_Name (h hY ζ ρ st s P E ok rel a st' e kk) hd
theorem Xr{x:Str}{pos:Pos}{v:Value}(e:nsIn C.W.K mainGlobals x=some (some v))(hx:C.env.kindOf x=some .globalImplicit)(hd:(x==("__debug__" :Str))=false:=by decide):Yb C (eval (.Name x pos) C.env) (pure (.val v)):=by
 intro hY ζ ρ st s P E ok rel a st' e' kk
 injection e'
 exact Calls.Name_function_global ok.kind hx (Calls.loadGlobal_global (by rw [ok.glob];exact rel.ok.2.g) (mg_of rel.ok.1 rel.ok.2.g e) (kk ζ ρ s.heap s.toks _ (Gr.refl _ _ _ _) rel rfl)) hd
theorem B0{x:Str}{pos:Pos}{v:Value}(e:nsIn C.W.K mainGlobals x=some none)(hv:bootBuiltins x=some v)(hn:x≠ "__name__")(hx:C.env.kindOf x=some .globalImplicit)(hd:(x==("__debug__" :Str))=false:=by decide):Yb C (eval (.Name x pos) C.env) (pure (.val v)):=by
 intro hY ζ ρ st s P E ok rel a st' e' kk
 injection e'
 exact Calls.Name_function_global ok.kind hx (Calls.loadGlobal_builtin (by rw [ok.glob];exact rel.ok.2.g) (mg_none_of rel.ok.1 rel.ok.2.g e) (by rw [ok.bins];exact rel.ok.2.b) ((rel.ok.2.builtins x hn).trans hv) (kk ζ ρ s.heap s.toks _ (Gr.refl _ _ _ _) rel rfl)) hd
theorem wf{α:Type}{M:Model}{A:Around}{b:Bool}{X R:Sem α}{Q:α->Shared->Prop}{E:Value->Shared->Prop}{s:Shared}(h:b=false)(k:wpAny M A R Q E s):wpAny M A (if b=true then X else R) Q E s:=by subst h;exact k
theorem wt{α:Type}{M:Model}{A:Around}{b:Bool}{X R:Sem α}{Q:α->Shared->Prop}{E:Value->Shared->Prop}{s:Shared}(h:b=true)(k:wpAny M A X Q E s):wpAny M A (if b=true then X else R) Q E s:=by subst h;exact k
end Lay
namespace Lay
variable{C:Cx}
theorem Yo(h:Heap):h.get? h.objs.size=none:=by
 cases e:h.get? h.objs.size with
 |none=>rfl
 |some o=>exact absurd (Z5j e) (Nat.lt_irrefl _)
theorem Place.has.has_keeps{h h':Heap}{pl:Place}{v:Value}(x:pl.has h v)(k : ∀ o,h.get? pl.addr=some o->h'.get? pl.addr=some o):pl.has h' v:=by
 cases pl with
 |loc L y=>obtain⟨m,hn,hm⟩:=x;exact⟨m,hn.at' fun o e=>k o e,hm⟩
 |cell c=>obtain⟨o,ho,hd⟩:=x;exact⟨o,k o ho,hd⟩
theorem Place.ok.ok_keeps{h h':Heap}{pl:Place}(x:pl.ok h)(k : ∀ o,h.get? pl.addr=some o->h'.get? pl.addr=some o):pl.ok h':=by
 cases pl with
 |loc L y=>obtain⟨m,hn⟩:=x;exact⟨m,hn.at' fun o e=>k o e⟩
 |cell c=>obtain⟨v,o,ho,hd⟩:=x;exact⟨v,o,k o ho,hd⟩
theorem Place.ok.ok_some{h:Heap}{pl:Place}(x:pl.ok h):h.get? pl.addr≠none:=by
 cases pl with
 |loc L y=>obtain⟨m,o,es,ep,ho,_⟩:=x;show h.get? L≠none;rw [ho];exact Z53 _
 |cell c=>obtain⟨v,o,ho,hd⟩:=x;show h.get? c≠none;rw [ho];exact Z53 _
theorem SRel.off{W:Wd}{hY ζ:HM}{ρ:RM}{σ:Nat->Option O}{h h':Heap}(S:SRel W hY ζ ρ σ h)(X:Addr->Prop)(hX : ∀ b o,¬ X b->h.get? b=some o->h'.get? b=some o)
  (hz : ∀ b,X b->ζ b=none/\hY b=none/\∀ n,ρ n≠some b):SRel W hY ζ ρ σ h' where
 ok:=S.good _ fun a o e=>hX a o (fun x=>by rw [(hz a x).2.1] at e;injection e) (S.kept a o e)
 kept:=fun a o e=>hX a o (fun x=>by rw [(hz a x).2.1] at e;injection e) (S.kept a o e)
 frozen:=fun a o e=>hX a o (fun x=>by rw [(hz a x).1] at e;injection e) (S.frozen a o e)
 fcls:=S.fcls
 slot:=fun n O e=>by
  refine byC fun hG=>?_
  obtain⟨a,o,h1,h2,h3⟩:=S.slot n O e
  refine hG ?_
  clear hG
  exact⟨a,o,h1,hX a o (fun x=>(hz a x).2.2 n h1) h2,h3⟩
 dom:=S.dom
 inj:=S.inj
 offz:=S.offz
 offk:=S.offk
 good:=S.good
 sysr:=S.sysr
 sysz:=S.sysz
theorem Rel.off{hY ζ:HM}{ρ:RM}{st:St}{h h':Heap}(R:Rel C hY ζ ρ st h)(X:Addr->Prop)(hX : ∀ b o,¬ X b->h.get? b=some o->h'.get? b=some o)
  (hz : ∀ b,X b->ζ b=none/\hY b=none/\∀ n,ρ n≠some b) (hp : ∀ i pl,C.pl i=some pl->¬ X pl.addr):Rel C hY ζ ρ st h' where
 toSRel:=R.toSRel.off X hX hz
 fresh:=R.fresh
 mid:=R.mid
 var:=fun i v e=>by
  refine byC fun hG=>?_
  obtain⟨pl,x,h1,h2,h3⟩:=R.var i v e
  refine hG ?_
  clear hG
  exact⟨pl,x,h1,h2.has_keeps fun o e=>hX _ o (hp i pl h1) e,h3⟩
 plok:=fun i pl e=>(R.plok i pl e).ok_keeps fun o e'=>hX _ o (hp i pl e) e'
 ploff:=R.ploff
 plinj:=R.plinj
theorem Rel.newOff{hY ζ:HM}{ρ:RM}{st:St}{h:Heap}(R:Rel C hY ζ ρ st h){a:Addr}(ha:h.get? a=none):(ζ a=none/\hY a=none/\∀ n,ρ n≠some a)/\∀ i pl,C.pl i=some pl->pl.addr≠a:=by
 refine⟨⟨?_,?_,?_⟩,?_⟩
 ·cases e:ζ a with
  |none=>rfl
  |some o=>rw [R.frozen a o e] at ha;injection ha
 ·cases e:hY a with
  |none=>rfl
  |some o=>rw [R.kept a o e] at ha;injection ha
 ·intro n e
  cases e':st.hp n with
  |none=>rw [R.dom n e'] at e;injection e
  |some O =>
   refine byC fun hG=>?_
   obtain⟨b,o,h1,h2,_⟩:=R.slot n O e'
   refine hG ?_
   clear hG
   rw [e] at h1;injection h1;rw [ha] at h2;injection h2
 ·intro i pl e q
  exact(R.plok i pl e).ok_some (q▸ha)
theorem Rel.size_sys{hY ζ:HM}{ρ:RM}{st:St}{h:Heap}(R:Rel C hY ζ ρ st h):h.objs.size≠sysModules:=by
 have:mainGlobals<h.objs.size:=R.ok.2.g.lt
 intro e
 rw [e] at this
 exact absurd this (by decide)
theorem Yd(h:Heap)(o:Obj):Le h.get? (h.push o).get?:=fun _ _ e=>Z5h o e
theorem Rel.push{hY ζ:HM}{ρ:RM}{st:St}{h:Heap}(R:Rel C hY ζ ρ st h)(o:Obj):Rel C hY ζ ρ st (h.push o) :=
 R.off (fun _=>False) (fun b o' _ e=>Yd h o b o' e) (fun _ x=>x.elim) (fun _ _ _ x=>x)
theorem Gr.push{B:Nat}{ζ:HM}{ρ:RM}(h:Heap)(o:Obj):Gr B h ζ ρ (h.push o) ζ ρ:=Gr.heap fun a e=>by
 cases q:h.get? a with
 |none=>exact absurd q e
 |some o'=>rw [Yd h o a o' q];exact Z53 _
theorem Wh{β:Type}{f:Nat->Option β}{n:Nat}{b:β}(h:f n=none):Le f (upd f n (some b)):=fun m c e=>by
 by_cases q:m=n
 ·subst q;rw [h] at e;injection e
 ·rw [Z5 _ _ q];exact e
theorem Rel.pushZ{hY ζ:HM}{ρ:RM}{st:St}{h:Heap}(R:Rel C hY ζ ρ st h)(o:Obj)(hf:o.isFreed=false) :
  Rel C hY (upd ζ h.objs.size (some o)) ρ st (h.push o)/\Gr C.T h ζ ρ (h.push o) (upd ζ h.objs.size (some o)) ρ:=by
 refine byC fun hG=>?_
 obtain⟨⟨hz,hk,hr⟩,hp⟩:=R.newOff (Yo h)
 refine hG ?_
 clear hG
 have R':=R.push o
 have le:Le ζ (upd ζ h.objs.size (some o)):=Wh hz
 refine⟨⟨⟨R'.ok,R'.kept,fun a o' e=>?_,fun a o' e=>?_,fun n O e=>?_,R'.dom,R'.inj,fun n a e=>?_,R'.offk,R'.good,R'.sysr,by rw [Z5 _ _ (Ne.symm R.size_sys)];exact R.sysz⟩,R'.fresh,R'.mid,fun i v e=>?_,R'.plok,fun i pl e=>⟨?_,(R.ploff i pl e).2⟩,R'.plinj⟩,⟨le,fun _ _ _ e=>e,fun a o' e=>?_,fun n a e=>.inl e,(Gr.push (B:=0) (ζ:=ζ) (ρ:=ρ) h o).dm⟩⟩
 ·by_cases q:a=h.objs.size
  ·subst q;rw [Z4] at e;injection e;exact Z5i h hf
  ·rw [Z5 _ _ q] at e;exact R'.frozen a o' e
 ·trivial
 ·obtain⟨a,o',h1,h2,h3⟩:=R'.slot n O e
  exact⟨a,o',h1,h2,h3.mono le fun _ _ _ e=>e⟩
 ·have:a≠h.objs.size:=fun q=>hr n (q▸e)
  rw [Z5 _ _ this];exact R.offz n a e
 ·obtain⟨pl,x,h1,h2,h3⟩:=R'.var i v e
  exact⟨pl,x,h1,h2,h3.mono le (Le.refl _)⟩
 ·rw [Z5 _ _ (hp i pl e)];exact(R.ploff i pl e).1
 ·by_cases q:a=h.objs.size
  ·subst q;exact .inr (.inl (Yo h))
  ·rw [Z5 _ _ q] at e;exact .inl e
theorem Rel.pushS{hY ζ:HM}{ρ:RM}{st:St}{h:Heap}(R:Rel C hY ζ ρ st h)(n:Nat)(hn:st.hp n=none)(hT:n<C.T)(hB:n<100\/C.B<=n)(O:O)(o:Obj)(hf:o.isFreed=false)
  (ho:OR C.W ζ (upd ρ n (some h.objs.size)) O o) :
  Rel C hY ζ (upd ρ n (some h.objs.size)) {st with hp:=upd st.hp n (some O)} (h.push o)/\Gr C.T h ζ ρ (h.push o) ζ (upd ρ n (some h.objs.size)):=by
 refine byC fun hG=>?_
 obtain⟨⟨hz,hk,hr⟩,hp⟩:=R.newOff (Yo h)
 refine hG ?_
 clear hG
 have R':=R.push o
 have le:Le ρ (upd ρ n (some h.objs.size)):=Wh (R.dom n hn)
 refine⟨⟨⟨R'.ok,R'.kept,R'.frozen,R'.fcls,fun m O' e=>?_,fun m e=>?_,fun m m' a e e'=>?_,fun m a e=>?_,fun m a e=>?_,R'.good,fun m e=>?_,R'.sysz⟩,fun m hm=>?_,fun m h1 h2 h3=>?_,fun i v e=>?_,R'.plok,fun i pl e=>⟨(R.ploff i pl e).1,(R.ploff i pl e).2.1,fun m q=>?_⟩,R'.plinj⟩,
  ⟨Le.refl _,fun m a _ e=>le m a e,fun a o' e=>.inl e,fun m a e=>?_,(Gr.push (B:=0) (ζ:=ζ) (ρ:=ρ) h o).dm⟩⟩
 ·by_cases q:m=n
  ·subst q;simp only [Z4] at e;injection e
   exact⟨_,o,Z4 _ _ _,Z5i h hf,ho⟩
  ·simp only [Z5 _ _ q] at e
   refine byC fun hG=>?_
   obtain⟨a,o',h1,h2,h3⟩:=R'.slot m O' e
   refine hG ?_
   clear hG
   exact⟨a,o',le _ _ h1,h2,h3.mono (Le.refl _) le.low⟩
 ·by_cases q:m=n
  ·subst q;simp only [Z4] at e;injection e
  ·simp only [Z5 _ _ q] at e;rw [Z5 _ _ q];exact R.dom m e
 ·by_cases q:m=n
  ·by_cases q':m'=n
   ·rw [q,q']
   ·rw [q,Z4] at e;injection e;rw [Z5 _ _ q'] at e';exact absurd e' (hr m')
  ·by_cases q':m'=n
   ·rw [q',Z4] at e';injection e';rw [Z5 _ _ q] at e;exact absurd e (hr m)
   ·rw [Z5 _ _ q] at e;rw [Z5 _ _ q'] at e';exact R.inj m m' a e e'
 ·by_cases q:m=n
  ·subst q;rw [Z4] at e;injection e;exact hz
  ·rw [Z5 _ _ q] at e;exact R.offz m a e
 ·by_cases q:m=n
  ·subst q;rw [Z4] at e;injection e;exact hk
  ·rw [Z5 _ _ q] at e;exact R.offk m a e
 ·by_cases q:m=n
  ·subst q;rw [Z4] at e;exact R.size_sys (Z54 e)
  ·rw [Z5 _ _ q] at e;exact R.sysr m e
 ·have:m≠n:=by intro q;subst q;exact absurd hT (Nat.not_lt.mpr hm)
  show upd st.hp n (some O) m=none
  rw [Z5 _ _ this];exact R.fresh m hm
 ·have:m≠n:=by intro q;subst q;exact ar0 h1 h2 hB
  exact R.mid m h1 h2 (fun q=>h3 (by show upd st.hp n (some O) m=none;rw [Z5 _ _ this];exact q))
 ·obtain⟨pl,x,h1,h2,h3⟩:=R'.var i v e
  exact⟨pl,x,h1,h2,h3.mono (Le.refl _) le⟩
 ·by_cases q':m=n
  ·subst q';rw [Z4] at q;exact hp i pl e (Z54 q).symm
  ·rw [Z5 _ _ q'] at q;exact(R.ploff i pl e).2.2 m q
 ·by_cases q:m=n
  ·subst q;rw [Z4] at e;injection e;exact .inr (.inl (Yo h))
  ·rw [Z5 _ _ q] at e;exact .inl e
theorem Rel.setK{hY ζ:HM}{ρ:RM}{st:St}{h h':Heap}(R:Rel C hY ζ ρ st h){n:Nat}{a:Addr}(hn:ρ n=some a)(keep : ∀ b o,b≠a->h.get? b=some o->h'.get? b=some o){O:O}{o:Obj}(ho:h'.get? a=some o)(hO:OR C.W ζ ρ O o) :
  Rel C hY ζ ρ {st with hp:=upd st.hp n (some O)} h'/\Gr C.T h ζ ρ h' ζ ρ:=by
 have hz:=R.offz n a hn
 have hk:=R.offk n a hn
 have hp : ∀ i pl,C.pl i=some pl->pl.addr≠a:=fun i pl e q=>(R.ploff i pl e).2.2 n (q▸hn)
 refine⟨⟨⟨R.good _ fun b o e=>keep b o (fun q=>by rw [q,hk] at e;injection e) (R.kept b o e),fun b o e=>keep b o (fun q=>by rw [q,hk] at e;injection e) (R.kept b o e),
   fun b o e=>keep b o (fun q=>by rw [q,hz] at e;injection e) (R.frozen b o e),R.fcls,fun m O' e=>?_,fun m e=>?_,R.inj,R.offz,R.offk,R.good,R.sysr,R.sysz⟩,fun m hm=>?_,fun m h1 h2 h3=>?_,fun i v e=>?_,fun i pl e=>?_,R.ploff,R.plinj⟩,Gr.heap fun b q=>?_⟩
 ·by_cases q:m=n
  ·subst q;simp only [Z4] at e;injection e
   exact⟨a,o,hn,ho,hO⟩
  ·simp only [Z5 _ _ q] at e
   refine byC fun hG=>?_
   obtain⟨b,o',h1,h2,h3⟩:=R.slot m O' e
   refine hG ?_
   clear hG
   exact⟨b,o',h1,keep b o' (fun q'=>q (R.inj m n a (q'▸h1) hn)) h2,h3⟩
 ·by_cases q:m=n
  ·subst q;simp only [Z4] at e;injection e
  ·simp only [Z5 _ _ q] at e;exact R.dom m e
 ·have:m≠n:=by intro q;subst q;exact absurd (R.rdom hn) (Nat.not_lt.mpr hm)
  show upd st.hp n (some O) m=none
  rw [Z5 _ _ this];exact R.fresh m hm
 ·refine R.mid m h1 h2 (fun q=>?_)
  by_cases q':m=n
  ·subst q';rw [R.dom m q] at hn;injection hn
  ·exact h3 (by show upd st.hp n (some O) m=none;rw [Z5 _ _ q'];exact q)
 ·obtain⟨pl,x,h1,h2,h3⟩:=R.var i v e
  exact⟨pl,x,h1,h2.has_keeps fun o e'=>keep _ o (hp i pl h1) e',h3⟩
 ·exact(R.plok i pl e).ok_keeps fun o e'=>keep _ o (hp i pl e) e'
 ·by_cases q':b=a
  ·subst q';rw [ho];exact Z53 _
  ·cases e:h.get? b with
   |none=>exact absurd e q
   |some o'=>rw [keep b o' q' e];exact Z53 _
theorem Rel.set{hY ζ:HM}{ρ:RM}{st:St}{h h':Heap}(R:Rel C hY ζ ρ st h){n:Nat}{a:Addr}(hn:ρ n=some a)(hs:Z5g a h h'){O:O}{o:Obj}(ho:h'.get? a=some o)(hO:OR C.W ζ ρ O o) :
  Rel C hY ζ ρ {st with hp:=upd st.hp n (some O)} h'/\Gr C.T h ζ ρ h' ζ ρ:=R.setK hn (fun b o q e=>(hs.2 b q).trans e) ho hO
theorem Rel.store{hY ζ:HM}{ρ:RM}{st:St}{h h':Heap}(R:Rel C hY ζ ρ st h){i:Nat}{pl:Place}(hi:C.pl i=some pl)(hs:Z5g pl.addr h h')
  {v:V} {x:Value} (hv:VR C.W ζ ρ v x)
  (hn:match pl with|.loc L y => ∃ m,h.Ns L m/\h'.Ns L (fun z=>if z=y then some x else m z)|.cell c=>(∃ v,h.IsCell c v)/\h'.IsCell c (some x)) :
  Rel C hY ζ ρ {st with loc:=upd st.loc i (some v)} h'/\Gr C.T h ζ ρ h' ζ ρ:=by
 obtain⟨hz,hk,hr⟩:=R.ploff i pl hi
 have keep : ∀ b o,b≠pl.addr->h.get? b=some o->h'.get? b=some o:=fun b o q e=>(hs.2 b q).trans e
 have S:=R.toSRel.off (· =pl.addr) (fun b o q e=>keep b o q e) (fun b q=>q▸⟨hz,hk,hr⟩)
 have hok : ∀ j pl',C.pl j=some pl'->pl'.ok h':=fun j pl' e=>by
  by_cases q:pl'.addr=pl.addr
  ·have:=R.plok j pl' e
   cases pl with
   |loc L y =>
    obtain⟨m,h1,h2⟩:=hn
    cases pl' with
    |loc L' y'=>cases (show L'=L from q);exact⟨_,h2⟩
    |cell c =>
     cases (show c=L from q)
     refine byC fun hG=>?_
     obtain⟨v',o,ho,hd⟩:=this
     obtain⟨o',es,ep,ho',hd',_⟩:=h1
     refine hG ?_
     clear hG
     rw [ho] at ho';injection ho';rw [hd] at hd';injection hd'
   |cell c =>
    obtain⟨⟨v0,h1⟩,h2⟩:=hn
    cases pl' with
    |loc L' y' =>
     cases (show L'=c from q)
     refine byC fun hG=>?_
     obtain⟨m,o',es,ep,ho',hd',_⟩:=this
     obtain⟨o,ho,hd⟩:=h1
     refine hG ?_
     clear hG
     rw [ho] at ho';injection ho';rw [hd] at hd';injection hd'
    |cell c'=>cases (show c'=c from q);exact⟨_,h2⟩
  ·exact(R.plok j pl' e).ok_keeps fun o e'=>keep _ o q e'
 refine⟨⟨S,R.fresh,R.mid,fun j u e=>?_,hok,R.ploff,R.plinj⟩,Gr.heap fun b q=>?_⟩
 ·by_cases q:j=i
  ·subst q
   simp only [Z4] at e;injection e
   refine⟨pl,x,hi,?_,hv⟩
   cases pl with
   |loc L y=>obtain⟨m,_,h2⟩:=hn;exact⟨_,h2,by simp⟩
   |cell c=>exact hn.2
  ·simp only [Z5 _ _ q] at e
   refine byC fun hG=>?_
   obtain⟨pl',y,h1,h2,h3⟩:=R.var j u e
   refine hG ?_
   clear hG
   refine⟨pl',y,h1,?_,h3⟩
   have hne:pl'≠pl:=fun q'=>q (R.plinj j i pl (q'▸h1) hi)
   by_cases q':pl'.addr=pl.addr
   ·have hok':=R.plok j pl' h1
    cases pl with
    |loc L z =>
     obtain⟨m,m1,m2⟩:=hn
     cases pl' with
     |loc L' z' =>
      cases (show L'=L from q')
      obtain⟨m',n1,n2⟩:=h2
      have:z'≠z:=fun q=>hne (by rw [q])
      refine⟨_,m2,?_⟩
      simp only [if_neg this]
      refine byC fun hG=>?_
      obtain⟨o,es,ep,ho,hd,_,hf⟩:=m1
      obtain⟨o',es',ep',ho',hd',_,hf'⟩:=n1
      refine hG ?_
      clear hG
      rw [ho] at ho';injection ho';rw [hd] at hd';injection hd'
      rw [<-hf,hf'];exact n2
     |cell c =>
      cases (show c=L from q')
      refine byC fun hG=>?_
      obtain⟨v',o,ho,hd⟩:=hok'
      obtain⟨o',es,ep,ho',hd',_⟩:=m1
      refine hG ?_
      clear hG
      rw [ho] at ho';injection ho';rw [hd] at hd';injection hd'
    |cell c =>
     obtain⟨⟨v0,m1⟩,m2⟩:=hn
     cases pl' with
     |loc L' z' =>
      cases (show L'=c from q')
      refine byC fun hG=>?_
      obtain⟨m,o',es,ep,ho',hd',_⟩:=hok'
      obtain⟨o,ho,hd⟩:=m1
      refine hG ?_
      clear hG
      rw [ho] at ho';injection ho';rw [hd] at hd';injection hd'
     |cell c'=>exact absurd (by rw [show c'=c from q']) hne
   ·exact h2.has_keeps fun o e'=>keep _ o q' e'
 ·by_cases q':b=pl.addr
  ·subst q';exact(hok i pl hi).ok_some
  ·rw [hs.2 b q'];exact q
end Lay
namespace Lay
variable{C:Cx}
noncomputable def Z73(m1 m2:M Fl):M Fl:=do
 let f<-m1
 match f with
 |.next=>m2
 |f=>pure f
theorem Zc:Qi C (execs [] C.env) (pure .next):=by
 intro hY ζ ρ st s P E ok rel a st' e k
 injection e
 exact wpAny_execs_nil (k ζ ρ s.heap s.toks _ (Gr.refl _ _ _ _) rel rfl)
theorem Z2{x:Stmt}{rest:List Stmt}{m1 m2:M Fl}(h1:Qi C (exec x C.env) m1)(h2:Qi C (execs rest C.env) m2):Qi C (execs (x::rest) C.env) (Z73 m1 m2):=by
 intro hY ζ ρ st s P E ok rel a st' e k
 refine byC fun hG=>?_
 obtain⟨f,s1,e1,e2⟩:=Z6z e
 refine hG ?_
 clear hG
 refine wpAny_execs_cons (h1 hY ζ ρ st s _ E ok rel f s1 e1 fun ζ1 ρ1 h1' tk1 b G1 rel1 r1=>?_)
 cases f with
 |next =>
  injection r1
  exact h2 hY ζ1 ρ1 s1 _ P E ok rel1 a st' e2 fun ζ2 ρ2 h2' tk2 b2 G2 rel2 r2=>k ζ2 ρ2 h2' tk2 b2 (G1.trans G2) rel2 r2
 |brk=>injection r1;injection e2;exact k ζ1 ρ1 h1' tk1 _ G1 rel1 rfl
 |cont=>injection r1;injection e2;exact k ζ1 ρ1 h1' tk1 _ G1 rel1 rfl
 |ret v=>obtain⟨x,rfl,hx⟩:=r1;injection e2;exact k ζ1 ρ1 h1' tk1 _ G1 rel1 ⟨x,rfl,hx⟩
theorem Kv{x:Str}{i:Nat}(hk:C.env.kindOf x=some .local)(hp:C.pl i=some (.loc C.env.locals x)) :
  Pb C C.T (VR C.W) (fun y=>storeName C.env x y) (fun v=>Z72 i v) (fun _ _ _ _=>True):=by
 intro hY ζ ρ st s P E v y ok rel hv a st' e k
 injection e
 obtain⟨m,hn⟩:=rel.plok i _ hp
 refine wpAny_storeName_local hk hn (fun h' hn' hs=>?_) (by rw [ok.kind];rfl)
 obtain⟨R',G'⟩:=rel.store hp hs hv ⟨m,hn,hn'⟩
 exact k ζ ρ h' _ _ G' R' trivial
theorem Uk{x:Str}{i:Nat}{c:Addr}(hk:C.env.kindOf x=some .cell)(hc:C.env.cells.lookup x=some c)(hp:C.pl i=some (.cell c)) :
  Pb C C.T (VR C.W) (fun y=>storeName C.env x y) (fun v=>Z72 i v) (fun _ _ _ _=>True):=by
 intro hY ζ ρ st s P E v y ok rel hv a st' e k
 injection e
 obtain⟨v0,hn⟩:=rel.plok i _ hp
 refine wpAny_storeName_cell ok.kind hk hc hn (fun h' hn' hs=>?_)
 obtain⟨R',G'⟩:=rel.store hp hs hv ⟨⟨v0,hn⟩,hn'⟩
 exact k ζ ρ h' _ _ G' R' trivial
noncomputable abbrev M4(C:Cx)(x:Str)(i:Nat):Prop:=Pb C C.T (VR C.W) (fun y=>storeName C.env x y) (fun v=>Z72 i v) (fun _ _ _ _=>True)
theorem Zx{x:Str}{i:Nat}{pos' pos:Pos}{value:PySem.Expr}{m:M V}(h:Yb C (eval value C.env) m)(hst:M4 C x i)(hs:swapsWith value (some (.Name x pos')) pos.line C.env=pure false:=by rfl) :
  Qi C (exec (.Assign [.Name x pos'] value pos) C.env) (do let v<-m;Z72 i v;pure .next):=by
 intro hY ζ ρ st s P E ok rel a st' e k
 refine byC fun hG=>?_
 obtain⟨v,s1,e1,e2⟩:=Z6z e
 obtain⟨u,s2,e3,e4⟩:=Z6z e2
 injection e4
 refine hG ?_
 clear hG
 refine wpAny_Assign_Name (h hY ζ ρ st s _ E ok rel v _ e1 fun ζ1 ρ1 h1 tk1 y G1 rel1 r1=>?_) hs
 exact hst hY ζ1 ρ1 s1 _ _ E v y ok rel1 r1 () _ e3 fun ζ2 ρ2 h2 tk2 _ G2 rel2 _=>k ζ2 ρ2 h2 tk2 _ ((G1.trans G2).weak ok.bt) rel2 rfl
theorem Zn{e:PySem.Expr}{pos:Pos}{m:M V}(h:Yb C (eval e C.env) m):Qi C (exec (.Return (some e) pos) C.env) (do let v<-m;pure (.ret v)):=by
 intro hY ζ ρ st s P E ok rel a st' e k
 refine byC fun hG=>?_
 obtain⟨v,s1,e1,e2⟩:=Z6z e
 injection e2
 refine hG ?_
 clear hG
 exact wpAny_Return_some (h hY ζ ρ st s _ E ok rel v _ e1 fun ζ1 ρ1 h1 tk1 y G1 rel1 r1=>k ζ1 ρ1 h1 tk1 _ (G1.weak ok.bt) rel1 ⟨y,rfl,r1⟩)
theorem Yq{e:PySem.Expr}{pos:Pos}{m:M V}(h:Yb C (eval e C.env) m)(hi:interactive C.env=false:=by rfl)(hs:swapsWith e none pos.line C.env=pure false:=by rfl):Qi C (exec (.Expr e pos) C.env) (do let _<-m;pure .next):=by
 intro hY ζ ρ st s P E ok rel a st' e k
 refine byC fun hG=>?_
 obtain⟨v,s1,e1,e2⟩:=Z6z e
 injection e2
 refine hG ?_
 clear hG
 exact wpAny_Expr_any (h hY ζ ρ st s _ E ok rel v _ e1 fun ζ1 ρ1 h1 tk1 y G1 rel1 r1=>k ζ1 ρ1 h1 tk1 _ (G1.weak ok.bt) rel1 rfl) hi hs
theorem Pc{pos:Pos}:Qi C (exec (.Continue pos) C.env) (pure .cont):=by
 intro hY ζ ρ st s P E ok rel a st' e k
 injection e
 exact wpAny_Continue (k ζ ρ s.heap s.toks _ (Gr.refl _ _ _ _) rel rfl)
theorem X3{test:PySem.Expr}{body orelse:List Stmt}{pos:Pos}{mt:M Bool}{m1 m2:M Fl}(ht:P9 C (isTrue test C.env (eval test C.env)) mt)(h1:Qi C (execs body C.env) m1)(h2:Qi C (execs orelse C.env) m2) :
  Qi C (exec (.If test body orelse pos) C.env) (do let b<-mt;if b then m1 else m2):=by
 intro hY ζ ρ st s P E ok rel a st' e k
 refine byC fun hG=>?_
 obtain⟨b,s1,e1,e2⟩:=Z6z e
 refine hG ?_
 clear hG
 refine wpAny_If (ht hY ζ ρ st s _ E ok rel b _ e1 fun ζ1 ρ1 h1' tk1 y G1 rel1 r1=>?_)
 injection r1
 cases b with
 |true=>exact h1 hY ζ1 ρ1 s1 _ P E ok rel1 a st' e2 fun ζ2 ρ2 h2' tk2 b2 G2 rel2 r2=>k ζ2 ρ2 h2' tk2 b2 ((G1.weak ok.bt).trans G2) rel2 r2
 |false=>exact h2 hY ζ1 ρ1 s1 _ P E ok rel1 a st' e2 fun ζ2 ρ2 h2' tk2 b2 G2 rel2 r2=>k ζ2 ρ2 h2' tk2 b2 ((G1.weak ok.bt).trans G2) rel2 r2
theorem Jz{test body orelse:PySem.Expr}{pos:Pos}{mt:M Bool}{m1 m2:M V}(ht:P9 C (isTrue test C.env (eval test C.env)) mt)(h1:Yb C (eval body C.env) m1)(h2:Yb C (eval orelse C.env) m2) :
  Yb C (eval (.IfExp test body orelse pos) C.env) (do let b<-mt;if b then m1 else m2):=by
 intro hY ζ ρ st s P E ok rel a st' e k
 refine byC fun hG=>?_
 obtain⟨b,s1,e1,e2⟩:=Z6z e
 refine hG ?_
 clear hG
 refine wpAny_IfExp (ht hY ζ ρ st s _ E ok rel b _ e1 fun ζ1 ρ1 h1' tk1 y G1 rel1 r1=>?_)
 injection r1
 cases b with
 |true=>exact h1 hY ζ1 ρ1 s1 _ P E ok rel1 a st' e2 fun ζ2 ρ2 h2' tk2 b2 G2 rel2 r2=>k ζ2 ρ2 h2' tk2 b2 (G1.trans G2) rel2 r2
 |false=>exact h2 hY ζ1 ρ1 s1 _ P E ok rel1 a st' e2 fun ζ2 ρ2 h2' tk2 b2 G2 rel2 r2=>k ζ2 ρ2 h2' tk2 b2 (G1.trans G2) rel2 r2
noncomputable def asBool(v:V):M Bool:=@V.casesOn (fun _=>M Bool) v M.fail (fun b=>pure b) (fun _=>M.fail) (fun _=>M.fail) (fun _=>M.fail) (fun _=>M.fail) (fun _=>M.fail) (fun _=>M.fail) (fun _=>M.fail) (fun _ _ _=>M.fail)
theorem V1{e:PySem.Expr}{m:M V}(h:Yb C (eval e C.env) m)(he : ∀ whole,isTrue e C.env whole=(do let v<-whole;standAt e.pos;holding [v] (truthy v)):=by intro _;rfl):P9 C (isTrue e C.env (eval e C.env)) (do let v<-m;asBool v):=by
 intro hY ζ ρ st s P E ok rel a st' e' k
 refine byC fun hG=>?_
 obtain⟨v,s1,e1,e2⟩:=Z6z e'
 refine hG ?_
 clear hG
 refine wpAny_isTrue_value (h hY ζ ρ st s _ E ok rel v _ e1 fun ζ1 ρ1 h1' tk1 y G1 rel1 r1=>?_) (he _)
 cases v with
 |bool b=>change _=_ at r1;subst r1;injection e2;exact wpAny_truthy_bool (k ζ1 ρ1 h1' tk1 _ G1 rel1 rfl)
 |_=>injection e2
theorem Z7{l r:PySem.Expr}{op:CmpOp}{pos:Pos}{whole:Sem Value}{m1 m2:M V}{g:V->V->M V}(h1:Yb C (eval l C.env) m1)(h2:Yb C (eval r C.env) m2)(hg:Ve C (compareOp op) g (VR C.W))(hm:behindInMarks op r=false:=by with_unfolding_all rfl) :
  P9 C (isTrue (.Compare l [op] [r] pos) C.env whole) (do let a<-m1;let b<-m2;let c<-g a b;asBool c):=by
 intro hY ζ ρ st s P E ok rel a' st' e kk
 refine byC fun hG=>?_
 obtain⟨a,s1,e1,e⟩:=Z6z e
 obtain⟨b,s2,e2,e⟩:=Z6z e
 obtain⟨c,s3,e3,e4⟩:=Z6z e
 refine hG ?_
 clear hG
 refine wpAny_isTrue_Compare1 (h1 hY ζ ρ st s _ E ok rel a s1 e1 fun ζ1 ρ1 h1' tk1 x G1 rel1 r1=>?_) hm
 refine h2 hY ζ1 ρ1 s1 _ _ E ok rel1 b s2 e2 fun ζ2 ρ2 h2' tk2 y G2 rel2 r2=>?_
 refine hg hY ζ2 ρ2 s2 _ _ E a b x y ok rel2 (VR.gr rel1 G2 r1) r2 c s3 e3 fun ζ3 ρ3 h3 tk3 z G3 rel3 r3=>?_
 cases c with
 |bool b=>change _=_ at r3;subst r3;injection e4;exact wpAny_truthy_bool (kk ζ3 ρ3 h3 tk3 _ ((G1.trans G2).trans G3) rel3 rfl)
 |_=>injection e4
theorem Vr{x:PySem.Expr}{pos:Pos}{whole:Sem Value}{m:M Bool}(h:P9 C (isTrue x C.env (eval x C.env)) m):P9 C (isTrue (.UnaryOp .Not x pos) C.env whole) (do let b<-m;pure (!b)):=by
 intro hY ζ ρ st s P E ok rel a st' e k
 refine byC fun hG=>?_
 obtain⟨b,s1,e1,e2⟩:=Z6z e
 injection e2
 refine hG ?_
 clear hG
 exact wpAny_isTrue_Not (h hY ζ ρ st s _ E ok rel b _ e1 fun ζ1 ρ1 h1' tk1 y G1 rel1 r1=>by injection r1;exact k ζ1 ρ1 h1' tk1 _ G1 rel1 rfl)
theorem Yy{op:BoolOp}{values:List PySem.Expr}{pos:Pos}{whole:Sem Value}{m:M Bool}(h:P9 C (allTrue op values C.env) m):P9 C (isTrue (.BoolOp op values pos) C.env whole) m:=by
 intro hY ζ ρ st s P E ok rel a st' e k
 exact wpAny_isTrue_BoolOp (h hY ζ ρ st s P E ok rel a st' e k)
theorem Vm:P9 C (allTrue .And [] C.env) (pure true):=by
 intro hY ζ ρ st s P E ok rel a st' e k
 injection e;exact wpAny_allTrue_And_nil (k ζ ρ s.heap s.toks _ (Gr.refl _ _ _ _) rel rfl)
theorem Ua:P9 C (allTrue .Or [] C.env) (pure false):=by
 intro hY ζ ρ st s P E ok rel a st' e k
 injection e;exact wpAny_allTrue_Or_nil (k ζ ρ s.heap s.toks _ (Gr.refl _ _ _ _) rel rfl)
theorem Xa{x:PySem.Expr}{rest:List PySem.Expr}{m1 m2:M Bool}(h1:P9 C (isTrue x C.env (eval x C.env)) m1)(h2:P9 C (allTrue .And rest C.env) m2) :
  P9 C (allTrue .And (x::rest) C.env) (do let b<-m1;if b then m2 else pure false):=by
 intro hY ζ ρ st s P E ok rel a st' e k
 refine byC fun hG=>?_
 obtain⟨b,s1,e1,e2⟩:=Z6z e
 refine hG ?_
 clear hG
 refine wpAny_allTrue_And_cons (h1 hY ζ ρ st s _ E ok rel b _ e1 fun ζ1 ρ1 h1' tk1 y G1 rel1 r1=>?_)
 injection r1
 cases b with
 |true=>exact h2 hY ζ1 ρ1 s1 _ P E ok rel1 a st' e2 fun ζ2 ρ2 h2' tk2 b2 G2 rel2 r2=>k ζ2 ρ2 h2' tk2 b2 (G1.trans G2) rel2 r2
 |false=>injection e2;exact k ζ1 ρ1 h1' tk1 _ G1 rel1 rfl
theorem X6{x:PySem.Expr}{rest:List PySem.Expr}{m1 m2:M Bool}(h1:P9 C (isTrue x C.env (eval x C.env)) m1)(h2:P9 C (allTrue .Or rest C.env) m2) :
  P9 C (allTrue .Or (x::rest) C.env) (do let b<-m1;if b then pure true else m2):=by
 intro hY ζ ρ st s P E ok rel a st' e k
 refine byC fun hG=>?_
 obtain⟨b,s1,e1,e2⟩:=Z6z e
 refine hG ?_
 clear hG
 refine wpAny_allTrue_Or_cons (h1 hY ζ ρ st s _ E ok rel b _ e1 fun ζ1 ρ1 h1' tk1 y G1 rel1 r1=>?_)
 injection r1
 cases b with
 |false=>exact h2 hY ζ1 ρ1 s1 _ P E ok rel1 a st' e2 fun ζ2 ρ2 h2' tk2 b2 G2 rel2 r2=>k ζ2 ρ2 h2' tk2 b2 (G1.trans G2) rel2 r2
 |true=>injection e2;exact k ζ1 ρ1 h1' tk1 _ G1 rel1 rfl
theorem Zf{pos:Pos}:T2 C (spliced (backTo pos (starEach [] C.env))) (pure []):=by
 intro hY ζ ρ st s P E ok rel a st' e k
 injection e
 exact spliced_none (k ζ ρ s.heap s.toks _ (Gr.refl _ _ _ _) rel rfl)
theorem Z3{pos:Pos}{e:PySem.Expr}{rest:List PySem.Expr}{m1:M V}{m2:M (List V)}(h1:Yb C (eval e C.env) m1)(h2:T2 C (spliced (backTo pos (starEach rest C.env))) m2)
  (he:starEach (e::rest) C.env=(false,eval e C.env)::starEach rest C.env:=by rfl) :
  T2 C (spliced (backTo pos (starEach (e::rest) C.env))) (do let v<-m1;let vs<-m2;pure (v::vs)):=by
 intro hY ζ ρ st s P E ok rel a st' e' k
 refine byC fun hG=>?_
 obtain⟨v,s1,e1,e2⟩:=Z6z e'
 obtain⟨vs,s2,e3,e4⟩:=Z6z e2
 injection e4
 refine hG ?_
 clear hG
 refine spliced_more (h1 hY ζ ρ st s _ E ok rel v _ e1 fun ζ1 ρ1 h1' tk1 y G1 rel1 r1=>?_) he
 exact h2 hY ζ1 ρ1 s1 _ _ E ok rel1 vs _ e3 fun ζ2 ρ2 h2' tk2 ys G2 rel2 r2=>k ζ2 ρ2 h2' tk2 _ (G1.trans G2) rel2 ⟨y,ys,rfl,VR.gr rel1 G2 r1,r2⟩
noncomputable def lim:Nat:=2^20
theorem J3{n:Nat}(h:n<=lim):n<=sizeLine:=Z16 h (by show (2:Nat)^20<=2^24;decide)
noncomputable def M.guard(b:Bool):M Unit:=fun s=>if b then some ((),s) else none
theorem Z70{b:Bool}{s:St}{r}(h:M.guard b s=some r):b=true/\r=((),s):=by
 unfold M.guard at h
 split at h
 ·injection h;exact⟨by assumption,rfl⟩
 ·injection h
noncomputable def mkTup(vs:List V):M V:=do M.guard (vs.all V.low&&decide (vs.length<=lim));pure (.tup vs)
noncomputable def M.new(n:Nat)(O:O):M V:=fun s=>match s.hp n with
 |none=>some (.ref n,{s with hp:=upd s.hp n (some O)})
 |some _=>none
theorem M.new_some{n:Nat}{O:O}{s:St}{r}(h:M.new n O s=some r):s.hp n=none/\r=(.ref n,{s with hp:=upd s.hp n (some O)}):=by
 unfold M.new at h
 cases e:s.hp n with
 |none=>rw [e] at h;cases h;exact⟨rfl,rfl⟩
 |some _=>rw [e] at h;cases h
noncomputable def Wl(c:Option Nat)(vs:List V):M V:=do
 M.guard (vs.all V.low&&decide (vs.length<=lim))
 match c with
 |none=>pure (.lst vs)
 |some n=>M.new n (.list vs)
noncomputable def Vd(C:Cx):Option Nat->Prop
 |none=>True
 |some n=>n<C.T/\(n<100\/C.B<=n)
theorem V0{elts:List PySem.Expr}{k:Nat}{pos:Pos}{m:M (List V)}(h:T2 C (spliced (backTo pos (starEach elts C.env))) m):Yb C (eval (.Tuple elts k pos) C.env) (do let vs<-m;mkTup vs):=by
 intro hY ζ ρ st s P E ok rel a st' e k
 refine byC fun hG=>?_
 obtain⟨vs,s1,e1,e2⟩:=Z6z e
 obtain⟨_,s2,e3,e4⟩:=Z6z e2
 injection e4
 obtain⟨hg,hs⟩:=Z70 e3
 injection hs
 refine hG ?_
 clear hG
 simp only [Z5q,decide_eq_true_eq] at hg
 refine wpAny_Tuple_spliced (h hY ζ ρ st s _ E ok rel vs _ e1 fun ζ1 ρ1 h1 tk1 ys G1 rel1 r1=>⟨J3 (r1.length▸hg.2),?_⟩)
 obtain⟨R',G'⟩:=rel1.pushZ {cls:=.type "tuple",data:=.seq ys.toArray} rfl
 refine k _ _ _ _ _ (G1.trans G') R' ?_
 refine(?_:Exists _)
 exact⟨_,_,ys.toArray,rfl,Z4 _ _ _,⟨rfl,0,rfl⟩,by simpa using (r1.gr rel1 G').toS hg.1⟩
theorem Qy{hY ζ:HM}{ρ:RM}{st st':St}{h:Heap}{c:Option Nat}{vs:List V}{ys:List Value}{o:Obj}{v:V}(rel:Rel C hY ζ ρ st h)(hc:Vd C c)(e:Wl c vs st=some (v,st'))(r:VRa C.W ζ ρ vs ys)
  (ho:LstIs o ys.toArray) (hf:o.isFreed=false) : ∃ ζ' ρ',Gr C.T h ζ ρ (h.push o) ζ' ρ'/\Rel C hY ζ' ρ' st' (h.push o)/\VR C.W ζ' ρ' v (.ref h.objs.size):=by
 refine byC fun hG=>?_
 obtain⟨_,s2,e3,e4⟩:=Z6z e
 obtain⟨hg,hs⟩:=Z70 e3
 injection hs
 refine hG ?_
 clear hG
 simp only [Z5q,decide_eq_true_eq] at hg
 cases c with
 |none =>
  injection e4
  obtain⟨R',G'⟩:=rel.pushZ o hf
  refine⟨_,_,G',R',?_⟩
  refine(?_:Exists _)
  exact⟨_,_,_,rfl,Z4 _ _ _,ho,by simpa using (r.gr rel G').toS hg.1⟩
 |some n =>
  obtain⟨hn,h2⟩:=M.new_some e4
  injection h2
  have hle:Le ρ (upd ρ n (some h.objs.size)):=Wh (rel.dom n hn)
  obtain⟨R',G'⟩:=rel.pushS n hn hc.1 hc.2 (.list vs) o hf ⟨_,ho,by simpa using (r.mono (Le.refl _) hle).toS hg.1⟩
  refine⟨_,_,G',R',?_⟩
  refine(?_:Exists _)
  exact⟨_,Z4 _ _ _,rfl⟩
theorem X2{elts:List PySem.Expr}{pos:Pos}{m:M (List V)}(c:Option Nat)(h:T2 C (spliced (backTo pos (starEach elts C.env))) m)(hc:Vd C c):Yb C (eval (.List elts pos) C.env) (do let vs<-m;Wl c vs):=by
 intro hY ζ ρ st s P E ok rel a st' e k
 refine byC fun hG=>?_
 obtain⟨vs,s1,e1,e2⟩:=Z6z e
 refine hG ?_
 clear hG
 refine wpAny_List_spliced (h hY ζ ρ st s _ E ok rel vs _ e1 fun ζ1 ρ1 h1 tk1 ys G1 rel1 r1=>?_)
 have hl:vs.length<=lim:=by
  refine byC fun hG=>?_
  obtain⟨_,s2,e3,e4⟩:=Z6z e2
  obtain⟨hg,_⟩:=Z70 e3
  refine hG ?_
  clear hG
  simp only [Z5q,decide_eq_true_eq] at hg;exact hg.2
 refine⟨J3 (r1.length▸hl),?_⟩
 refine byC fun hG=>?_
 obtain⟨ζ',ρ',G',R',hv⟩:=Qy (o:={cls:=.type "list",data:=.seq ys.toArray}) rel1 hc e2 r1 ⟨0,rfl⟩ rfl
 refine hG ?_
 clear hG
 exact k _ _ _ _ _ (G1.trans G') R' hv
end Lay
namespace Lay
variable{C:Cx}
noncomputable def Ng(g:Int->Int->M V)(a b:V):M V:=fun s=>(un V.int a).bind fun i=>(un V.int b).bind fun j=>g i j s
noncomputable def Z01(f:Int->Int->Int):V->V->M V:=Ng fun i j=>pure (.int (f i j))
noncomputable def C8(g:Int->Int->Bool)(f:Int->Int->Int):V->V->M V:=Ng fun i j=>do M.guard (g i j);pure (.int (f i j))
noncomputable def vCmp(f:Int->Int->Bool):V->V->M V:=Ng fun i j=>pure (.bool (f i j))
inductive OnInts(g:Int->Int->M V)(W:Wd)(ζ:HM)(ρ:RM)(a b:V)(x y:Value)(st:St)(r:V×St):Prop
 |mk (i j:Int) (t u:Tok) (hx:x = .int i t) (hy:y = .int j u) (e:g i j st=some r)
theorem Qe{g:Int->Int->M V}{W:Wd}{ζ:HM}{ρ:RM}{a b:V}{x y:Value}{st:St}{r:V×St}(e:Ng g a b st=some r)(ra:VR W ζ ρ a x)(rb:VR W ζ ρ b y):OnInts g W ζ ρ a b x y st r:=by
 refine byC fun hG=>?_
 obtain⟨i,h1,e⟩:=ob e
 obtain⟨j,h2,e⟩:=ob e
 rw [Zi h1] at ra
 rw [Zi h2] at rb
 obtain⟨t,rfl⟩:=ra
 obtain⟨u,rfl⟩:=rb
 exact hG ⟨_,_,t,u,rfl,rfl,e⟩
theorem VR.ofInt{W:Wd}{ζ:HM}{ρ:RM}(i:Int)(t:Tok):VR W ζ ρ (.int i) (.int i t):=Exists.intro _ rfl
theorem VR.ofBool{W:Wd}{ζ:HM}{ρ:RM}(i:Bool):VR W ζ ρ (.bool i) (.bool i):=rfl
theorem Ie{op:Operator}{g:Int->Int->Bool}{f:Int->Int->Int}(h : ∀ (A:Around) (E:Value->Shared->Prop) (s:Shared) (Q:Value->Shared->Prop) (a b:Int) (t u:Tok),g a b=true->Q (.int (f a b) s.toks) {s with toks:=s.toks+1}->wpAny (model C.W.prog C.W.w) A (binaryOp op (.int a t) (.int b u)) Q E s) :
  Ve C (binaryOp op) (C8 g f) (VR C.W):=by
 intro hY ζ ρ st s P E a b x y ok rel ra rb v st' e k
 refine byC fun hG=>?_
 obtain⟨i,j,t,u,rfl,rfl,e⟩:=Qe e ra rb
 obtain⟨_,s2,e1,e2⟩:=Z6z e
 obtain⟨hg,hs⟩:=Z70 e1
 refine hG ?_
 clear hG
 injection hs;injection e2
 exact h _ _ _ _ _ _ _ _ hg (k ζ ρ s.heap _ _ (Gr.refl _ _ _ _) rel (.ofInt _ _))
theorem Mw{op:Operator}{f:Int->Int->Int}(h : ∀ (A:Around) (E:Value->Shared->Prop) (s:Shared) (Q:Value->Shared->Prop) (a b:Int) (t u:Tok),Q (.int (f a b) s.toks) {s with toks:=s.toks+1}->wpAny (model C.W.prog C.W.w) A (binaryOp op (.int a t) (.int b u)) Q E s) :
  Ve C (binaryOp op) (Z01 f) (VR C.W):=by
 intro hY ζ ρ st s P E a b x y ok rel ra rb v st' e k
 refine byC fun hG=>?_
 obtain⟨i,j,t,u,rfl,rfl,e⟩:=Qe e ra rb
 injection e
 refine hG ?_
 clear hG
 exact h _ _ _ _ _ _ _ _ (k ζ ρ s.heap _ _ (Gr.refl _ _ _ _) rel (.ofInt _ _))
theorem C7{op:CmpOp}{f:Int->Int->Bool}(h : ∀ (A:Around) (E:Value->Shared->Prop) (s:Shared) (Q:Value->Shared->Prop) (a b:Int) (t u:Tok),Q (.bool (f a b)) s->wpAny (model C.W.prog C.W.w) A (compareOp op (.int a t) (.int b u)) Q E s) :
  Ve C (compareOp op) (vCmp f) (VR C.W):=by
 intro hY ζ ρ st s P E a b x y ok rel ra rb v st' e k
 refine byC fun hG=>?_
 obtain⟨i,j,t,u,rfl,rfl,e⟩:=Qe e ra rb
 injection e
 refine hG ?_
 clear hG
 exact h _ _ _ _ _ _ _ _ (k ζ ρ s.heap _ _ (Gr.refl _ _ _ _) rel (.ofBool _))
noncomputable def Kt:=Z01 (· - ·)
noncomputable def vMul:=C8 (fun i j=>decide (i.natAbs<2^63)||decide (j.natAbs<2^63)) (· * ·)
noncomputable def vMod:=C8 (fun _ j=>decide (j≠0)) Int.fmod
noncomputable def T1:=Z01 Builtin.bitAnd
noncomputable def vOr:=Z01 Builtin.bitOr
noncomputable def vLt:=vCmp (fun i j=>decide (i<j))
noncomputable def vLe:=vCmp (fun i j=>decide (i<=j))
noncomputable def vGt:=vCmp (fun i j=>decide (j<i))
theorem Z04{i:Int}(h:i.natAbs<2^63):Builtin.Int.intBits i<=64:=by
 unfold Builtin.Int.intBits
 split
 ·exact ar1
 ·rename_i h0
  have h0:i≠0:=by simpa using h0
  have:i.natAbs.log2<63:=(Nat.log2_lt (by exact ar2 h0)).mpr h
  exact ar3 this
theorem Jr:Ve C (binaryOp .Sub) Kt (VR C.W):=Mw fun _ _ _ _ _ _ _ _ h=>SiftDown.sub_int h
theorem C9:Ve C (binaryOp .Mult) vMul (VR C.W):=Ie fun _ _ _ _ a b _ _ hg h=>by
 refine mul_int h ?_
 simp only [Z5x,decide_eq_true_eq] at hg
 rcases hg with hg|hg
 ·exact IntMulOk.of_left (Z04 hg)
 ·exact IntMulOk.of_right (Z04 hg)
theorem Ig:Ve C (binaryOp .Mod) vMod (VR C.W):=Ie fun _ _ _ _ a b _ _ hg h=>mod_int' (of_decide_eq_true hg) h
theorem Kz:Ve C (binaryOp .BitAnd) T1 (VR C.W):=Mw fun _ _ _ _ _ _ _ _ h=>and_int h
theorem vOr_K:Ve C (binaryOp .BitOr) vOr (VR C.W):=Mw fun _ _ _ _ _ _ _ _ h=>or_int h
theorem vLt_K:Ve C (compareOp .Lt) vLt (VR C.W):=C7 fun _ _ _ _ _ _ _ _ h=>lt_int h
theorem vLe_K:Ve C (compareOp .LtE) vLe (VR C.W):=C7 fun _ _ _ _ _ _ _ _ h=>le_int h
theorem Te:Ve C (compareOp .Gt) vGt (VR C.W):=C7 fun _ _ _ _ _ _ _ _ h=>gt_int h
noncomputable def Fk(a:V):M V:=fun s=>(un V.int a).bind fun i=>some (.int (-i),s)
theorem Jp:SimK1 C (unaryOp .USub) Fk:=by
 intro hY ζ ρ st s P E a x ok rel ra v st' e k
 refine byC fun hG=>?_
 obtain⟨i,h,e⟩:=ob e
 rw [Zi h] at ra
 obtain⟨t,rfl⟩:=ra
 injection e
 exact hG (neg_int (k ζ ρ s.heap _ _ (Gr.refl _ _ _ _) rel (Exists.intro _ rfl)))
mutual
def V.py:V->Option PyData
 |.none=>some .none
 |.bool b=>some (.bool b)
 |.int i=>some (.int i)
 |.str s=>some (.str s)
 |.tup xs=>(V.pys xs).map .tuple
 |.lst xs=>(V.pys xs).map .list
 |.dct _=>.none
 |.ref _=>.none
 |.val _=>.none
 |.rng _ _ _=>.none
def V.pys:List V->Option (List PyData)
 | []=>some []
 |x::xs=>(V.py x).bind fun d=>(V.pys xs).bind fun ds=>.some (d::ds)
end
mutual
theorem I1{W:Wd}{ζ:HM}{ρ:RM}{h:Heap}(hz:Le ζ h.get?) : ∀ (v:V) (x:Value) (d:PyData),V.py v=some d->VR W ζ ρ v x->∃ as,Reads h x d as
 |.none,_,_,e,r=>by change _=_ at r;subst r;injection e;exact⟨_,.none⟩
 |.bool b,_,_,e,r=>by change _=_ at r;subst r;injection e;exact⟨_,.bool _⟩
 |.int i,_,_,e,r=>by obtain⟨t,rfl⟩:=r;injection e;exact⟨_,.int _ _⟩
 |.str i,_,_,e,r=>by obtain⟨t,rfl⟩:=r;injection e;exact⟨_,.str _ _⟩
 |.tup xs,_,_,e,r=>by
  refine byC fun hG=>?_
  obtain⟨a,o,ys,rfl,h1,⟨hc,n,hd⟩,h2⟩:=r
  refine hG ?_
  clear hG
  change (V.pys xs).map _=_ at e
  cases q:V.pys xs with
  |none=>rw [q] at e;injection e
  |some ds =>
   rw [q] at e;injection e
   obtain⟨as,ra⟩:=pys_reads hz xs _ ds q h2
   exact⟨_,.tuple (hz _ _ h1) hc hd ra⟩
 |.lst xs,_,_,e,r=>by
  refine byC fun hG=>?_
  obtain⟨a,o,ys,rfl,h1,hl,h2⟩:=r
  obtain⟨n,hd⟩:=hl.data
  refine hG ?_
  clear hG
  have hc:=hl.cls
  change (V.pys xs).map _=_ at e
  cases q:V.pys xs with
  |none=>rw [q] at e;injection e
  |some ds =>
   rw [q] at e;injection e
   obtain⟨as,ra⟩:=pys_reads hz xs _ ds q h2
   exact⟨_,.list (hz _ _ h1) hc hd ra⟩
 |.dct _,_,_,e,_=>by injection e
 |.ref _,_,_,e,_=>by injection e
 |.val _,_,_,e,_=>by injection e
 |.rng _ _ _,_,_,e,_=>by injection e
theorem pys_reads{W:Wd}{ζ:HM}{ρ:RM}{h:Heap}(hz:Le ζ h.get?) : ∀ (v:List V) (x:List Value) (d:List PyData),V.pys v=some d->VRs W ζ ρ v x->∃ as,ReadsAll h x d as
 | [],_,_,e,r=>by change _=_ at r;subst r;injection e;exact⟨_,.nil⟩
 |v::vs,_,_,e,r=>by
  refine byC fun hG=>?_
  obtain⟨y,r',rfl,_,h1,h2⟩:=r
  refine hG ?_
  clear hG
  change (V.py v).bind _=_ at e
  obtain⟨d,q1,e⟩:=ob e
  obtain⟨ds,q2,e⟩:=ob e
  injection e with e
  subst e
  obtain⟨as,ra⟩:=I1 hz v _ d q1 h1
  obtain⟨bs,rb⟩:=pys_reads hz vs _ ds q2 h2
  exact⟨_,.cons ra rb⟩
end
noncomputable def Va(v:V)(s:St):Option PyData:=(((un V.ref v).bind s.hp).bind (un O.list)).elim v.py fun xs=>(V.pys xs).map .list
theorem Vn{hY ζ:HM}{ρ:RM}{st:St}{h:Heap}(rel:Rel C hY ζ ρ st h){v:V}{x:Value}{d:PyData}(e:Va v st=some d)(r:VR C.W ζ ρ v x) : ∃ as,Reads h x d as:=by
 have hz:Le ζ h.get?:=rel.frozen
 unfold Va at e
 cases w:((un V.ref v).bind st.hp).bind (un O.list) with
 |none=>rw [w] at e;exact I1 hz _ _ _ e r
 |some xs =>
  rw [w] at e
  refine byC fun hG=>?_
  obtain⟨O,w,w2⟩:=ob w
  obtain⟨n,w,q⟩:=ob w
  rw [Zi w] at r
  rw [Zi w2] at q
  obtain⟨ds,q',rfl⟩:=Z50.mp e
  obtain⟨a,o,h1,h2,ys,hl,h3⟩:=rel.slot n _ q
  obtain⟨n',hd⟩:=hl.data
  obtain⟨a',h1',rfl⟩:=r
  rw [h1] at h1';injection h1'
  obtain⟨as,ra⟩:=pys_reads hz xs _ ds q' h3
  exact hG ⟨_,.list h2 hl.cls hd ra⟩
noncomputable def vEq(neg:Bool)(a b:V):M V:=fun s=>(Va a s).bind fun d=>(Va b s).bind fun e=>if (SeqAt.shaped d&&SeqAt.shaped e)=true then some (.bool (PyData.eqv d e^^neg),s) else none
theorem Ui:Ve C (compareOp .Eq) (vEq false) (VR C.W):=by
 intro hY ζ ρ st s P E a b x y ok rel ra rb v st' e k
 refine byC fun hG=>?_
 obtain⟨d,q1,e⟩:=ob e
 obtain⟨d',q2,e⟩:=ob e
 obtain⟨hs,e⟩:=io e
 injection e
 simp only [Z5q] at hs
 obtain⟨as,r1⟩:=Vn rel q1 ra
 obtain⟨bs,r2⟩:=Vn rel q2 rb
 have hu:=ok.room.units
 exact hG (SeqAt.compareEq_shaped r1 r2 hs.1 hs.2 (by exact ar4 hu) (k ζ ρ s.heap _ _ (Gr.refl _ _ _ _) rel (congrArg Value.bool (Z5z _).symm)))
theorem Uj:Ve C (compareOp .NotEq) (vEq true) (VR C.W):=by
 intro hY ζ ρ st s P E a b x y ok rel ra rb v st' e k
 refine byC fun hG=>?_
 obtain⟨d,q1,e⟩:=ob e
 obtain⟨d',q2,e⟩:=ob e
 obtain⟨hs,e⟩:=io e
 injection e
 simp only [Z5q] at hs
 obtain⟨as,r1⟩:=Vn rel q1 ra
 obtain⟨bs,r2⟩:=Vn rel q2 rb
 have hu:=ok.room.units
 exact hG (SeqAt.compareNe_shaped r1 r2 hs.1 hs.2 (by exact ar4 hu) (k ζ ρ s.heap _ _ (Gr.refl _ _ _ _) rel (congrArg Value.bool (Z60 _).symm)))
theorem VRk.get{K:Type} [DecidableEq K]{W:Wd}{ζ:HM}{ρ:RM} : ∀ {kvs:List (K×V)} {kys:List (K×Value)},VRk W ζ ρ kvs kys->∀ k,match Y1 kvs k with
  |none=>valueAt kys k=none
  |some v=>v.low=true/\∃ y,valueAt kys k=some y/\VR W ζ ρ v y
 | [],_,h,k=>by change _=_ at h;subst h;rfl
 |(k',v)::r,_,hH,k=>by
  refine byC fun hG=>?_
  obtain⟨y,r',e,hl,h1,h2⟩:=hH
  subst e
  refine hG ?_
  clear hG
  by_cases q:k'=k
  ·rw [Yx,if_pos q]
   exact⟨hl,y,(Yx k' y r' k).trans (if_pos q),h1⟩
  ·have:=h2.get k
   rw [Yx,if_neg q,show valueAt ((k',y)::r') k=valueAt r' k from(Yx k' y r' k).trans (if_neg q)]
   exact this
theorem VRk.some_iff{K:Type} [DecidableEq K]{W:Wd}{ζ:HM}{ρ:RM}{kvs:List (K×V)}{kys:List (K×Value)}(h:VRk W ζ ρ kvs kys)(k:K):(valueAt kys k).isSome=(Y1 kvs k).isSome:=by
 have:=h.get k
 cases e:Y1 kvs k with
 |none=>rw [e] at this;rw [this];rfl
 |some v=>rw [e] at this;obtain⟨_,y,h1,_⟩:=this;rw [h1];rfl
theorem VRk.any{K:Type} [DecidableEq K]{W:Wd}{ζ:HM}{ρ:RM}(k:K) : ∀ {kvs:List (K×V)} {kys:List (K×Value)},VRk W ζ ρ kvs kys->kys.any (fun kv=>decide (kv.1=k))=kvs.any (fun kv=>decide (kv.1=k))
 | [],_,h=>by change _=_ at h;subst h;rfl
 |(k',v)::r,_,hH=>by obtain⟨y,r',e,hl,h1,h2⟩:=hH;subst e;simp only [List.any_cons,VRk.any k h2]
theorem VRk.append{K:Type}{W:Wd}{ζ:HM}{ρ:RM} : ∀ {v v':List (K×V)} {x x':List (K×Value)},VRk W ζ ρ v x->VRk W ζ ρ v' x'->VRk W ζ ρ (v++v') (x++x')
 | [],_,_,_,h,h'=>by change _=_ at h;subst h;exact h'
 |(_,_)::_,_,_,_,hH,h'=>by obtain⟨y,r,e,hl,h1,h2⟩:=hH;subst e;exact⟨y,_,rfl,hl,h1,h2.append h'⟩
theorem VRk.mapSet{K:Type} [DecidableEq K]{W:Wd}{ζ:HM}{ρ:RM}(k:K){u:V}{z:Value}(hl:u.low=true)(hu:VR W ζ ρ u z) : ∀ {kvs:List (K×V)} {kys:List (K×Value)},VRk W ζ ρ kvs kys->
  VRk W ζ ρ (kvs.map fun kv=>if kv.1=k then (kv.1,u) else kv) (kys.map fun kv=>if kv.1=k then (kv.1,z) else kv)
 | [],_,h=>by change _=_ at h;subst h;rfl
 |(k',v)::r,_,hH=>by
  refine byC fun hG=>?_
  obtain⟨y,r',e,hl',h1,h2⟩:=hH
  subst e
  refine hG ?_
  clear hG
  simp only [Z3s]
  by_cases q:k'=k
  ·simp only [q,if_true];exact⟨z,_,rfl,hl,hu,VRk.mapSet k hl hu h2⟩
  ·simp only [q,if_false];exact⟨y,_,rfl,hl',h1,VRk.mapSet k hl hu h2⟩
theorem VRk.stored{K:Type} [DecidableEq K]{W:Wd}{ζ:HM}{ρ:RM}{kvs:List (K×V)}{kys:List (K×Value)}(h:VRk W ζ ρ kvs kys)(k:K){v:V}{y:Value}(hl:v.low=true)(hv:VR W ζ ρ v y):VRk W ζ ρ (Y6 kvs k v) (stored kys k y):=by
 unfold Y6 PySem.stored
 rw [h.any k]
 split
 ·exact VRk.mapSet k hl hv h
 ·exact h.append ⟨y,[],rfl,hl,hv,rfl⟩
theorem VRk.length{K:Type}{W:Wd}{ζ:HM}{ρ:RM} : ∀ {v:List (K×V)} {x:List (K×Value)},VRk W ζ ρ v x->x.length=v.length
 | [],_,h=>by change _=_ at h;subst h;rfl
 |(_,_)::_,_,hH=>by obtain⟨y,r,e,hl,h1,h2⟩:=hH;subst e;simp [h2.length]
theorem Ent.dictOf{W:Wd}{K:Type} [DecidableEq K]{knd:KeyKind W.prog W.w K}{es:Array DictEntry}{kys:List (K×Value)}{n:Nat}{h:Heap}{a:Addr}(e:Ent W knd es kys)(ho:h.get? a=some (Gq es n)):h.DictOf knd a kys :=
 ⟨_,es,n,ho,⟨rfl,rfl,rfl⟩,rfl,e.1,e.2.1,e.2.2⟩
theorem Ent.back{W:Wd}{K:Type} [DecidableEq K]{knd:KeyKind W.prog W.w K}{kys:List (K×Value)}{h:Heap}{a:Addr}(e:h.DictOf knd a kys) : ∃ es n,h.get? a=some (Gq es n)/\Ent W knd es kys:=by
 refine byC fun hG=>?_
 obtain⟨o,es,ep,ho,⟨h1,h2,h3⟩,hd,hk,hp,hn⟩:=e
 refine hG ?_
 clear hG
 refine⟨es,ep,?_,hk,hp,hn⟩
 refine byC fun hG=>?_
 obtain⟨c,d,dt,sl⟩:=o
 refine hG ?_
 clear hG
 simp only at h1 h2 h3 hd
 subst h1 h2 h3 hd
 exact ho
noncomputable def K4(v:V)(s:St):Option (List (Int×V)):=(un V.dct v).or (((un V.ref v).bind s.hp).bind (un O.idict))
theorem Ul{hY ζ:HM}{ρ:RM}{st:St}{h:Heap}(rel:Rel C hY ζ ρ st h){v:V}{x:Value}{kvs:List (Int×V)}(e:K4 v st=some kvs)(r:VR C.W ζ ρ v x) :
  ∃ a kys,x = .ref a/\(a==sysModules)=false/\h.DictOf (intKind C.W.prog C.W.w) a kys/\VRk C.W ζ ρ kvs kys:=by
 refine byC fun hG=>?_
 rcases oro e with e|e
 ·rw [Zi e] at r
  obtain⟨a,es,n,kys,rfl,h1,h2,h3⟩:=r
  exact hG ⟨a,kys,rfl,beq_eq_false_iff_ne.mpr fun q=>by rw [q,rel.sysz] at h1;injection h1,h2.dictOf (rel.frozen _ _ h1),VRk_p.mpr h3⟩
 ·obtain⟨O,e,e2⟩:=ob e
  obtain⟨n,e,q⟩:=ob e
  rw [Zi e] at r
  rw [Zi e2] at q
  obtain⟨a',h1',rfl⟩:=r
  obtain⟨a,o,h1,h2,es,n',kys,rfl,h3,h4⟩:=rel.slot n _ q
  obtain rfl:a=a':=Z54 (h1.symm.trans h1')
  exact hG ⟨a,kys,rfl,beq_eq_false_iff_ne.mpr fun q=>rel.sysr n (q▸h1),h3.dictOf h2,h4⟩
theorem Wi(i:Int)(t:Tok){W:Wd}:(intKind W.prog W.w).is i (.int i t)=true:=by simp [intKind,Value.isInt]
noncomputable def Uc(vs:List V):Option (List Int):=un (Z3p V.int) vs
theorem Dg{α β:Type}{f:α->β}(i : ∀ x y,f x=f y->x=y)(l:List α) : ∀ m,l.map f=m.map f->l=m:=by
 induction l with
 |nil=>intro m h;cases m with|nil=>rfl|cons _ _=>exact(Z2c _ _ h.symm).elim
 |cons a r ih =>
  intro m h
  cases m with
  |nil=>exact(Z2c _ _ h).elim
  |cons b q=>rw [i a b (List.cons.inj h).1,ih q (List.cons.inj h).2]
theorem Ml(l m:List Int)(h:l.map V.int=m.map V.int):l=m:=Dg (fun _ _ e=>V.int.inj e) l m h
theorem Kl(l:List Int):Uc (l.map V.int)=some l:=Ym Ml
theorem Pz{W:Wd}{ζ:HM}{ρ:RM}{l:List Int} : ∀ {ys:List Value},VRs W ζ ρ (l.map .int) ys->ItemsAre (intKind W.prog W.w) l ys:=by
 induction l with
 |nil=>intro ys h;change _=_ at h;subst h;exact .nil
 |cons i r ih =>
  intro ys h
  refine byC fun hG=>?_
  obtain⟨y,r',rfl,_,⟨t,rfl⟩,h2⟩:=h
  exact hG (.cons (Wi i t) (ih h2))
theorem Ln{W:Wd}{ζ:HM}{ρ:RM}{vs:List V}{l:List Int}{ys:List Value}(e:Uc vs=some l)(h:VRs W ζ ρ vs ys):ItemsAre (intKind W.prog W.w) l ys:=Pz (Zi e▸h)
theorem Mu{hY ζ:HM}{ρ:RM}{st:St}{h:Heap}(rel:Rel C hY ζ ρ st h){vs:List V}{l:List Int}{x:Value}(e:Uc vs=some l)(r:VR C.W ζ ρ (.tup vs) x) :
  ∃ a,x = .ref a/\IsTupleKey (intKind C.W.prog C.W.w) h l a/\∃ o ks,ζ a=some o/\Hw o ks/\ItemsAre (intKind C.W.prog C.W.w) l ks.toList:=by
 refine byC fun hG=>?_
 obtain⟨a,o,ys,rfl,h1,⟨hc,n,hd⟩,h2⟩:=r
 refine hG ?_
 clear hG
 exact⟨a,rfl,⟨o,ys,n,rel.frozen _ _ h1,hc,hd,Ln e h2⟩,o,ys,h1,⟨hc,n,hd⟩,Ln e h2⟩
theorem TKeys.at{hY ζ:HM}{ρ:RM}{st:St}{h:Heap}(rel:Rel C hY ζ ρ st h) : ∀ {kvs:List (List Int×V)} {kys:List (List Int×Addr×Value)},TKeys C.W ζ ρ kvs kys->∀ x∈kys,IsTupleKey (intKind C.W.prog C.W.w) h x.1 x.2.1
 | [],_,e,x,hx=>by change _=_ at e;subst e;injection hx
 |(_,_)::_,_,hH,x,hx=>by
  refine byC fun hG=>?_
  obtain⟨a,y,r,ks,o,e,h0,⟨hc,n,hd⟩,h1,hl,h2,h3⟩:=hH
  subst e
  refine hG ?_
  clear hG
  rcases Z3z.mp hx with rfl|hx
  ·exact⟨o,ks,n,rel.frozen _ _ h0,hc,hd,h1⟩
  ·exact h3.at rel x hx
theorem TKeys.get{W:Wd}{ζ:HM}{ρ:RM} : ∀ {kvs:List (List Int×V)} {kys:List (List Int×Addr×Value)},TKeys W ζ ρ kvs kys->∀ k,match Y1 kvs k with
  |none=>atKey kys k=none
  |some v=>v.low=true/\∃ p,atKey kys k=some p/\VR W ζ ρ v p.2
 | [],_,h,k=>by change _=_ at h;subst h;rfl
 |(k',v)::r,_,hH,k=>by
  refine byC fun hG=>?_
  obtain⟨a,y,r',ks,o,e,h0,ht,h1,hl,h2,h3⟩:=hH
  subst e
  refine hG ?_
  clear hG
  by_cases q:k'=k
  ·rw [Yx,if_pos q]
   exact⟨hl,_,(Yx k' (a,y) r' k).trans (if_pos q),h2⟩
  ·have:=h3.get k
   rw [Yx,if_neg q,show atKey ((k',a,y)::r') k=atKey r' k from(Yx k' (a,y) r' k).trans (if_neg q)]
   exact this
theorem TKeys.some_iff{W:Wd}{ζ:HM}{ρ:RM}{kvs:List (List Int×V)}{kys:List (List Int×Addr×Value)}(h:TKeys W ζ ρ kvs kys)(k:List Int):(atKey kys k).isSome=(Y1 kvs k).isSome:=by
 have:=h.get k
 cases e:Y1 kvs k with
 |none=>rw [e] at this;rw [this];rfl
 |some v=>rw [e] at this;obtain⟨_,y,h1,_⟩:=this;rw [h1];rfl
theorem P4{hY ζ:HM}{ρ:RM}{st:St}{h:Heap}(rel:Rel C hY ζ ρ st h){n:Nat}{kvs:List (List Int×V)}(e:st.hp n=some (.tdict kvs)){x:Value}(r:VR C.W ζ ρ (.ref n) x) :
  ∃ a kys,x = .ref a/\ρ n=some a/\(a==sysModules)=false/\h.DictOfH (tupleKind (intKind C.W.prog C.W.w)) a kys/\TKeys C.W ζ ρ kvs kys:=by
 refine byC fun hG=>?_
 obtain⟨a',h1',rfl⟩:=r
 obtain⟨a,o,h1,h2,es,n',kys,rfl,h3,h4,h5⟩:=rel.slot n _ e
 refine hG ?_
 clear hG
 obtain rfl:a=a':=Z54 (h1.symm.trans h1')
 refine⟨a,kys,rfl,h1,?_,⟨_,es,n',h2,⟨rfl,rfl,rfl⟩,rfl,h3,h5.at rel,h4⟩,h5⟩
 rw [beq_eq_false_iff_ne];intro q;exact rel.sysr n (q▸h1)
noncomputable def vIn(neg:Bool)(x c:V):M V:=fun s =>
 ((un V.int x).bind fun i=>(K4 c s).bind fun kvs=>some (.bool ((Y1 kvs i).isSome^^neg),s)).or
 (((un V.tup x).bind fun vs=>(Uc vs).bind fun l=>(un V.ref c).bind fun n=>((s.hp n).bind (un O.tdict)).bind fun kvs=>some (.bool ((Y1 kvs l).isSome^^neg),s)).or
 ((Va x s).bind fun d=>(Va c s).bind fun e=>(un PyData.list e).bind fun ds=>if (SeqAt.shaped d&&SeqAt.shaped (.list ds))=true then some (.bool ((ds.any fun y=>PyData.eqv y d)^^neg),s) else none))
theorem Ms{ds:List PyData}(h:SeqAt.shaped (.list ds)=true):PyData.canLayAll0 ds=true/\PyData.depthAll ds<=64:=by
 have h1:=SeqAt.canLay_of_shaped h
 have h2:=SeqAt.depth_of_shaped h
 simp only [PyData.canLay0,PyData.depth] at h1 h2
 exact⟨h1,by exact ar5 h2⟩
theorem Z0o(neg:Bool):Ve C (compareOp (if neg then .NotIn else .In)) (vIn neg) (VR C.W):=by
 intro hY ζ ρ st s P E a b x y ok rel ra rb v st' e k
 have hu:=ok.room.units
 rcases oro e with e|e
 ·refine byC fun hG=>?_
  obtain⟨i,q0,e⟩:=ob e
  obtain⟨kvs,q,e⟩:=ob e
  injection e
  rw [Zi q0] at ra
  obtain⟨ad,kys,rfl,hsys,hd,hk⟩:=Ul rel q rb
  obtain⟨t,rfl⟩:=ra
  refine hG ?_
  clear hG
  have fin:P (.bool ((valueAt kys i).isSome^^neg)) {s with toks:=s.toks+1}:=by
   rw [hk.some_iff i]
   exact k ζ ρ s.heap _ _ (Gr.refl _ _ _ _) rel rfl
  cases neg with
  |false=>exact wpAny_in_of (Wi i t) hsys hd.mapOf (by simpa using fin)
  |true=>exact wpAny_notIn_of (Wi i t) hsys hd.mapOf (by simpa using fin)
 rcases oro e with e|e
 ·refine byC fun hG=>?_
  obtain⟨vs,q0,e⟩:=ob e
  obtain⟨l,ql,e⟩:=ob e
  obtain⟨n,qn,e⟩:=ob e
  obtain⟨kvs,q,e⟩:=ob e
  obtain⟨O,q,qo⟩:=ob q
  injection e
  rw [Zi q0] at ra
  rw [Zi qn] at rb
  rw [Zi qo] at q
  obtain⟨ax,rfl,hkey,_⟩:=Mu rel ql ra
  obtain⟨ad,kys,rfl,_,hsys,hd,hk⟩:=P4 rel q rb
  refine hG ?_
  clear hG
  have fin : ∀ m,P (.bool ((atKey kys l).isSome^^neg)) {s with toks:=m}:=fun m=>by
   rw [hk.some_iff l]
   exact k ζ ρ s.heap _ _ (Gr.refl _ _ _ _) rel rfl
  cases neg with
  |false=>exact wpAny_in_heap (knd:=tupleKind (intKind C.W.prog C.W.w)) (by show C.A.units+1<cLine;exact ar6 hu) hkey hsys hd (by simpa using fin _)
  |true=>exact wpAny_notIn_heap (knd:=tupleKind (intKind C.W.prog C.W.w)) (by show C.A.units+1<cLine;exact ar6 hu) hkey hsys hd (by simpa using fin _)
 ·refine byC fun hG=>?_
  obtain⟨d,q1,e⟩:=ob e
  obtain⟨d2,q2,e⟩:=ob e
  obtain⟨ds,q3,e⟩:=ob e
  obtain⟨hs,e⟩:=io e
  injection e
  rw [Zi q3] at q2
  simp only [Z5q] at hs
  obtain⟨as,r1⟩:=Vn rel q1 ra
  obtain⟨bs,r2⟩:=Vn rel q2 rb
  obtain⟨h1,h2⟩:=Ms hs.2
  refine hG ?_
  clear hG
  have h3:min (PyData.depthAll ds) d.depth<=PyData.depthAll ds:=Z1l _ _
  have fin:=k ζ ρ s.heap s.toks (.bool ((ds.any fun y=>PyData.eqv y d)^^neg)) (Gr.refl _ _ _ _) rel rfl
  cases neg with
  |false=>exact SeqAt.in_list_reads r2 r1 h1 (SeqAt.canLay_of_shaped hs.1) (by exact ar7 hu h2 h3) (by simpa using fin)
  |true=>exact SeqAt.notIn_list_reads r2 r1 h1 (SeqAt.canLay_of_shaped hs.1) (by exact ar7 hu h2 h3) (by simpa using fin)
theorem vIn_K:Ve C (compareOp .In) (vIn false) (VR C.W):=Z0o false
theorem U6:Ve C (compareOp .NotIn) (vIn true) (VR C.W):=Z0o true
noncomputable def V.isNone(v:V):Bool:=@V.casesOn (fun _=>Bool) v true (fun _=>false) (fun _=>false) (fun _=>false) (fun _=>false) (fun _=>false) (fun _=>false) (fun _=>false) (fun _=>false) (fun _ _ _=>false)
noncomputable def V.isVal(v:V):Bool:=@V.casesOn (fun _=>Bool) v false (fun _=>false) (fun _=>false) (fun _=>false) (fun _=>false) (fun _=>false) (fun _=>false) (fun _=>false) (fun _=>true) (fun _ _ _=>false)
noncomputable def Qh(neg:Bool)(x y:V):M V:=if y.isNone && !x.isVal then pure (.bool (x.isNone^^neg)) else M.fail
theorem D4{v:V}(h:v.isNone=true):v = .none:=by
 cases v<;>first|rfl|injection h
theorem D5{W:Wd}{ζ:HM}{ρ:RM}{v:V}{x:Value}(r:VR W ζ ρ v x)(h : ∀ y,v≠ .val y):(x==Value.none)=v.isNone:=by
 cases v with
 |none=>change _=_ at r;subst r;rfl
 |bool b=>change _=_ at r;subst r;rfl
 |int b=>obtain⟨_,rfl⟩:=r;rfl
 |str b=>obtain⟨_,rfl⟩:=r;rfl
 |tup b=>obtain⟨_,_,_,rfl,_⟩:=r;rfl
 |lst b=>obtain⟨_,_,_,rfl,_⟩:=r;rfl
 |dct b=>obtain⟨_,_,_,_,rfl,_⟩:=r;rfl
 |ref b=>obtain⟨_,_,rfl⟩:=r;rfl
 |rng _ _ _=>obtain⟨_,_,_,_,rfl,_⟩:=r;rfl
 |val y=>exact absurd rfl (h y)
inductive Ii(neg:Bool)(a b:V)(st:St)(r:V×St):Prop
 |mk (hb:b = .none) (ha : ∀ y,a≠ .val y) (hr:r=(.bool (a.isNone^^neg),st))
theorem Nu{neg:Bool}{a b:V}{st:St}{r:V×St}(e:Qh neg a b st=some r):Ii neg a b st r:=by
 unfold Qh at e
 split at e
 ·rename_i h
  have h:=Bool.and_eq_true_iff.mp h
  injection e
  exact⟨D4 h.1,fun y q=>by rw [q] at h;exact absurd h.2 nofun,rfl⟩
 ·injection e
theorem vIs_K'(neg:Bool):Ve C (compareOp (if neg then .IsNot else .Is)) (Qh neg) (VR C.W):=by
 intro hY ζ ρ st s P E a b x y ok rel ra rb v st' e k
 refine byC fun hG=>?_
 obtain⟨rfl,hne,hr⟩:=Nu e
 injection hr
 refine hG ?_
 clear hG
 change _=_ at rb
 subst rb
 have hb:=D5 ra hne
 have fin:=k ζ ρ s.heap s.toks (.bool ((x==Value.none)^^neg)) (Gr.refl _ _ _ _) rel (congrArg (fun c=>Value.bool (c^^neg)) hb)
 cases neg with
 |false=>exact is_none (by simpa using fin)
 |true=>exact isNot_none (by simpa using fin)
theorem Z02:Ve C (compareOp .IsNot) (Qh true) (VR C.W):=vIs_K' true
end Lay
namespace Lay
noncomputable abbrev Hp:=Nat->Option O
noncomputable abbrev FM:=List V->Hp->Option (V×Hp)
noncomputable def Fw(P:Value->Shared->Prop)(E:Value->Shared->Prop)(r:Result)(s':Shared):Prop:=match r with
 |.ok (.ret v)=>P v s'
 |.ok _=>False
 |.error e=>E e s'
noncomputable def KontF(W:Wd)(B:Nat)(hY:HM)(s:Shared)(ζ:HM)(ρ:RM)(σ:Hp)(P:Value->Shared->Prop)(v:V)(σ':Hp):Prop :=
 ∀ ζ' ρ' h' tk' x,Gr B s.heap ζ ρ h' ζ' ρ'->SRel W hY ζ' ρ' σ' h'->(∀ n,100<=n->σ n=none->σ' n=none)->VR W ζ' ρ' v x->P x {s with heap:=h',toks:=tk'}
noncomputable def Xo(W:Wd)(f:Value)(B k:Nat)(fm:FM):Prop :=
 ∀ (A:Around) (hY ζ:HM) (ρ:RM) (σ:Hp) (s:Shared) (args:List V) (xs:List Value) (P:Value->Shared->Prop) (E:Value->Shared->Prop),
  Room A k->SRel W hY ζ ρ σ s.heap->(∀ n,B<=n->σ n=none)->VRa W ζ ρ args xs->∀ v σ',fm args σ=some (v,σ')->
  KontF W B hY s ζ ρ σ P v σ'->
  codeAny (model W.prog W.w) A (.call f ⟨xs,[]⟩) (Fw P E) s
noncomputable def Ud(B:Nat)(v:V)(σ:Hp):Option V:=(un V.ref v).elim (some v) fun n=>if n<B then some (.ref n) else (((σ n).bind (un O.list)).bind fun xs=>some (V.lst xs)).or (((σ n).bind (un O.idict)).bind fun kvs=>some (V.dct kvs))
theorem Zs{B:Nat}{v:V}{σ:Hp}(h : ∀ n,v≠ .ref n):Ud B v σ=some v:=by unfold Ud;rw [Yc h];rfl
theorem Vx{n:Nat}:un V.ref (.ref n)=some n:=Ym fun _ _ e=>V.ref.inj e
noncomputable def cut(B:Nat)(σ:Hp):Hp:=fun n=>if n<B then σ n else none
noncomputable def flV:Fl->Option V
 |.ret v=>some v
 |.next=>some .none
 |_=>none
noncomputable def Y4(B n:Nat)(mb:M Fl):FM:=fun args σ =>
 if args.length=n then (mb ⟨fun i=>args[i]?,σ⟩).bind fun r=>(flV r.1).bind fun v=>(Ud B v r.2.hp).bind fun v'=>some (v',cut B r.2.hp) else none
noncomputable def plOf(names:List (Str×NameKind))(L:Addr)(cells:List (Str×Addr)):Nat->Option Place:=fun i =>
 (names[i]?).bind fun x=>if x.2 = .local then some (.loc L x.1) else if x.2 = .cell then (cells.lookup x.1).bind fun c=>some (.cell c) else none
inductive PlIs(names:List (Str×NameKind))(L:Addr)(cells:List (Str×Addr))(i:Nat)(pl:Place):Prop
 |loc (x:Str×NameKind) (h:names[i]?=some x) (e:pl = .loc L x.1)
 |cell (x:Str×NameKind) (c:Addr) (h:names[i]?=some x) (hc:cells.lookup x.1=some c) (e:pl = .cell c)
theorem Gd{names:List (Str×NameKind)}{L:Addr}{cells:List (Str×Addr)}{i:Nat}{pl:Place}(e:plOf names L cells i=some pl):PlIs names L cells i pl:=by
 refine byC fun hG=>?_
 obtain⟨x,h,e⟩:=ob e
 by_cases q:x.2 = .local
 ·rw [if_pos q] at e;exact hG (.loc x h (Z54 e).symm)
 ·rw [if_neg q] at e
  obtain⟨_,e⟩:=io e
  obtain⟨c,hc,e⟩:=ob e
  exact hG (.cell x c h hc (Z54 e).symm)
noncomputable def fnCx(W:Wd)(A:Around)(f:Addr)(qual:Str)(scope:Scope)(cdv:Value)(L:Addr)(k B T:Nat)(mid:Nat->Prop):Cx where
 W:=W
 A:=A.deeper (envOfC qual scope L f cdv)
 env:=envOfC qual scope L f cdv
 k:=k
 B:=B
 T:=T
 pl:=plOf scope.names L (cellsFrom (L+1) scope.names [])
 mid:=mid
noncomputable def fnOk(scope:Scope)(n:Nat):Bool :=
 scope.kind == .function && !scope.isCoroutine && !scope.isGenerator&&decide ((scope.names.map (·.1)).Nodup)&&decide (n<=scope.names.length) &&
  (scope.names.take n).all (fun x=>x.2 == .local||x.2 == .cell)
theorem Up{α:Type} : ∀ {l:List (Str×α)} {x:Str} {k:α},(l.map (·.1)).Nodup->(x,k)∈l->l.lookup x=some k
 | [],_,_,_,h=>nomatch h
 |(y,k')::r,x,k,hn,h=>by
  rw [Z3s,Z4d] at hn
  rcases Z3z.mp h with e|h'
  ·injection e;simp [List.lookup]
  ·have:x≠y:=fun q=>hn.1 (Z44.mpr ⟨(x,k),h',q⟩)
   rw [Z3o]
   have hb:(x==y)=false:=beq_eq_false_iff_ne.mpr this
   rw [hb]
   exact Up hn.2 h'
theorem Jc{α:Type} : ∀ {l:List (Str×α)} {x:Str} {k:α},l.lookup x=some k->(x,k)∈l
 | [],_,_,h=>nomatch h
 |(y,k')::r,x,k,h=>by
  rw [Z3o] at h
  by_cases q:x=y
  ·subst q;simp at h;subst h;exact .head _
  ·have hb:(x==y)=false:=beq_eq_false_iff_ne.mpr q
   rw [hb] at h;exact .tail _ (Jc h)
theorem Pj(kd:Str->Option NameKind) : ∀ (b:List (Str×Value)) (m:Str->Option Value) (x:Str),x∉b.map (·.1)->bindL kd b m x=m x
 | [],_,_,_=>rfl
 |(y,v)::r,m,x,h=>by
  simp only [Z3s,Z3z,not_or] at h
  unfold bindL
  rw [Pj kd r _ x h.2]
  split
  ·simp [h.1]
  ·rfl
theorem La(kd:Str->Option NameKind) : ∀ (b:List (Str×Value)) (m:Str->Option Value) (x:Str) (v:Value),(b.map (·.1)).Nodup->(x,v)∈b->kd x=some .local->bindL kd b m x=some v
 | [],_,_,_,_,h,_=>nomatch h
 |(y,u)::r,m,x,v,hn,h,hk=>by
  rw [Z3s,Z4d] at hn
  unfold bindL
  rcases Z3z.mp h with e|h
  ·injection e with e1 e2
   subst e1 e2
   rw [Pj kd r _ _ hn.1,if_pos hk];simp
  ·exact La kd r _ x v hn.2 h hk
theorem Ph(kd:Str->Option NameKind) : ∀ (b:List (Str×Value)) (m:Str->Option Value) (x:Str),x∉b.map (·.1)->bindC kd b m x=m x
 | [],_,_,_=>rfl
 |(y,v)::r,m,x,h=>by
  simp only [Z3s,Z3z,not_or] at h
  unfold bindC
  rw [Ph kd r _ x h.2]
  split
  ·rfl
  ·simp [h.1]
theorem L9(kd:Str->Option NameKind) : ∀ (b:List (Str×Value)) (m:Str->Option Value) (x:Str) (v:Value),(b.map (·.1)).Nodup->(x,v)∈b->kd x≠some .local->bindC kd b m x=some v
 | [],_,_,_,_,h,_=>nomatch h
 |(y,u)::r,m,x,v,hn,h,hk=>by
  rw [Z3s,Z4d] at hn
  unfold bindC
  rcases Z3z.mp h with e|h
  ·injection e with e1 e2
   subst e1 e2
   rw [Ph kd r _ _ hn.1,if_neg hk];simp
  ·exact L9 kd r _ x v hn.2 h hk
theorem Vf : ∀ (names:List (Str×NameKind)) (n:Nat) (acc:List (Str×Addr)) (x:Str),(x,.cell)∈names\/(acc.lookup x).isSome=true->((cellsFrom n names acc).lookup x).isSome=true
 | [],_,_,_,h=>h.elim (fun h=>nomatch h) id
 |(y,k)::r,n,acc,x,h=>by
  unfold cellsFrom
  split
  ·refine Vf r (n+1) _ x ?_
   by_cases q:x=y
   ·subst q;exact .inr (by simp [List.lookup])
   ·rcases h with h|h
    ·rcases Z3z.mp h with e|h
     ·injection e;exact absurd rfl q
     ·exact .inl h
    ·refine .inr ?_
     rw [Z3o,beq_eq_false_iff_ne.mpr q];exact h
  ·rename_i hk
   refine Vf r n acc x ?_
   rcases h with h|h
   ·rcases Z3z.mp h with e|h
    ·injection e;exact absurd rfl hk
    ·exact .inl h
   ·exact .inr h
theorem VRa.get{W:Wd}{ζ:HM}{ρ:RM} : ∀ {v:List V} {x:List Value},VRa W ζ ρ v x->∀ (i:Nat) (u:V),v[i]?=some u->∃ y,x[i]?=some y/\VR W ζ ρ u y
 | [],_,_,i,u,e=>by simp at e
 |a::r,_,hH,i,u,e=>by
  refine byC fun hG=>?_
  obtain⟨y,r',e',h1,h2⟩:=hH
  subst e'
  refine hG ?_
  clear hG
  cases i with
  |zero=>simp at e;subst e;exact⟨y,by simp,h1⟩
  |succ i=>simp at e;obtain⟨z,hz⟩:=h2.get i u e;exact⟨z,by simpa using hz⟩
theorem Da{C:Cx}{hY ζ:HM}{ρ:RM}{st:St}{h:Heap}(rel:Rel C hY ζ ρ st h)(b100:100<=C.B){v v':V}{x:Value}(e:Ud C.B v st.hp=some v')(r:VR C.W ζ ρ v x) :
  ∃ ζ' ρ',Le ζ ζ'/\(∀ n a,n<C.B->ρ n=some a->ρ' n=some a)/\(∀ a o,ζ' a=some o->ζ a=some o\/∃ n,C.B<=n/\ρ n=some a)/\(∀ n a,ρ' n=some a->ρ n=some a)/\
   SRel C.W hY ζ' ρ' (cut C.B st.hp) h/\VR C.W ζ' ρ' v' x:=by
 let ρ':RM:=fun n=>if n<C.B then ρ n else none
 have r1 : ∀ n a,n<C.B->ρ n=some a->ρ' n=some a:=fun n a q e=>by simp only [ρ',if_pos q];exact e
 have r2 : ∀ n a,ρ' n=some a->ρ n=some a/\n<C.B:=fun n a e=>by
  simp only [ρ'] at e
  split at e
  ·exact⟨e,by assumption⟩
  ·injection e
 have hlow:Ko ρ ρ':=fun n a q e=>r1 n a (Z1a q b100) e
 have base : ∀ ζ':HM,Le ζ ζ'->(∀ a o,ζ' a=some o->ζ a=some o\/(∃ n,C.B<=n/\ρ n=some a)/\h.get? a=some o)->SRel C.W hY ζ' ρ' (cut C.B st.hp) h:=by
  intro ζ' le hz
  refine⟨rel.ok,rel.kept,fun a o e=>?_,fun a o e=>?_,fun n O e=>?_,fun n e=>?_,fun n m a e e'=>rel.inj n m a (r2 _ _ e).1 (r2 _ _ e').1,fun n a e=>?_,fun n a e=>rel.offk n a (r2 _ _ e).1,rel.good,fun n e=>rel.sysr n (r2 _ _ e).1,?_⟩
  ·rcases hz a o e with q|q
   ·exact rel.frozen a o q
   ·exact q.2
  ·trivial
  ·unfold cut at e
   split at e
   ·rename_i q
    refine byC fun hG=>?_
    obtain⟨a,o,h1,h2,h3⟩:=rel.slot n O e
    refine hG ?_
    clear hG
    exact⟨a,o,r1 n a q h1,h2,h3.mono le hlow⟩
   ·injection e
  ·unfold cut at e
   split at e
   ·rename_i q;simp only [ρ',if_pos q];exact rel.dom n e
   ·rename_i q;simp only [ρ',if_neg q]
  ·cases q:ζ' a with
   |none=>rfl
   |some o =>
    obtain⟨e1,e2⟩:=r2 _ _ e
    rcases hz a o q with q|⟨⟨m,hm,q⟩,_⟩
    ·rw [rel.offz n a e1] at q;injection q
    ·exact absurd (rel.inj n m a e1 q) (Z1o (Z1a (by assumption) (by assumption)))
  ·cases q:ζ' sysModules with
   |none=>rfl
   |some o =>
    rcases hz _ o q with q|⟨⟨m,hm,q⟩,_⟩
    ·rw [rel.sysz] at q;injection q
    ·exact absurd q (rel.sysr m)
 unfold Ud at e
 refine byC fun hG=>?_
 cases w:un V.ref v with
 |none =>
  rw [w] at e
  injection e with e
  subst e
  refine hG ⟨ζ,ρ',Le.refl _,r1,fun a o e=>.inl e,fun n a e=>(r2 _ _ e).1,base ζ (Le.refl _) fun a o e=>.inl e,VR.lowMono (Le.refl _) hlow v x ?_ r⟩
  cases v with
  |ref n=>rw [Vx] at w;injection w
  |_=>rfl
 |some n =>
  rw [w] at e
  rw [Zi w] at r
  obtain⟨a,h1,rfl⟩:=r
  by_cases q:n<C.B
  ·have e:(if n<C.B then some (V.ref n) else _)=some v':=e
   rw [if_pos q] at e
   injection e with e
   subst e
   exact hG ⟨ζ,ρ',Le.refl _,r1,fun a o e=>.inl e,fun n a e=>(r2 _ _ e).1,base ζ (Le.refl _) fun a o e=>.inl e,by refine(?_:Exists _);exact⟨a,r1 n a q h1,rfl⟩⟩
  ·have e:(if n<C.B then some (V.ref n) else _)=some v':=e
   rw [if_neg q] at e
   have fin : ∀ o,h.get? a=some o->VR C.W (upd ζ a (some o)) ρ' v' (.ref a)->False:=fun o h3 h4=>by
    have le:Le ζ (upd ζ a (some o)):=Wh (rel.offz n a h1)
    have hz : ∀ b o',upd ζ a (some o) b=some o'->ζ b=some o'\/(∃ n,C.B<=n/\ρ n=some b)/\h.get? b=some o':=fun b o' e=>by
     by_cases p:b=a
     ·subst p;rw [Z4] at e;injection e;exact .inr ⟨⟨n,Z10 q,h1⟩,h3⟩
     ·rw [Z5 _ _ p] at e;exact .inl e
    exact hG ⟨upd ζ a (some o),ρ',le,r1,fun b o' e=>(hz b o' e).imp id (fun x=>x.1),fun n a e=>(r2 _ _ e).1,base _ le hz,h4⟩
   rcases oro e with e|e
   ·obtain⟨xs,hx,e⟩:=ob e
    injection e with e
    subst e
    obtain⟨O,hx,ho⟩:=ob hx
    rw [Zi ho] at hx
    obtain⟨a',o,h2,h3,ys,h4,h5⟩:=rel.slot n _ hx
    obtain rfl:a=a':=Z54 (h1.symm.trans h2)
    refine fin o h3 ?_
    refine(?_:Exists _)
    exact⟨a,o,ys,rfl,Z4 _ _ _,h4,VRs.mono (Wh (rel.offz n a h1)) hlow _ _ h5⟩
   ·obtain⟨kvs,hx,e⟩:=ob e
    injection e with e
    subst e
    obtain⟨O,hx,ho⟩:=ob hx
    rw [Zi ho] at hx
    obtain⟨a',o,h2,h3,es,n',kys,h4,h5,h6⟩:=rel.slot n _ hx
    obtain rfl:a=a':=Z54 (h1.symm.trans h2)
    refine fin o h3 ?_
    refine(?_:Exists _)
    exact⟨a,es,n',kys,rfl,by rw [Z4,h4],h5,VRk_p.mp (h6.mono (Wh (rel.offz n a h1)) hlow)⟩
theorem Ny : ∀ (l:List Str) (xs:List Value),l.Nodup->((l.zip xs).map (·.1)).Nodup
 | [],_,_=>by simp
 |_::_,[],_=>by simp
 |a::l,x::xs,h=>by
  rw [Z4d] at h
  simp only [Z4w,Z3s,Z4d]
  refine⟨fun q=>?_,Ny l xs h.2⟩
  refine byC fun hG=>?_
  obtain⟨p,hp,e⟩:=Z44.mp q
  obtain⟨b,y⟩:=p
  injection e
  refine hG ?_
  clear hG
  exact h.1 (List.of_mem_zip hp).1
theorem Hr{W:Wd}{f:Addr}{n B T k:Nat}{name qual:Str}{params:Arguments}{body:List Stmt}{scope:Scope}{dV kV doc pm cdv ct oc:Value}{an od:Option Addr}{osl:Array (Option Value)}
  (ho:W.K.lookup f=some ⟨oc,od,.func (fnOf name qual params body scope dV kV doc pm an cdv ct),osl⟩) (hcd:codeIn W.K cdv qual=true) (hok:fnOk scope n=true)
  (hbind : ∀ (s:Shared) (xs:List Value),xs.length=n->W.K.In s.heap->BindsTo s (fnOf name qual params body scope dV kV doc pm an cdv ct) ⟨xs,[]⟩ ((scope.names.map (·.1)).zip xs))
  {mb:M Fl} (hbody : ∀ A L mid,Qi (fnCx W A f qual scope cdv L k B T mid) (execs body (envOfC qual scope L f cdv)) mb) (hB:100<=B:=by decide) (hT:B<=T:=by decide):Xo W (.ref f) B (k+1) (Y4 B n mb):=by
 intro A hY ζ ρ σ s args xs P E room S hσ ha v σ' e kk
 simp only [fnOk,Z5q,beq_iff_eq,decide_eq_true_eq,Z5w,Z27,Z5x] at hok
 refine byC fun hG=>?_
 obtain⟨⟨⟨⟨⟨ok1,ok2⟩,ok3⟩,ok4⟩,ok5⟩,ok6⟩:=hok
 refine hG ?_
 clear hG
 unfold Y4 at e
 refine byC fun hG=>?_
 obtain⟨hlen,e⟩:=io e
 obtain⟨⟨fl,st'⟩,hm,e⟩:=ob e
 obtain⟨v0,hv0,e⟩:=ob e
 obtain⟨v',hv',e⟩:=ob e
 injection e
 refine hG ?_
 clear hG
 have hxl:xs.length=n:=ha.length.trans hlen
 have hd:=room.depth
 refine codeAny_call_function (by exact ar9 hd) (S.ok.1 _ _ ho) rfl ok2 ok3 rfl (codeRec_of S.ok.1 hcd) (hbind s xs hxl S.ok.1 _ _ _ _ ?_)
 have hbk : ∀ x∈(scope.names.map (·.1)).zip xs,∃ (i:Nat) (kd:NameKind),scope.names[i]?=some (x.1,kd)/\xs[i]?=some x.2/\(kd = .local\/kd = .cell)/\scope.names.lookup x.1=some kd:=by
  intro x hx
  obtain⟨i,hi,e⟩:=Z43.mp hx
  have hi1:i<scope.names.length:=by simp at hi;exact ar10 ok5 hlen hxl hi
  have hi2:i<xs.length:=by simp at hi;exact ar11 ok5 hlen hxl hi1 hi
  rw [Z37] at e
  refine⟨i,scope.names[i].2,?_,?_,?_,?_⟩
  ·rw [Z2v hi1,<-e];simp
  ·rw [Z2v hi2,<-e]
  ·refine ok6 _ ?_
   rw [Z43]
   exact⟨i,by simp;exact ar12 ok5 hlen hxl hi2,by simp⟩
  ·refine Up ok4 ?_
   rw [Z43]
   exact⟨i,hi1,by rw [<-e];simp⟩
 have hnd:(((scope.names.map (·.1)).zip xs).map (·.1)).Nodup:=Ny _ _ ok4
 refine wpAny_newFunctionEnv_cells ok1 (fun x hx=>?_) fun env' he s' x=>?_
 ·obtain⟨i,kd,_,_,hk,hl⟩:=hbk x hx
  rcases hk with rfl|rfl
  ·exact .inl hl
  ·refine .inr ⟨hl,Vf _ _ _ _ (.inl (Jc hl))⟩
 ·subst he
  refine⟨(S.ok.2.nolimit).keeps x.toInCall.keep,codeAny_func ?_⟩
  refine byC fun hG=>?_
  obtain⟨h₁,tk,rfl,_⟩:=x.done
  refine hG ?_
  clear hG
  have keep:Le s.heap.get? h₁.get?:=fun b o e=>x.toInCall.keep b o e
  have fresh : ∀ b,s.heap.objs.size<=b->s.heap.get? b=none:=fun b hb=>by
   cases q:s.heap.get? b with
   |none=>rfl
   |some o=>exact absurd (Z5j q) (Nat.not_lt.mpr hb)
  have hplnew : ∀ i pl,plOf scope.names s.heap.objs.size (cellsFrom (s.heap.objs.size+1) scope.names []) i=some pl->s.heap.objs.size<=pl.addr:=by
   intro i pl e
   rcases Gd e with⟨_,_,rfl⟩|⟨_,c,_,hc,rfl⟩
   ·exact Z12 _
   ·exact Z0y (x.above _ _ (Jc hc))
  have offnew : ∀ b,s.heap.get? b=none->ζ b=none/\hY b=none/\∀ n,ρ n≠some b:=by
   intro b hb
   refine⟨?_,?_,?_⟩
   ·cases q:ζ b with
    |none=>rfl
    |some o=>rw [S.frozen b o q] at hb;injection hb
   ·cases q:hY b with
    |none=>rfl
    |some o=>rw [S.kept b o q] at hb;injection hb
   ·intro m q
    cases q':σ m with
    |none=>rw [S.dom m q'] at q;injection q
    |some O =>
     refine byC fun hG=>?_
     obtain⟨c,o,h1,h2,_⟩:=S.slot m O q'
     refine hG ?_
     clear hG
     rw [q] at h1;injection h1;rw [hb] at h2;injection h2
  have S':SRel W hY ζ ρ σ h₁:=S.off (fun _=>False) (fun b o _ e=>keep b o e) (fun _ x=>x.elim)
  have rel:Rel (fnCx W A f qual scope cdv s.heap.objs.size k B T (fun n=>σ n≠none)) hY ζ ρ ⟨fun i=>args[i]?,σ⟩ h₁:=by
   refine⟨S',fun m hm=>hσ m (Z16 hT hm),fun m _ _ q=>q,fun i u e=>?_,fun i pl e=>?_,fun i pl e=>offnew _ (fresh _ (hplnew i pl e)),fun i j pl e e'=>?_⟩
   ·obtain⟨y,hy,hr⟩:=ha.get i u e
    have hi:i<xs.length:=(Z2y.mp hy).1
    have hi1:i<scope.names.length:=by exact ar13 ok5 hlen hxl hi
    have hmem:(scope.names[i].1,y)∈(scope.names.map (·.1)).zip xs:=by
     rw [Z43]
     refine⟨i,by simp;exact ar14 ok5 hlen hxl hi,?_⟩
     rw [Z37]
     rw [Z2v hi] at hy
     simp only [Z34,Z54 hy]
    have hkd:scope.names[i].2 = .local\/scope.names[i].2 = .cell:=ok6 _ (by rw [Z43];exact⟨i,by simp;exact ar12 ok5 hlen hxl hi,by simp⟩)
    have hlk:scope.names.lookup scope.names[i].1=some scope.names[i].2:=Up ok4 (Z35 hi1)
    rcases hkd with hkd|hkd
    ·refine⟨.loc s.heap.objs.size scope.names[i].1,y,?_,⟨_,x.toInCall.ns,La _ _ _ _ _ hnd hmem (by rw [<-hkd];exact hlk)⟩,hr⟩
     show plOf _ _ _ i=_
     unfold plOf
     rw [Z2v hi1]
     exact if_pos hkd
    ·have hsome:=Vf scope.names (s.heap.objs.size+1) [] scope.names[i].1 (.inl (by
      have:=Z35 hi1
      rw [<-hkd];exact this))
     obtain⟨c,hc⟩:=Option.isSome_iff_exists.mp hsome
     refine⟨.cell c,y,?_,?_,hr⟩
     ·show plOf _ _ _ i=_
      unfold plOf
      rw [Z2v hi1]
      exact(if_neg (by rw [hkd];exact fun q=>NameKind.noConfusion q)).trans ((if_pos hkd).trans (by rw [hc];rfl))
     ·have:=x.cell _ c hc
      rw [L9 _ _ _ _ _ hnd hmem (by show scope.names.lookup _≠_;rw [hlk,hkd];exact fun q=>NameKind.noConfusion (Z54 q))] at this
      exact this
   ·show pl.ok h₁
    rcases Gd e with⟨_,_,rfl⟩|⟨_,c,_,hc,rfl⟩
    ·exact⟨_,x.toInCall.ns⟩
    ·exact⟨_,x.cell _ c hc⟩
   ·show i=j
    have inj : ∀ (i j:Nat) (a b:Str×NameKind),scope.names[i]?=some a->scope.names[j]?=some b->a.1=b.1->i=j:=by
     intro i j a b h1 h2 h3
     obtain⟨l1,g1⟩:=Z2y.mp h1
     obtain⟨l2,g2⟩:=Z2y.mp h2
     have l1':i<(scope.names.map (·.1)).length:=by simpa using l1
     have l2':j<(scope.names.map (·.1)).length:=by simpa using l2
     refine(Z2z l1' ok4).mp ?_
     rw [Z2v l1',Z2v l2']
     simp only [Z34,g1,g2,h3]
    rcases Gd e with⟨y,hy,rfl⟩|⟨y,c,hy,hc,rfl⟩<;>rcases Gd e' with⟨z,hz,q⟩|⟨z,c',hz,hc',q⟩
    ·exact inj i j _ _ hy hz (Place.loc.inj q).2
    ·injection q
    ·injection q
    ·injection q with q
     subst q
     exact inj i j _ _ hy hz (name_of_addr x.apart (Jc hc) (Jc hc'))
  have okC:(fnCx W A f qual scope cdv s.heap.objs.size k B T (fun n=>σ n≠none)).Ok:=⟨⟨by show A.depth+1+k<_;exact ar15 hd,by have:=room.units;show A.units+3+8*k+100<_;exact ar16 this,room.handled⟩,ok1,rfl,rfl,hT,hB⟩
  refine hbody A s.heap.objs.size (fun n=>σ n≠none) hY ζ ρ _ _ _ _ okC rel fl st' hm fun ζ1 ρ1 h1 tk1 b G1 rel1 r1=>?_
  have hback : ∃ y,(b = .ret y\/(b = .next/\y = .none))/\VR W ζ1 ρ1 v0 y:=by
   cases fl with
   |next=>injection hv0;injection r1;exact⟨.none,.inr ⟨rfl,rfl⟩,rfl⟩
   |brk=>injection hv0
   |cont=>injection hv0
   |ret u=>injection hv0;obtain⟨y,rfl,hy⟩:=r1;exact⟨y,.inl rfl,hy⟩
  refine byC fun hG=>?_
  obtain⟨y,hy,hyr⟩:=hback
  obtain⟨ζ2,ρ2,z1,z2,z3,z4,z5,z6⟩:=Da rel1 hB hv' hyr
  refine hG ?_
  clear hG
  have dm0 : ∀ a,s.heap.get? a≠none->h₁.get? a≠none:=fun a q=>by
   cases q':s.heap.get? a with
   |none=>exact absurd q' q
   |some o=>rw [keep a o q'];exact Z53 _
  have fin:=kk ζ2 ρ2 h1 tk1 y ⟨G1.zl.trans z1,fun m a hm q=>z2 m a hm (G1.rl m a hm q),fun a o q=>?_,fun m a q=>?_,fun a q=>G1.dm a (dm0 a q)⟩ z5 (fun m hm q=>Z5f fun q'=>?_) z6
  ·rcases hy with rfl|⟨rfl,rfl⟩<;>exact fin
  ·have dn : ∀ a,h₁.get? a=none->s.heap.get? a=none:=fun a q=>Z5f fun q'=>dm0 a q' q
   rcases z3 a o q with q|⟨m,hm,q⟩
   ·exact(G1.zn a o q).imp id fun q=>q.imp (dn a) id
   ·rcases G1.rn m a q with q|q
    ·have:=S.dom m (hσ m hm);rw [this] at q;injection q
    ·exact .inr (q.imp (dn a) id)
  ·exact(G1.rn m a (z4 m a q)).imp id fun q=>q.imp (fun q=>Z5f fun q'=>dm0 a q' q) id
  ·unfold cut at q'
   split at q'
   ·rename_i hlt;exact rel1.mid m hm hlt q' q
   ·exact q' rfl
end Lay
namespace Lay
variable{C:Cx}
noncomputable abbrev Fv(C:Cx)(f:Value)(g:List V->M V):Prop:=Pb C C.T (VRa C.W) (fun xs=>call f xs) g (VR C.W)
noncomputable def callM(fm:FM)(vs:List V):M V:=fun st=>(fm vs st.hp).bind fun r=>some (r.1,{st with hp:=r.2})
open Classical in
noncomputable def Ur(ρ:RM)(h:Heap):HM:=fun a=>if ∃ n,ρ n=some a then none else h.get? a
theorem Mh{f:Value}{B k:Nat}{fm:FM}(hf:Xo C.W f B k fm)(hB:C.T<=B){A':Around}(room:Room A' k){hY ζ:HM}{ρ:RM}{st:St}{s:Shared}{P:Value->Shared->Prop}{E:Value->Shared->Prop}{vs:List V}{xs:List Value}(ok:C.Ok)(rel:Rel C hY ζ ρ st s.heap)
  (ra:VRa C.W ζ ρ vs xs) {v:V} {st':St} (e:callM fm vs st=some (v,st'))
  (kk : ∀ ζ' ρ' h' tk' b',Gr C.T s.heap ζ ρ h' ζ' ρ'->Rel C hY ζ' ρ' st' h'->VR C.W ζ' ρ' v b'->P b' {s with heap:=h',toks:=tk'}):codeAny (model C.W.prog C.W.w) A' (.call f ⟨xs,[]⟩) (Fw P E) s:=by
 refine byC fun hG=>?_
 obtain⟨⟨v',σ'⟩,e',e⟩:=ob e
 injection e
 refine hG ?_
 clear hG
 have le:Le hY (Ur ρ s.heap):=fun a o q=>by
  unfold Ur
  rw [if_neg (fun⟨n,hn⟩=>by rw [rel.offk n a hn] at q;injection q)]
  exact rel.kept a o q
 have S:SRel C.W (Ur ρ s.heap) ζ ρ st.hp s.heap:=⟨rel.ok,fun a o q=>by unfold Ur at q;split at q<;>first|cases q|exact q,rel.frozen,rel.fcls,rel.slot,rel.dom,rel.inj,rel.offz,
  fun n a q=>by unfold Ur;rw [if_pos ⟨n,q⟩],fun h' q=>rel.good h' (le.trans q),rel.sysr,rel.sysz⟩
 refine hf A' (Ur ρ s.heap) ζ ρ st.hp s vs xs P E room S (fun n hn=>rel.fresh n (Z16 hB hn)) ra v σ' e' fun ζ' ρ' h' tk' x G S' hσ hx=>?_
 have hrd : ∀ n a,ρ n=some a->ρ' n=some a:=fun n a q=>G.rl n a (Z1a (rel.rdom q) hB) q
 have hpl : ∀ i pl,C.pl i=some pl->∀ o,s.heap.get? pl.addr=some o->h'.get? pl.addr=some o:=fun i pl q o q' =>
  S'.kept _ _ (by unfold Ur;rw [if_neg (fun⟨n,hn⟩=>(rel.ploff i pl q).2.2 n hn)];exact q')
 refine kk ζ' ρ' h' tk' x ⟨G.zl,fun n a _ q=>hrd n a q,fun a o q=>(G.zn a o q).imp id (Nw.weak hB),fun n a q=>(G.rn n a q).imp id (Nw.weak hB),G.dm⟩ ?_ hx
 refine⟨⟨S'.ok,fun a o q=>S'.kept a o (le a o q),S'.frozen,S'.fcls,S'.slot,S'.dom,S'.inj,S'.offz,fun n a q=>?_,rel.good,S'.sysr,S'.sysz⟩,fun n hn=>?_,fun n h1 h2 h3=>?_,fun i v q=>?_,fun i pl q=>(rel.plok i pl q).ok_keeps (hpl i pl q),fun i pl q=>?_,rel.plinj⟩
 ·rcases G.rn n a q with q'|q'
  ·exact rel.offk n a q'
  ·cases q2:hY a with
   |none=>rfl
   |some o=>have q':=(q'.weak hB).none rel;rw [rel.kept a o q2] at q';injection q'
 ·have h100:100<=n:=Z16 ok.b100 (Z16 ok.bt hn)
  exact hσ n h100 (rel.fresh n hn)
 ·exact rel.mid n h1 h2 fun q=>h3 (hσ n h1 q)
 ·obtain⟨pl,y,h1,h2,h3⟩:=rel.var i v q
  exact⟨pl,y,h1,h2.has_keeps (hpl i pl h1),h3.mono G.zl hrd⟩
 ·obtain⟨q1,q2,q3⟩:=rel.ploff i pl q
  have hex:=(rel.plok i pl q).ok_some
  refine⟨?_,q2,fun n q'=>?_⟩
  ·cases e1:ζ' pl.addr with
   |none=>rfl
   |some o =>
    rcases G.zn _ _ e1 with e2|e2
    ·rw [q1] at e2;injection e2
    ·exact absurd ((e2.weak hB).none rel) hex
  ·rcases G.rn _ _ q' with e2|e2
   ·exact q3 n e2
   ·exact absurd ((e2.weak hB).none rel) hex
theorem Vp{f:Value}{B k:Nat}{fm:FM}(hf:Xo C.W f B k fm)(hB:C.T<=B)(hk:k<=C.k):Fv C f (callM fm):=by
 intro hY ζ ρ st s P E vs xs ok rel ra v st' e kk
 exact wpAny_call (codeAny_mono (Mh hf hB ⟨by have:=ok.room.depth;exact ar17 hk this,by have:=ok.room.units;exact ar18 hk this,ok.room.handled⟩ ok rel ra e kk) fun r s' z=>z)
noncomputable def CallOk(W:Wd)(f:Value):Prop := ∀ (A:Around) (pos:Pos) (first:List Value) (trees:List (Bool×Sem Value)) (s:Shared) (P:Value->Shared->Prop) (E:Value->Shared->Prop),trees.any (·.1)=false->
 wpAny (model W.prog W.w) A (evalArgs f true trees []) (fun a s₁=>W.Ok s₁.heap/\wpAny (model W.prog W.w) A (call f (first++a.pos) a.kw) P E s₁) E s->wpAny (model W.prog W.w) A (callWith pos f first trees []) P E s
theorem CallOk.K{W:Wd}{f:Value}(hk:keepIn W.K f=true):CallOk W f:=fun A pos first trees s P E ht h =>
 callWith_of (P:=W.K.In) (by simp [ht]) (keeps_K hk) (wpAny_mono h (fun a s₁ h₁=>⟨h₁.1.1,h₁.2⟩) fun _ _ x=>x)
theorem CallOk.builtin{W:Wd}{id:String}:CallOk W (.builtin id):=fun A pos first trees s P E ht h =>
 Calls.callWith_builtin ht (wpAny_mono h (fun a s₁ h₁=>h₁.2) fun _ _ x=>x)
theorem CallOk.type{W:Wd}{id:String}:CallOk W (.type id):=fun A pos first trees s P E ht h =>
 PyProof.Rows.callWith_type ht (wpAny_mono h (fun a s₁ h₁=>h₁.2) fun _ _ x=>x)
theorem V2{M:Model}{A:Around}{E:Value->Shared->Prop}{s:Shared}{f:Value}{trees:List (Bool×Sem Value)}{Q:Args->Shared->Prop}(ht:trees = []\/∃ x r,trees=(false,x)::r)
  (h:wpAny M A (spliced trees) (fun vs s'=>Q ⟨vs,[]⟩ s') E s):wpAny M A (evalArgs f true trees []) Q E s:=by
 rcases ht with rfl|⟨x,r,rfl⟩
 ·unfold evalArgs
  show wpAny M A (spliced []>>=_) Q E s
  refine Z5l (wpAny_mono h (fun vs s' h'=>?_) fun _ _ x=>x)
  refine Z5l (Z5p ?_)
  refine Z5n ?_
  exact Z5l (Z5p (Z5l (Z5p (Z5p h'))))
 ·exact Calls.evalArgs_plain h
noncomputable def TreesOk(trees:List (Bool×Sem Value)):Prop:=trees.any (·.1)=false/\(trees = []\/∃ x r,trees=(false,x)::r)
theorem TreesOk.nil:TreesOk []:=⟨rfl,.inl rfl⟩
theorem TreesOk.cons{x:Sem Value}{r:List (Bool×Sem Value)}(h:TreesOk r):TreesOk ((false,x)::r):=⟨by simpa using h.1,.inr ⟨x,r,rfl⟩⟩
theorem VRa.append{W:Wd}{ζ:HM}{ρ:RM} : ∀ {v v':List V} {x x':List Value},VRa W ζ ρ v x->VRa W ζ ρ v' x'->VRa W ζ ρ (v++v') (x++x')
 | [],_,_,_,h,h'=>by change _=_ at h;subst h;exact h'
 |a::r,_,_,_,hH,h'=>by obtain⟨y,r',e,h1,h2⟩:=hH;subst e;exact⟨y,_,rfl,h1,h2.append h'⟩
theorem Fc{f:Value}{pos:Pos}{trees:List (Bool×Sem Value)}{ma:M (List V)}{g:List V->M V}(hok:CallOk C.W f)(ht:TreesOk trees)(hargs:T2 C (spliced trees) ma)(hc:Fv C f g) :
  Pb C C.T (VRa C.W) (fun first=>callWith pos f first trees []) (fun fv=>do let vs<-ma;g (fv++vs)) (VR C.W):=by
 intro hY ζ ρ st s P E fv first ok rel rf v st' e kk
 refine byC fun hG=>?_
 obtain⟨vs,s1,e1,e2⟩:=Z6z e
 refine hG ?_
 clear hG
 refine hok _ _ _ _ _ _ _ ht.1 (V2 ht.2 (hargs hY ζ ρ st s _ E ok rel vs s1 e1 fun ζ1 ρ1 h1 tk1 ys G1 rel1 r1=>⟨rel1.ok,?_⟩))
 exact hc hY ζ1 ρ1 s1 _ P E _ _ ok rel1 ((rf.gr rel G1).append r1) v st' e2 fun ζ2 ρ2 h2 tk2 y G2 rel2 r2=>kk ζ2 ρ2 h2 tk2 y (G1.trans G2) rel2 r2
theorem Xs{x:Str}{p pos:Pos}{args:List PySem.Expr}{f:Value}{ma:M (List V)}{g:List V->M V}(hf:Yb C (eval (.Name x p) C.env) (pure (.val f)))(hok:CallOk C.W f)
  (hargs:T2 C (spliced (backTo pos (starEach args C.env))) ma) (ht:TreesOk (backTo pos (starEach args C.env))) (hc:Fv C f g) :
  Yb C (eval (.Call (.Name x p) args [] pos) C.env) (do let vs<-ma;g vs):=by
 intro hY ζ ρ st s P E ok rel v st' e kk
 refine wpAny_Call_NameR (hf hY ζ ρ st s _ E ok rel _ _ rfl fun ζ1 ρ1 h1 tk1 y G1 rel1 r1=>?_)
 change _=_ at r1
 subst r1
 exact Fc hok ht hargs hc hY ζ1 ρ1 st _ P E [] [] ok rel1 rfl v st' (by simpa using e) fun ζ2 ρ2 h2 tk2 y G2 rel2 r2=>kk ζ2 ρ2 h2 tk2 y (G1.trans G2) rel2 r2
noncomputable def MethAt(C:Cx)(name:Str)(f:Value)(ok:V->St->Prop):Prop :=
 ∀ (hY ζ:HM) (ρ:RM) (st:St) (s:Shared) (pl:Sem Bool) (P:Value×List Value->Shared->Prop) (E:Value->Shared->Prop) (v:V) (x:Value),C.Ok->Rel C hY ζ ρ st s.heap->VR C.W ζ ρ v x->ok v st->
  P (f,[x]) s->wpAny (model C.W.prog C.W.w) C.A (getMethod x name pl) P E s
theorem K0{o:PySem.Expr}{name:Str}{apos pos:Pos}{args:List PySem.Expr}{mo:M V}{ma:M (List V)}{f:Value}{g:List V->M V}{okp:V->St->Bool}(pl:Sem Bool)
  (ho:Yb C (eval o C.env) mo) (hargs:T2 C (spliced (backTo pos (starEach args C.env))) ma) (ht:TreesOk (backTo pos (starEach args C.env))) (hm:MethAt C name f (fun v s=>okp v s=true)) (hok:CallOk C.W f) (hc:Fv C f g)
  (he:eval (.Call (.Attribute o name apos) args [] pos) C.env=(do
   let ov<-eval o C.env
   standAt apos.atName
   let (f,first)<-holding [ov] (getMethod ov name pl)
   callWith pos f first (backTo pos (starEach args C.env)) []):=by rfl) :
  Yb C (eval (.Call (.Attribute o name apos) args [] pos) C.env) (do let v<-mo;(fun s=>M.guard (okp v s) s);let vs<-ma;g (v::vs)):=by
 intro hY ζ ρ st s P E ok rel v st' e kk
 refine byC fun hG=>?_
 obtain⟨u,s1,e1,e2⟩:=Z6z e
 obtain⟨_,s2,e3,e4⟩:=Z6z e2
 obtain⟨hg,hs⟩:=Z70 e3
 injection hs
 refine hG ?_
 clear hG
 rw [he]
 refine Z5l (ho hY ζ ρ st s _ E ok rel u _ e1 fun ζ1 ρ1 h1 tk1 y G1 rel1 r1=>Z5l (wpAny_standAt (Z5l (Z5n ?_))))
 refine hm hY ζ1 ρ1 s1 _ pl _ E u y ok rel1 r1 hg ?_
 exact Fc hok ht hargs hc hY ζ1 ρ1 s1 _ P E [u] [y] ok rel1 ⟨y,[],rfl,r1,rfl⟩ v st' e4 fun ζ2 ρ2 h2 tk2 z G2 rel2 r2=>kk ζ2 ρ2 h2 tk2 z (G1.trans G2) rel2 r2
noncomputable def Py(p:Addr×Nat):O:=O.inst p.1 p.2
noncomputable def K9(v:V)(s:St):Option (Addr×List (Str×V)):=(un V.ref v).bind fun n=>((s.hp n).bind (un Py)).bind fun p=>((s.hp p.2).bind (un O.attrs)).bind fun kvs=>some (p.1,kvs)
inductive InstOf(v:V)(st:St)(Cl:Addr)(kvs:List (Str×V)):Prop
 |mk (a d:Nat) (hv:v = .ref a) (q1:st.hp a=some (.inst Cl d)) (q2:st.hp d=some (.attrs kvs))
theorem Mi{v:V}{st:St}{Cl:Addr}{kvs:List (Str×V)}(e:K9 v st=some (Cl,kvs)):InstOf v st Cl kvs:=by
 refine byC fun hG=>?_
 obtain⟨n,h1,e⟩:=ob e
 obtain⟨p,h2,e⟩:=ob e
 obtain⟨kvs',h3,e⟩:=ob e
 obtain⟨o,h2,k2⟩:=ob h2
 obtain⟨o',h3,k3⟩:=ob h3
 injection e with e
 obtain⟨e1,e2⟩:=Prod.mk.inj e
 exact hG ⟨n,p.2,Zi h1,by rw [h2,Zi (f:=Py) k2,<-e1];rfl,by rw [h3,Zi k3,<-e2]⟩
theorem un_inst{c:Addr}{d:Nat}:un Py (.inst c d)=some (c,d):=Ym (f:=Py) (a:=(c,d)) fun _ _ e=>Z6y (O.inst.inj e).1 (O.inst.inj e).2
theorem Ay{kvs:List (Str×V)}:un O.attrs (.attrs kvs)=some kvs:=Ym fun _ _ e=>O.attrs.inj e
theorem Qa{a d:Nat}{st:St}{Cl:Addr}{kvs:List (Str×V)}(q1:st.hp a=some (.inst Cl d))(q2:st.hp d=some (.attrs kvs)):K9 (.ref a) st=some (Cl,kvs):=by
 unfold K9
 rw [Vx]
 show ((st.hp a).bind _).bind _=_
 rw [q1]
 show (un Py _).bind _=_
 rw [un_inst]
 show ((st.hp d).bind _).bind _=_
 rw [q2]
 show (un _ _).bind _=_
 rw [Ay];rfl
inductive InstIs(C:Cx)(ζ:HM)(ρ:RM)(st:St)(h:Heap)(v:V)(x:Value)(Cl:Addr)(kvs:List (Str×V)):Prop
 |mk (a d:Nat) (dx:Addr) (es:Array DictEntry) (n:Nat) (od:Obj) (hv:v = .ref a) (q1:st.hp a=some (.inst Cl d)) (q2:st.hp d=some (.attrs kvs)) (h1:ρ d=some dx) (h2:h.get? dx=some od) (hd:od.data = .dict es n) (h3:AttrsAre C.W ζ ρ kvs es)
   (ax:Addr) (h4:ρ a=some ax) (hx:x = .ref ax) (hi:InstAt h ax ⟨.ref Cl,some dx,.plain,#[]⟩ Cl (some od))
theorem Mj{hY ζ:HM}{ρ:RM}{st:St}{h:Heap}(rel:Rel C hY ζ ρ st h){v:V}{x:Value}{Cl:Addr}{kvs:List (Str×V)}(e:K9 v st=some (Cl,kvs))(r:VR C.W ζ ρ v x):InstIs C ζ ρ st h v x Cl kvs:=by
 refine byC fun hG=>?_
 obtain⟨a,d,rfl,q1,q2⟩:=Mi e
 obtain⟨dx,o,h1,h2,es,n,hdat,h3⟩:=rel.slot d _ q2
 obtain⟨ax,o',h4,h5,_,dx',h6,rfl⟩:=rel.slot a _ q1
 refine hG ?_
 clear hG
 rw [h1] at h6;injection h6
 refine byC fun hG=>?_
 obtain⟨ax',h7,rfl⟩:=r
 refine hG ?_
 clear hG
 rw [h4] at h7;injection h7
 exact⟨a,d,dx,es,n,o,rfl,q1,q2,h1,h2,hdat,h3,ax,h4,rfl,h5,rfl,rfl,h2⟩
theorem N8{W:Wd}{ζ:HM}{ρ:RM}{kvs:List (Str×V)}{es:Array DictEntry}{n:Nat}{od:Obj}(hd:od.data = .dict es n)(h:AttrsAre W ζ ρ kvs es)(x:Str):lookIn x od=some (nsFind es x):=by
 unfold lookIn nsFind findBy
 rw [hd]
 dsimp only
 cases q:es.toList.find? (·.key.isStr x) with
 |some en=>rw [<-Z55];simp only [q,Z52]
 |none =>
  have hr:es.toList.any (·.refKey)=false:=by
   rw [List.any_eq_false]
   intro e he
   obtain⟨nm,t,hk⟩:=h.1 e (Array.mem_toList_iff.mp he)
   simp [DictEntry.refKey,hk]
  rw [<-Z55,hr];simp [q]
theorem MethAt.inst{Cl:Addr}{name:Str}{f:Addr}(hg:plainGet C.W.K Cl name=true)(hf:findIn C.W.K (.ref Cl) name=some (some (.ref f)))(ht:isFn C.W.K (.ref f)=true) :
  MethAt C name (.ref f) (fun v s=>((K9 v s).any fun p=>decide (p.1=Cl)&&(Y1 p.2 name).isNone)=true):=by
 intro hY ζ ρ st s pl P E v x ok rel r hv k
 refine byC fun hG=>?_
 obtain⟨⟨c,kvs⟩,q,hv⟩:=(Option.any_eq_true _ _).mp hv
 simp only [Z5q,decide_eq_true_eq] at hv
 obtain⟨rfl,hn⟩:=hv
 obtain⟨a,d,dx,es,n,od,rfl,_,_,_,_,hdat,ha,ax,_,rfl,I⟩:=Mj rel q r
 refine hG ?_
 clear hG
 refine method_fn rel.ok.1 I (plainGet_of hg).1 (plainGet_of hg).2 hf (beq_iff_eq.mp ht) ?_ k
 have h2:=ha.2.2 name
 have hl:=N8 hdat ha name
 cases q2:Y1 kvs name with
 |some u=>rw [q2] at hn;injection hn
 |none =>
  rw [q2] at h2
  dsimp only at h2
  rw [h2] at hl
  show (lookIn name od).map _=_
  rw [hl];rfl
noncomputable def Uv(W:Wd)(Cl:Addr)(name:Str):Prop:=plainGet W.K Cl name=true/\hasDictIn W.K Cl=true/\∃ attr,findIn W.K (.ref Cl) name=some attr/\noGet W.K attr=true
noncomputable def Yn(Cl:Addr)(name:Str)(v:V):M V:=fun s=>(K9 v s).bind fun p=>if p.1=Cl then (Y1 p.2 name).bind fun u=>if u.isVal=true then none else some (u,s) else none
theorem Et{W:Wd}{ζ:HM}{ρ:RM}{v:V}{x:Value}(r:VR W ζ ρ v x)(h : ¬ v.isVal=true):handedIn x=true:=by
 cases v with
 |none=>change _=_ at r;subst r;rfl
 |bool b=>change _=_ at r;subst r;rfl
 |int b=>obtain⟨_,rfl⟩:=r;rfl
 |str b=>obtain⟨_,rfl⟩:=r;rfl
 |tup b=>obtain⟨_,_,_,rfl,_⟩:=r;rfl
 |lst b=>obtain⟨_,_,_,rfl,_⟩:=r;rfl
 |dct b=>obtain⟨_,_,_,_,rfl,_⟩:=r;rfl
 |ref b=>obtain⟨_,_,rfl⟩:=r;rfl
 |rng _ _ _=>obtain⟨_,_,_,_,rfl,_⟩:=r;rfl
 |val y=>exact absurd rfl h
theorem getAC_K{Cl:Addr}{name:Str}{expr:Bool}(ha:Uv C.W Cl name):SimK1 C (fun x=>getAttr x name expr) (Yn Cl name):=by
 intro hY ζ ρ st s P E v x ok rel r u st' e k
 refine byC fun hG=>?_
 obtain⟨⟨c,kvs⟩,q,e⟩:=ob e
 obtain⟨hc,e⟩:=io e
 obtain⟨w,hw,e⟩:=ob e
 by_cases hne:w.isVal=true
 ·rw [if_pos hne] at e;injection e
 ·rw [if_neg hne] at e
  injection e
  subst hc
  obtain⟨a,d,dx,es,n,od,rfl,_,_,_,_,hdat,hat,ax,_,rfl,I⟩:=Mj rel q r
  obtain⟨h1,h2,attr,h3,h4⟩:=ha
  have h5:=hat.2.2 name
  rw [hw] at h5
  obtain⟨_,y,h6,h7⟩:=h5
  have hl:=N8 hdat hat name
  rw [h6] at hl
  exact hG (get_value rel.ok.1 I (plainGet_of h1).1 (findObj_own h2 h3 h4 hl) (Et h7 hne) (k ζ ρ s.heap _ y (Gr.refl _ _ _ _) rel h7))
theorem Zz{Cl:Addr}{n attr:Str}{np pos:Pos}{m:M V}(ha:Uv C.W Cl attr)(h:Yb C (eval (.Name n np) C.env) m):Yb C (eval (.Attribute (.Name n np) attr pos) C.env) (m>>=Yn Cl attr) :=
 Sim.step (fun h=>Attribute_name h) h (getAC_K ha) fun _=>Z12 _
end Lay
namespace Lay
variable{C:Cx}
noncomputable def Wv(v:V)(s:St):Option (List V):=(un V.lst v).or (((un V.ref v).bind s.hp).bind (un O.list))
inductive SlotIs{α:Type}(mk:α->O)(v:V)(s:St)(a:α):Prop
 |mk (n:Nat) (hv:v = .ref n) (q:s.hp n=some (mk a))
theorem Wz{α:Type}{mk:α->O}{v:V}{s:St}{a:α}(e:((un V.ref v).bind s.hp).bind (un mk)=some a):SlotIs mk v s a:=by
 refine byC fun hG=>?_
 obtain⟨O,e,e2⟩:=ob e
 obtain⟨n,e,q⟩:=ob e
 exact hG ⟨n,Zi e,by rw [q,Zi e2]⟩
theorem Kh{α:Type}{mk:α->O}{n:Nat}{s:St}{a:α}(i : ∀ x y,mk x=mk y->x=y)(q:s.hp n=some (mk a)):((un V.ref (.ref n)).bind s.hp).bind (un mk)=some a:=by
 rw [Vx]
 show (s.hp n).bind _=_
 rw [q];exact Ym i
theorem Kc{hY ζ:HM}{ρ:RM}{st:St}{h:Heap}(rel:Rel C hY ζ ρ st h){v:V}{x:Value}{xs:List V}(e:Wv v st=some xs)(r:VR C.W ζ ρ v x) :
  ∃ a ys n,x = .ref a/\h.get? a=some ⟨.type "list",none,.seq ys n,#[]⟩/\VRs C.W ζ ρ xs ys.toList:=by
 refine byC fun hG=>?_
 rcases oro e with e|e
 ·rw [Zi e] at r
  obtain⟨a,o,ys,rfl,h1,⟨n,rfl⟩,h2⟩:=r
  exact hG ⟨a,ys,n,rfl,rel.frozen _ _ h1,h2⟩
 ·obtain⟨n,rfl,q⟩:=Wz e
  obtain⟨a',h1',rfl⟩:=r
  obtain⟨a,o,h1,h2,ys,⟨n',rfl⟩,h4⟩:=rel.slot n _ q
  obtain rfl:a=a':=Z54 (h1.symm.trans h1')
  exact hG ⟨a,ys,n',rfl,h2,h4⟩
theorem Jw{hY ζ:HM}{ρ:RM}{st:St}{h:Heap}(rel:Rel C hY ζ ρ st h){v:V}{x:Value}{xs:List V}(e:Wv v st=some xs)(r:VR C.W ζ ρ v x) :
  ∃ a ys,x = .ref a/\h.IsList a ys/\VRs C.W ζ ρ xs ys.toList:=by
 obtain⟨a,ys,n,h1,h2,h3⟩:=Kc rel e r
 exact⟨a,ys,h1,⟨_,h2,rfl,n,rfl⟩,h3⟩
theorem Fj{hY ζ:HM}{ρ:RM}{st:St}{h:Heap}(rel:Rel C hY ζ ρ st h){x:Value}{xs:List V}(r:VR C.W ζ ρ (.tup xs) x) :
  ∃ a ys,x = .ref a/\IsTup h a ys/\VRs C.W ζ ρ xs ys.toList:=by
 refine byC fun hG=>?_
 obtain⟨a,o,ys,rfl,h1,⟨hc,n,hd⟩,h2⟩:=r
 refine hG ?_
 clear hG
 exact⟨a,ys,rfl,⟨o,rel.frozen _ _ h1,hc,n,hd⟩,h2⟩
noncomputable def Al(v:V)(s:St):Option (List (Str×V)):=((un V.ref v).bind s.hp).bind (un O.sdict)
theorem I4{hY ζ:HM}{ρ:RM}{st:St}{h:Heap}(rel:Rel C hY ζ ρ st h){v:V}{x:Value}{kvs:List (Str×V)}(e:Al v st=some kvs)(r:VR C.W ζ ρ v x) :
  ∃ n a kys,v = .ref n/\ρ n=some a/\st.hp n=some (.sdict kvs)/\x = .ref a/\(a==sysModules)=false/\h.DictOf (strKind C.W.prog C.W.w) a kys/\VRk C.W ζ ρ kvs kys:=by
 refine byC fun hG=>?_
 obtain⟨n,rfl,q⟩:=Wz e
 obtain⟨a',h1',rfl⟩:=r
 obtain⟨a,o,h1,h2,es,n',kys,rfl,h3,h4⟩:=rel.slot n _ q
 obtain rfl:a=a':=Z54 (h1.symm.trans h1')
 exact hG ⟨n,a,kys,rfl,h1,q,rfl,beq_eq_false_iff_ne.mpr fun q=>rel.sysr n (q▸h1),h3.dictOf h2,h4⟩
noncomputable def C4(v:V)(s:St):Option (List (List Int×V)):=((un V.ref v).bind s.hp).bind (un O.tdict)
theorem I8{hY ζ:HM}{ρ:RM}{st:St}{h:Heap}(rel:Rel C hY ζ ρ st h){v:V}{x:Value}{kvs:List (List Int×V)}(e:C4 v st=some kvs)(r:VR C.W ζ ρ v x) :
  ∃ n a kys,v = .ref n/\ρ n=some a/\st.hp n=some (.tdict kvs)/\x = .ref a/\(a==sysModules)=false/\h.DictOfH (tupleKind (intKind C.W.prog C.W.w)) a kys/\TKeys C.W ζ ρ kvs kys:=by
 refine byC fun hG=>?_
 obtain⟨n,rfl,q⟩:=Wz e
 obtain⟨a,kys,rfl,h1,h2,h3,h4⟩:=P4 rel q r
 exact hG ⟨n,a,kys,rfl,h1,q,rfl,h2,h3,h4⟩
theorem F2(i:Str)(t:Tok){W:Wd}:(strKind W.prog W.w).is i (.str i t)=true:=by simp [PySem.strKind,Value.isStrOf]
noncomputable def He(k:Int)(xs:List V)(s:St):Option (V×St):=if -(2^63)<=k/\k<2^63 then (seqIndex? k xs.length).bind fun j=>(xs[j]?).bind fun u=>some (u,s) else none
noncomputable def Yz(v i:V):M V:=fun s =>
 ((un V.int i).bind fun k=>((un V.tup v).bind fun xs=>He k xs s).or (((Wv v s).bind fun xs=>He k xs s).or ((K4 v s).bind fun kvs=>(Y1 kvs k).bind fun u=>some (u,s)))).or
 (((un V.str i).bind fun x=>(Al v s).bind fun kvs=>(Y1 kvs x).bind fun u=>some (u,s)).or
 ((un V.tup i).bind fun ks=>(C4 v s).bind fun kvs=>(Uc ks).bind fun l=>(Y1 kvs l).bind fun u=>some (u,s)))
inductive SeqIx(k:Int)(xs:List V)(s:St)(r:V×St):Prop
 |mk (hb : -(2^63)<=k/\k<2^63) (j:Nat) (hj:seqIndex? k xs.length=some j) (hu:xs[j]?=some r.1) (hs:r.2=s)
theorem F9{k:Int}{xs:List V}{s:St}{r:V×St}(e:He k xs s=some r):SeqIx k xs s r:=by
 refine byC fun hG=>?_
 obtain⟨hb,e⟩:=io e
 obtain⟨j,hj,e⟩:=ob e
 obtain⟨u,hu,e⟩:=ob e
 injection e with e
 subst e
 exact hG ⟨hb,j,hj,hu,rfl⟩
inductive ItemIs(v i:V)(s:St)(r:V×St):Prop
 |tup (k:Int) (xs:List V) (hi:i = .int k) (hv:v = .tup xs) (h:SeqIx k xs s r)
 |lst (k:Int) (xs:List V) (hi:i = .int k) (hv:Wv v s=some xs) (h:SeqIx k xs s r)
 |dct (k:Int) (kvs:List (Int×V)) (hi:i = .int k) (hv:K4 v s=some kvs) (h:Y1 kvs k=some r.1) (hs:r.2=s)
 |str (k:Str) (kvs:List (Str×V)) (hi:i = .str k) (hv:Al v s=some kvs) (h:Y1 kvs k=some r.1) (hs:r.2=s)
 |key (ks:List V) (l:List Int) (kvs:List (List Int×V)) (hi:i = .tup ks) (hl:Uc ks=some l) (hv:C4 v s=some kvs) (h:Y1 kvs l=some r.1) (hs:r.2=s)
theorem Tv{v i:V}{s:St}{r:V×St}(e:Yz v i s=some r):ItemIs v i s r:=by
 refine byC fun hG=>?_
 rcases oro e with e|e
 ·obtain⟨k,hi,e⟩:=ob e
  have hi:=Zi hi
  rcases oro e with e|e
  ·obtain⟨xs,hv,e⟩:=ob e
   exact hG (.tup k xs hi (Zi hv) (F9 e))
  rcases oro e with e|e
  ·obtain⟨xs,hv,e⟩:=ob e
   exact hG (.lst k xs hi hv (F9 e))
  ·obtain⟨kvs,hv,e⟩:=ob e
   obtain⟨u,hu,e⟩:=ob e
   injection e with e
   subst e
   exact hG (.dct k kvs hi hv hu rfl)
 rcases oro e with e|e
 ·obtain⟨x,hi,e⟩:=ob e
  obtain⟨kvs,hv,e⟩:=ob e
  obtain⟨u,hu,e⟩:=ob e
  injection e with e
  subst e
  exact hG (.str x kvs (Zi hi) hv hu rfl)
 ·obtain⟨ks,hi,e⟩:=ob e
  obtain⟨kvs,hv,e⟩:=ob e
  obtain⟨l,hl,e⟩:=ob e
  obtain⟨u,hu,e⟩:=ob e
  injection e with e
  subst e
  exact hG (.key ks l kvs (Zi hi) hl hv hu rfl)
theorem P1{k:Int}{n j:Nat}(h:seqIndex? k n=some j):(0<=k/\k<n/\j=k.toNat)\/(k<0/\ -(n:Int)<=k/\j=(k+n).toNat):=by
 unfold seqIndex? at h
 by_cases q:k<0
 ·simp only [q,if_true] at h
  split at h
  ·rename_i hc
   simp only [Z5q,decide_eq_true_eq] at hc
   injection h
   exact .inr ⟨q,by exact ar19 hc,rfl⟩
  ·injection h
 ·simp only [q,if_false] at h
  split at h
  ·rename_i hc
   simp only [Z5q,decide_eq_true_eq] at hc
   injection h
   exact .inl ⟨by exact ar20 q,by exact ar21 hc,rfl⟩
  ·injection h
theorem Hl{hY ζ:HM}{ρ:RM}{st:St}{s:Shared}(rel:Rel C hY ζ ρ st s.heap){v i:V}{x:Value}{r:V×St}(e:Yz v i st=some r)(rv:VR C.W ζ ρ v x) :
  ∃ T id,s.TypeIs x T/\typeLookup (.type T) "__getitem__" =pure (some (.builtin id)):=by
 refine byC fun hG=>?_
 cases Tv e with
 |tup k xs hi hv h =>
  rw [hv] at rv
  obtain⟨a,ys,rfl,⟨o,h1,h2,_⟩,_⟩:=Fj rel rv
  exact hG ⟨"tuple",_,⟨o,h1,h2⟩,PyProof.Rows.slot_tuple_getitem.lookup⟩
 |lst k xs hi hv h =>
  obtain⟨a,ys,rfl,h1,_⟩:=Jw rel hv rv
  exact hG ⟨"list",_,h1.typeIs,slot_list_getitem.lookup⟩
 |dct k kvs hi hv h hs =>
  obtain⟨a,kys,rfl,_,h1,_⟩:=Ul rel hv rv
  exact hG ⟨"dict",_,h1.typeIs,slot_dict_getitem.lookup⟩
 |str k kvs hi hv h hs =>
  obtain⟨n,a,kys,rfl,_,_,rfl,_,h1,_⟩:=I4 rel hv rv
  exact hG ⟨"dict",_,h1.typeIs,slot_dict_getitem.lookup⟩
 |key ks l kvs hi hl hv h hs =>
  obtain⟨n,a,kys,rfl,_,_,rfl,_,⟨o,_,_,h1,h2,_⟩,_⟩:=I8 rel hv rv
  exact hG ⟨"dict",_,⟨o,h1,h2.1⟩,slot_dict_getitem.lookup⟩
theorem vItem_K:Ve C getItem Yz (VR C.W):=by
 intro hY ζ ρ st s P E a b x y ok rel ra rb v st' e k
 have hu:=ok.room.units
 refine byC fun hG=>?_
 cases Tv e with
 |tup kk xs hi hv h =>
  rw [hi] at rb
  rw [hv] at ra
  obtain⟨t,rfl⟩:=rb
  obtain⟨hb,j,hj,hu',hs⟩:=h
  obtain⟨a,ys,rfl,h1,h2⟩:=Fj rel ra
  obtain⟨z,hz,_,hr⟩:=h2.get j v hu'
  have hl:ys.size=xs.length:=by rw [<-h2.length];simp
  exact hG (PyProof.Rows.getItem_tuple h1 hb.1 hb.2 (by rw [hl];exact hj) (by simpa using hz) (k ζ ρ s.heap _ _ (Gr.refl _ _ _ _) ((show st'=st from hs)▸rel) hr))
 |lst kk xs hi hv h =>
  rw [hi] at rb
  obtain⟨t,rfl⟩:=rb
  obtain⟨hb,j,hj,hu',hs⟩:=h
  obtain⟨a,ys,rfl,h1,h2⟩:=Jw rel hv ra
  obtain⟨z,hz,_,hr⟩:=h2.get j v hu'
  have hl:ys.size=xs.length:=by rw [<-h2.length];simp
  have fin:=k ζ ρ s.heap s.toks z (Gr.refl _ _ _ _) ((show st'=st from hs)▸rel) hr
  rcases P1 hj with⟨q1,q2,rfl⟩|⟨q1,q2,rfl⟩
  ·exact hG (wpAny_getItem_list h1 q1 hb.2 (by simpa using hz) fin)
  ·exact hG (wpAny_getItem_list_neg h1 q1 (by rw [hl];exact q2) hb.1 (by rw [hl];simpa using hz) fin)
 |dct kk kvs hi hv h hs =>
  rw [hi] at rb
  obtain⟨t,rfl⟩:=rb
  obtain⟨a,kys,rfl,_,h1,h2⟩:=Ul rel hv ra
  have h3:=h2.get kk
  rw [h] at h3
  obtain⟨_,z,h4,h5⟩:=h3
  exact hG (wpAny_getItem_of (Wi kk t) h1.mapOf h4 (k ζ ρ s.heap _ _ (Gr.refl _ _ _ _) ((show st'=st from hs)▸rel) h5))
 |str kk kvs hi hv h hs =>
  rw [hi] at rb
  obtain⟨t,rfl⟩:=rb
  obtain⟨n,a,kys,rfl,_,_,rfl,_,h1,h2⟩:=I4 rel hv ra
  have h3:=h2.get kk
  rw [h] at h3
  obtain⟨_,z,h4,h5⟩:=h3
  exact hG (wpAny_getItem_of (F2 kk t) h1.mapOf h4 (k ζ ρ s.heap _ _ (Gr.refl _ _ _ _) ((show st'=st from hs)▸rel) h5))
 |key ks l kvs hi hl hv h hs =>
  rw [hi] at rb
  obtain⟨n,a,kys,rfl,_,_,rfl,_,h1,h2⟩:=I8 rel hv ra
  obtain⟨ax,rfl,hkey,_⟩:=Mu rel hl rb
  have h3:=h2.get l
  rw [h] at h3
  obtain⟨_,z,h4,h5⟩:=h3
  exact hG (wpAny_getItem_heap (knd:=tupleKind (intKind C.W.prog C.W.w)) (by show C.A.units+1<cLine;exact ar6 hu) hkey h1 h4 (k ζ ρ s.heap _ _ (Gr.refl _ _ _ _) ((show st'=st from hs)▸rel) h5))
theorem Zl{value slice:PySem.Expr}{pos:Pos}{m1 m2:M V}(h1:Yb C (eval value C.env) m1)(h2:Yb C (eval slice C.env) m2)
  (hs : ∀ o i,subscripted slice false o i=operate [o,i] (getItem o i):=by intro _ _;with_unfolding_all rfl) :
  Yb C (eval (.Subscript value slice pos) C.env) (do let a<-m1;let b<-m2;Yz a b):=by
 refine M7 (fun h=>Subscript_ h) h1 h2 ?_
 intro hY ζ ρ st s P E a b x y ok rel ra rb v st' e k
 refine byC fun hG=>?_
 obtain⟨T,id,hT,hl⟩:=Hl rel e ra
 refine hG ?_
 clear hG
 exact tail_any hT hl (vItem_K hY ζ ρ st s P E a b x y ok rel ra rb v st' e k) (hs x y)
theorem Rj{hY ζ:HM}{ρ:RM}{st:St}{h h':Heap}{K:Type} [DecidableEq K]{knd:KeyKind C.W.prog C.W.w K}{mk:List (K×V)->O}(hmk : ∀ kvs o,(∃ es n kys,o=Gq es n/\Ent C.W knd es kys/\VRk C.W ζ ρ kvs kys)->OR C.W ζ ρ (mk kvs) o)
  (rel:Rel C hY ζ ρ st h) {n:Nat} {a:Addr} (hn:ρ n=some a) {kvs:List (K×V)} {kys:List (K×Value)} (hk:VRk C.W ζ ρ kvs kys) {k:K} {v:V} {y:Value} (hl:v.low=true) (hv:VR C.W ζ ρ v y)
  (hd:h'.DictOf knd a (stored kys k y)) (hs:Z5g a h h'):Rel C hY ζ ρ {st with hp:=upd st.hp n (some (mk (Y6 kvs k v)))} h'/\Gr C.T h ζ ρ h' ζ ρ:=by
 refine byC fun hG=>?_
 obtain⟨es,m,ho,he⟩:=Ent.back hd
 refine hG ?_
 clear hG
 exact rel.set hn hs ho (hmk _ _ ⟨es,m,_,rfl,he,hk.stored k hl hv⟩)
noncomputable def putK{K:Type} [DecidableEq K](mk:List (K×V)->O)(n:Nat)(k:K)(u:V)(s:St):Option (Unit×St) :=
 ((s.hp n).bind (un mk)).bind fun kvs=>if kvs.length<lim then some ((),{s with hp:=upd s.hp n (some (mk (Y6 kvs k u)))}) else none
noncomputable def Du(v i u:V):M Unit:=fun s=>(un V.ref v).bind fun n=>if u.low=true then
 ((un V.int i).bind fun k=>putK .idict n k u s).or (((un V.str i).bind fun k=>putK .sdict n k u s).or ((un V.tup i).bind fun ks=>(Uc ks).bind fun l=>putK .tdict n l u s)) else none
inductive PutK{K:Type} [DecidableEq K](mk:List (K×V)->O)(n:Nat)(k:K)(u:V)(s:St)(r:Unit×St):Prop
 |mk (kvs:List (K×V)) (h:s.hp n=some (mk kvs)) (hl:kvs.length<lim) (hr:r.2={s with hp:=upd s.hp n (some (mk (Y6 kvs k u)))})
theorem Bv{K:Type} [DecidableEq K]{mk:List (K×V)->O}{n:Nat}{k:K}{u:V}{s:St}{r:Unit×St}(e:putK mk n k u s=some r):PutK mk n k u s r:=by
 refine byC fun hG=>?_
 obtain⟨kvs,h,e⟩:=ob e
 obtain⟨hl,e⟩:=io e
 obtain⟨O,h,h2⟩:=ob h
 injection e with e
 exact hG ⟨kvs,by rw [h,Zi h2],hl,by rw [<-e]⟩
theorem TKeys.any{W:Wd}{ζ:HM}{ρ:RM} : ∀ {kvs:List (List Int×V)} {kys:List (List Int×Addr×Value)},TKeys W ζ ρ kvs kys->kys.map (·.1)=kvs.map (·.1)
 | [],_,h=>by change _=_ at h;subst h;rfl
 |(k',v)::r,_,hH=>by obtain⟨a,y,r',ks,o,e,h0,ht,h1,hl,h2,h3⟩:=hH;subst e;simp [h3.any]
theorem TKeys.append{W:Wd}{ζ:HM}{ρ:RM} : ∀ {kvs kvs':List (List Int×V)} {kys kys':List (List Int×Addr×Value)},TKeys W ζ ρ kvs kys->TKeys W ζ ρ kvs' kys'->TKeys W ζ ρ (kvs++kvs') (kys++kys')
 | [],_,_,_,h,h'=>by change _=_ at h;subst h;exact h'
 |(k',v)::r,_,_,_,hH,h'=>by obtain⟨a,y,r',ks,o,e,h0,ht,h1,hl,h2,h3⟩:=hH;subst e;exact⟨a,y,_,ks,o,rfl,h0,ht,h1,hl,h2,h3.append h'⟩
theorem TKeys.mapSet{W:Wd}{ζ:HM}{ρ:RM}(k:List Int){u:V}{z:Value}(hl:u.low=true)(hu:VR W ζ ρ u z) : ∀ {kvs:List (List Int×V)} {kys:List (List Int×Addr×Value)},TKeys W ζ ρ kvs kys->
  TKeys W ζ ρ (kvs.map fun kv=>if kv.1=k then (kv.1,u) else kv) (kys.map (putAt k z))
 | [],_,h=>by change _=_ at h;subst h;rfl
 |(k',v)::r,_,hH=>by
  refine byC fun hG=>?_
  obtain⟨a,y,r',ks,o,e,h0,ht,h1,hl',h2,h3⟩:=hH
  subst e
  refine hG ?_
  clear hG
  simp only [Z3s]
  by_cases q:k'=k
  ·simp only [q,putAt,if_true];exact⟨a,z,_,ks,o,rfl,h0,ht,q▸h1,hl,hu,TKeys.mapSet k hl hu h3⟩
  ·simp only [q,putAt,if_false];exact⟨a,y,_,ks,o,rfl,h0,ht,h1,hl',h2,TKeys.mapSet k hl hu h3⟩
theorem TKeys.stored{W:Wd}{ζ:HM}{ρ:RM}{kvs:List (List Int×V)}{kys:List (List Int×Addr×Value)}(h:TKeys W ζ ρ kvs kys)(k:List Int){a:Addr}{o:Obj}{ks:Array Value}(h0:ζ a=some o)(ht:Hw o ks)(h1:ItemsAre (intKind W.prog W.w) k ks.toList)
  {v:V} {y:Value} (hl:v.low=true) (hv:VR W ζ ρ v y):TKeys W ζ ρ (Y6 kvs k v) (storedH kys k a y):=by
 unfold Y6 storedH
 rw [Xz,h.some_iff k]
 split
 ·exact TKeys.mapSet k hl hv h
 ·exact h.append ⟨a,y,[],ks,o,rfl,h0,ht,h1,hl,hv,rfl⟩
theorem TKeys.length{W:Wd}{ζ:HM}{ρ:RM}{kvs:List (List Int×V)}{kys:List (List Int×Addr×Value)}(h:TKeys W ζ ρ kvs kys):kys.length=kvs.length:=by
 have:=congrArg Z3a h.any;simpa using this
theorem Z0j:SimK3 C (fun v o i=>setItem o i v) (fun u v i=>Du v i u):=by
 intro hY ζ ρ st s P E u v i y x z ok rel ru rv ri a st' e k
 have hu:=ok.room.units
 refine byC fun hG=>?_
 obtain⟨n,hv,e⟩:=ob e
 obtain⟨hl,e⟩:=io e
 rw [Zi hv] at rv
 obtain⟨ad,hn,rfl⟩:=rv
 have hsys:(ad==sysModules)=false:=beq_eq_false_iff_ne.mpr fun q=>rel.sysr n (q▸hn)
 rcases oro e with e|e
 ·obtain⟨kk,hi,e⟩:=ob e
  rw [Zi hi] at ri
  obtain⟨t,rfl⟩:=ri
  obtain⟨kvs,q,hlen,rfl⟩:=Bv e
  obtain⟨a',o,h1,h2,es,n',kys,rfl,h3,hk⟩:=rel.slot n _ q
  obtain rfl:ad=a':=Z54 (hn.symm.trans h1)
  refine hG (wpAny_setItem_pairs (Wi kk t) (h3.dictOf h2) (fun h' hd' hs=>?_) (by have:=hk.length;have:=J3 (n:=kys.length) (by exact ar22 hlen this);exact ar23 this))
  obtain⟨R',G'⟩:=Rj (mk:=.idict) (fun _ _ h=>h) rel hn hk hl ru hd' hs
  exact k _ _ _ _ G' R'
 rcases oro e with e|e
 ·obtain⟨kk,hi,e⟩:=ob e
  rw [Zi hi] at ri
  obtain⟨t,rfl⟩:=ri
  obtain⟨kvs,q,hlen,rfl⟩:=Bv e
  obtain⟨a',o,h1,h2,es,n',kys,rfl,h3,hk⟩:=rel.slot n _ q
  obtain rfl:ad=a':=Z54 (hn.symm.trans h1)
  refine hG (wpAny_setItem_pairs (F2 kk t) (h3.dictOf h2) (fun h' hd' hs=>?_) (by have:=hk.length;have:=J3 (n:=kys.length) (by exact ar22 hlen this);exact ar23 this))
  obtain⟨R',G'⟩:=Rj (mk:=.sdict) (fun _ _ h=>h) rel hn hk hl ru hd' hs
  exact k _ _ _ _ G' R'
 ·obtain⟨ks,hi,e⟩:=ob e
  obtain⟨l,ql,e⟩:=ob e
  rw [Zi hi] at ri
  obtain⟨kvs,q,hlen,rfl⟩:=Bv e
  obtain⟨ad',kys,e1,h1,_,hd,hk⟩:=P4 rel q (x:=.ref ad) (by refine(?_:Exists _);exact⟨ad,hn,rfl⟩)
  obtain rfl:ad=ad':=Z54 (hn.symm.trans h1)
  obtain⟨ax,rfl,hkey,o,kz,h0,ht,h1⟩:=Mu rel ql ri
  refine hG (wpAny_setItem_heap (knd:=tupleKind (intKind C.W.prog C.W.w)) (by show C.A.units+1<cLine;exact ar6 hu) hkey hd (fun h' hd' hs=>byC fun hG=>?_) (by have:=hk.length;have:=J3 (n:=kys.length) (by exact ar22 hlen this);exact ar23 this))
  obtain⟨⟨c,d,dt,sl⟩,es,ep,ho,⟨x1,x2,x3⟩,hdat,hes,_,hnd⟩:=hd'
  simp only at x1 x2 x3 hdat
  subst x1 x2 x3 hdat
  obtain⟨R',G'⟩:=rel.set hn hs ho (O:=.tdict (Y6 kvs l u)) ⟨es,ep,_,rfl,hes,hnd,hk.stored l h0 ht h1 hl ru⟩
  exact hG (k _ _ _ _ G' R')
theorem Xg{o i:PySem.Expr}{pos' pos:Pos}{value:PySem.Expr}{m mo mi:M V}(h:Yb C (eval value C.env) m)(ho:Yb C (eval o C.env) mo)(hi:Yb C (eval i C.env) mi)(hs:swapsWith value (some (.Subscript o i pos')) pos.line C.env=pure false:=by rfl) :
  Qi C (exec (.Assign [.Subscript o i pos'] value pos) C.env) (do let u<-m;let v<-mo;let k<-mi;Du v k u;pure .next):=by
 intro hY ζ ρ st s P E ok rel a st' e k
 refine byC fun hG=>?_
 obtain⟨u,s1,e1,e⟩:=Z6z e
 obtain⟨v,s2,e2,e⟩:=Z6z e
 obtain⟨i',s3,e3,e⟩:=Z6z e
 obtain⟨x',s4,e4,e5⟩:=Z6z e
 injection e5
 refine hG ?_
 clear hG
 refine wpAny_Assign_Subscript (h hY ζ ρ st s _ E ok rel u s1 e1 fun ζ1 ρ1 h1 tk1 y G1 rel1 r1=>?_) hs
 refine ho hY ζ1 ρ1 s1 _ _ E ok rel1 v s2 e2 fun ζ2 ρ2 h2 tk2 x G2 rel2 r2=>?_
 refine hi hY ζ2 ρ2 s2 _ _ E ok rel2 i' s3 e3 fun ζ3 ρ3 h3 tk3 z G3 rel3 r3=>?_
 exact Z0j hY ζ3 ρ3 s3 _ _ E u v i' y x z ok rel3 (VR.gr rel2 G3 (VR.gr rel1 G2 r1)) (VR.gr rel2 G3 r2) r3 _ _ e4 fun ζ4 ρ4 h4 tk4 G4 rel4=>k ζ4 ρ4 h4 tk4 _ ((((G1.trans G2).trans G3).trans G4).weak ok.bt) rel4 rfl
end Lay
namespace Lay
variable{C:Cx}
noncomputable def M.whileN(mt:M Bool)(mb:M Fl):Nat->M Fl
 |0=>M.fail
 |n+1=>do
  let b<-mt
  if b then do
   let f<-mb
   match f with
   |.next=>M.whileN mt mb n
   |.cont=>M.whileN mt mb n
   |.brk=>pure .next
   |.ret v=>pure (.ret v)
  else pure .next
open Classical in
noncomputable def M.whileW(mt:M Bool)(mb:M Fl):M Fl:=fun s =>
 if h : ∃ n r,M.whileN mt mb n s=some r then some (choose (choose_spec h)) else none
theorem M.whileW_some{mt:M Bool}{mb:M Fl}{s:St}{r}(h:M.whileW mt mb s=some r) : ∃ n,M.whileN mt mb n s=some r:=by
 unfold M.whileW at h
 split at h
 ·rename_i h'
  refine⟨Classical.choose h',?_⟩
  rw [Classical.choose_spec (Classical.choose_spec h')];exact h
 ·injection h
inductive WhI(C:Cx)(hY ζ:HM)(ρ:RM)(s:Shared)(mt:M Bool)(mb:M Fl)(r:Fl×St)(n:Nat)(s':Shared):Prop
 |mk (ζ1:HM) (ρ1:RM) (st1:St) (h1:Heap) (tk1:Tok) (e:s'={s with heap:=h1,toks:=tk1}) (G:Gr C.B s.heap ζ ρ h1 ζ1 ρ1) (rel:Rel C hY ζ1 ρ1 st1 h1) (e1:M.whileN mt mb n st1=some r)
theorem Qj{test:PySem.Expr}{body:List Stmt}{pos:Pos}{mt:M Bool}{mb:M Fl}(ht:P9 C (isTrue test C.env (eval test C.env)) mt)(hb:Qi C (execs body C.env) mb) :
  Qi C (exec (.While test body [] pos) C.env) (M.whileW mt mb):=by
 intro hY ζ ρ st s P E ok rel a st' e k
 obtain⟨n,e⟩:=M.whileW_some e
 refine wpAny_While (codeAny_whileLoop (WhI C hY ζ ρ s mt mb (a,st')) (fun n s' hI=>?_) n ⟨ζ,ρ,st,s.heap,s.toks,rfl,Gr.refl _ _ _ _,rel,e⟩)
 refine byC fun hG=>?_
 obtain⟨ζ1,ρ1,st1,h1,tk1,rfl,G1,rel1,e1⟩:=hI
 refine hG ?_
 clear hG
 cases n with
 |zero=>injection e1
 |succ n =>
  refine byC fun hG=>?_
  obtain⟨b,s2,e2,e3⟩:=Z6z e1
  refine hG ?_
  clear hG
  refine ht hY ζ1 ρ1 st1 _ _ _ ok rel1 b s2 e2 fun ζ2 ρ2 h2 tk2 b' G2 rel2 r2=>?_
  injection r2
  have G2':=G1.trans (G2.weak ok.bt)
  cases b with
  |false =>
   injection e3
   exact wpAny_execs_nil (k ζ2 ρ2 h2 tk2 _ G2' rel2 rfl)
  |true =>
   rw [if_pos rfl] at e3 ⊢
   refine byC fun hG=>?_
   obtain⟨f,s3,e4,e5⟩:=Z6z e3
   refine hG ?_
   clear hG
   refine hb hY ζ2 ρ2 s2 _ _ _ ok rel2 f s3 e4 fun ζ3 ρ3 h3 tk3 b3 G3 rel3 r3=>?_
   have G3':=G2'.trans G3
   cases f with
   |next=>injection r3;exact⟨n,Z1g n,ζ3,ρ3,s3,h3,tk3,rfl,G3',rel3,e5⟩
   |cont=>injection r3;exact⟨n,Z1g n,ζ3,ρ3,s3,h3,tk3,rfl,G3',rel3,e5⟩
   |brk=>injection r3;injection e5;exact k ζ3 ρ3 h3 tk3 _ G3' rel3 rfl
   |ret v=>obtain⟨y,rfl,hy⟩:=r3;injection e5;exact k ζ3 ρ3 h3 tk3 _ G3' rel3 ⟨y,rfl,hy⟩
theorem Rel.addK{hY ζ:HM}{ρ:RM}{st:St}{h:Heap}(R:Rel C hY ζ ρ st h){I:Addr}{o:Obj}(hI:h.get? I=some o)(off:ζ I=none/\hY I=none/\∀ n,ρ n≠some I)(hp : ∀ i pl,C.pl i=some pl->pl.addr≠I):Rel C (upd hY I (some o)) ζ ρ st h:=by
 have le:Le hY (upd hY I (some o)):=Wh off.2.1
 refine⟨⟨R.ok,fun a o' e=>?_,R.frozen,R.fcls,R.slot,R.dom,R.inj,R.offz,fun n a e=>?_,fun h' q=>R.good h' (le.trans q),R.sysr,R.sysz⟩,R.fresh,R.mid,R.var,R.plok,fun i pl e=>⟨(R.ploff i pl e).1,?_,(R.ploff i pl e).2.2⟩,R.plinj⟩
 ·by_cases q:a=I
  ·subst q;rw [Z4] at e;injection e;exact hI
  ·rw [Z5 _ _ q] at e;exact R.kept a o' e
 ·have:a≠I:=fun q=>off.2.2 n (q▸e)
  rw [Z5 _ _ this];exact R.offk n a e
 ·rw [Z5 _ _ (hp i pl e)];exact(R.ploff i pl e).2.1
theorem Rel.dropK{hY h₁ ζ:HM}{ρ:RM}{st:St}{h:Heap}(R:Rel C h₁ ζ ρ st h)(le:Le hY h₁)(good : ∀ h':Heap,Le hY h'.get?->C.W.Ok h'):Rel C hY ζ ρ st h:=by
 have dn : ∀ a,h₁ a=none->hY a=none:=fun a e=>by
  cases q:hY a with
  |none=>rfl
  |some o=>rw [le a o q] at e;injection e
 exact⟨⟨R.ok,le.trans R.kept,R.frozen,R.fcls,R.slot,R.dom,R.inj,R.offz,fun n a e=>dn a (R.offk n a e),good,R.sysr,R.sysz⟩,R.fresh,R.mid,R.var,R.plok,fun i pl e=>⟨(R.ploff i pl e).1,dn _ (R.ploff i pl e).2.1,(R.ploff i pl e).2.2⟩,R.plinj⟩
structure Off(C:Cx)(hY ζ:HM)(ρ:RM)(I:Addr):Prop where
 z:ζ I=none
 k:hY I=none
 r : ∀ n,ρ n≠some I
 p : ∀ i pl,C.pl i=some pl->pl.addr≠I
theorem Rel.offNew{hY ζ:HM}{ρ:RM}{st:St}{h:Heap}(R:Rel C hY ζ ρ st h){a:Addr}(ha:h.get? a=none):Off C hY ζ ρ a :=
 let ⟨⟨a1,a2,a3⟩,a4⟩:=R.newOff ha;⟨a1,a2,a3,a4⟩
theorem Off.nnw{hY ζ:HM}{ρ:RM}{I:Addr}{B:Nat}{h:Heap}(x:Off C hY ζ ρ I)(hI:h.get? I≠none)(q:Nw B h ρ I):False :=
 q.elim hI fun q=>by obtain⟨n,_,q⟩:=q;exact x.r n q
theorem Off.gr{hY ζ ζ':HM}{ρ ρ':RM}{I:Addr}{B:Nat}{h h':Heap}(x:Off C hY ζ ρ I)(G:Gr B h ζ ρ h' ζ' ρ')(hI:h.get? I≠none):Off C hY ζ' ρ' I where
 z:=by
  cases q:ζ' I with
  |none=>rfl
  |some o =>
    rcases G.zn _ _ q with q|q
    ·rw [x.z] at q;injection q
    ·exact(x.nnw hI q).elim
 k:=x.k
 r:=fun n q=>by
  rcases G.rn _ _ q with q|q
  ·exact x.r n q
  ·exact x.nnw hI q
 p:=x.p
noncomputable abbrev k0:HM:=fun _=>none
theorem A6(h:HM):Le k0 h:=fun _ _ e=>(nope e).elim
structure Src(C:Cx)(κ:HM)(v:V)(items:St->Option (List V))(J:Value->Nat->Obj->Prop):Prop where
 start : ∀ (hY ζ:HM) (ρ:RM) (st:St) (s:Shared) (P:Value->Shared->Prop) (E:Value->Shared->Prop) (x:Value) (xs:List V),Le κ hY->C.Ok->Rel C hY ζ ρ st s.heap->VR C.W ζ ρ v x->items st=some xs->
  (∀ o,J x 0 o->o.isFreed=false->P (.ref s.heap.objs.size) {s with heap:=s.heap.push o})->wpAny (model C.W.prog C.W.w) C.A (pyIter x) P E s
 next : ∀ (hY ζ:HM) (ρ:RM) (st:St) (s:Shared) (P:Option Value->Shared->Prop) (E:Value->Shared->Prop) (x:Value) (xs:List V) (I:Addr) (i:Nat) (o:Obj),Le κ hY->C.Ok->Rel C hY ζ ρ st s.heap->VR C.W ζ ρ v x->items st=some xs->
  s.heap.get? I=some o->J x i o->Off C hY ζ ρ I->
  (∀ u y h' o' tk,xs[i]?=some u->VR C.W ζ ρ u y->Z5g I s.heap h'->h'.get? I=some o'->J x (i+1) o'->P (some y) {s with heap:=h',toks:=tk})->
  (xs[i]?=none->∀ h',Heap.ExtBut I s.heap h'->P none {s with heap:=h'})->wpAny (model C.W.prog C.W.w) C.A (pyNext (.ref I)) P E s
 lot : ∀ (target:PySem.Expr) (s:Shared) (P:Unit->Shared->Prop) (E:Value->Shared->Prop) (x:Value) (I:Addr) (i:Nat) (o:Obj) (y:Value),s.heap.get? I=some o->J x i o->P () s->
  wpAny (model C.W.prog C.W.w) C.A (letOwnedTupleGo target (.ref I) y) P E s
 self : ∀ (s:Shared) (P:Value->Shared->Prop) (E:Value->Shared->Prop) (x:Value) (I:Addr) (i:Nat) (o:Obj),s.heap.get? I=some o->J x i o->P (.ref I) s->wpAny (model C.W.prog C.W.w) C.A (pyIter (.ref I)) P E s
noncomputable def D3(n:String):Bool := ["enumerate","zip","dict_itemiterator","dict_reverseitemiterator","odict_iterator","itertools.zip_longest","itertools.pairwise"].contains n
theorem Qz{M':Model}{A:Around}{target:PySem.Expr}{s:Shared}{P:Unit->Shared->Prop}{E:Value->Shared->Prop}{I:Addr}{o:Obj}{y:Value}{n:String}(ho:s.heap.get? I=some o)(hc:o.cls = .type n)(hn:D3 n=false)(h:P () s) :
  wpAny M' A (letOwnedTupleGo target (.ref I) y) P E s:=by
 have main : ∀ es k p,wpAny M' A (letOwnedTupleGo (.Tuple es k p) (.ref I) y) P E s:=fun es k p=>by
  cases y with
  |ref a =>
   refine Z5l (wpAny_load ho ?_)
   obtain⟨c,d,dt,sl⟩:=o
   subst hc
   cases dt with
   |fields vs =>
    have hn':((["enumerate","zip","dict_itemiterator","dict_reverseitemiterator","odict_iterator","itertools.zip_longest","itertools.pairwise"]:List String).contains n&&vs[0]?==some (rawInt a))=false:=by rw [show List.contains _ n=false from hn];rfl
    exact wpAny_ite_false (decide_eq_false fun q=>Bool.noConfusion (hn'.symm.trans q)) (Z5p h)
   |_=>exact Z5p h
  |_=>exact Z5p h
 cases target with
 |Tuple es k p=>exact main es k p
 |List es p=>exact main [] 0 p
 |_=>exact Z5p h
noncomputable def Tw(x:Value)(i:Nat)(o:Obj):Prop := ∃ l,x = .ref l/\o.cls = .type "list_iterator" /\o.data = .fields #[.ref l,.int i 0]
theorem Src.list{κ:HM}{v:V}:Src C κ v (Wv v) Tw where
 start:=fun hY ζ ρ st s P E x xs hκ ok rel r e k=>by
  refine byC fun hG=>?_
  obtain⟨a,ys,rfl,h1,_⟩:=Jw rel e r
  refine hG ?_
  clear hG
  exact wpAny_pyIter_list h1 (k _ ⟨a,rfl,rfl,rfl⟩ rfl)
 next:=fun hY ζ ρ st s P E x xs I i o hκ ok rel r e ho hj off k1 k2=>by
  refine byC fun hG=>?_
  obtain⟨a,ys,rfl,h1,h2⟩:=Jw rel e r
  obtain⟨l,e1,hc,hd⟩:=hj
  injection e1
  refine hG ?_
  clear hG
  cases q:xs[i]? with
  |some u =>
   refine byC fun hG=>?_
   obtain⟨y,hy,_,hr⟩:=h2.get i u q
   refine hG ?_
   clear hG
   refine wpAny_pyNext_list_item ⟨o,ho,hc,hd⟩ h1 (by simpa using hy) fun h' hit hs=>?_
   refine byC fun hG=>?_
   obtain⟨o',ho',hc',hd'⟩:=hit
   refine hG ?_
   clear hG
   exact k1 u y h' o' s.toks q hr hs ho' ⟨_,rfl,hc',hd'⟩
  |none =>
   refine wpAny_pyNext_list_end ok.room.handled ⟨o,ho,hc,hd⟩ h1 ?_ fun h' hs=>k2 q h' hs
   have hl:ys.size=xs.length:=by rw [<-h2.length];simp
   rw [Z2x] at q
   simp;exact ar24 q hl
 lot:=fun target s P E x I i o y ho ⟨l,_,hc,_⟩ h=>Qz ho hc rfl h
 self:=fun s P E x I i o ho ⟨l,_,hc,hd⟩ h=>wpAny_pyIter_listiter ⟨o,ho,hc,hd⟩ h
noncomputable def Nq(v:V):Option (List V):=un V.tup v
noncomputable def JTup(x:Value)(i:Nat)(o:Obj):Prop := ∃ l,x = .ref l/\o.cls = .type "tuple_iterator" /\o.data = .fields #[.ref l,.int i 0]
theorem Src.tuple{κ:HM}{v:V}:Src C κ v (fun _=>Nq v) JTup where
 start:=fun hY ζ ρ st s P E x xs hκ ok rel r e k=>by
  rw [Zi e] at r
  refine byC fun hG=>?_
  obtain⟨a,ys,rfl,h1,_⟩:=Fj rel r
  exact hG (wpAny_pyIter_tuple h1 (k _ ⟨a,rfl,rfl,rfl⟩ rfl))
 next:=fun hY ζ ρ st s P E x xs I i o hκ ok rel r e ho hj off k1 k2=>by
  rw [Zi e] at r
  refine byC fun hG=>?_
  obtain⟨a,ys,rfl,h1,h2⟩:=Fj rel r
  obtain⟨l,e1,hc,hd⟩:=hj
  injection e1
  refine hG ?_
  clear hG
  cases q:xs[i]? with
  |some u =>
   refine byC fun hG=>?_
   obtain⟨y,hy,_,hr⟩:=h2.get i u q
   refine hG ?_
   clear hG
   refine wpAny_pyNext_tuple_item ⟨o,ho,hc,hd⟩ h1 (by simpa using hy) fun h' hit hs=>?_
   refine byC fun hG=>?_
   obtain⟨o',ho',hc',hd'⟩:=hit
   refine hG ?_
   clear hG
   exact k1 u y h' o' s.toks q hr hs ho' ⟨_,rfl,hc',hd'⟩
  |none =>
   refine wpAny_pyNext_tuple_end ok.room.handled ⟨o,ho,hc,hd⟩ h1 ?_ fun h' hs=>k2 q h' hs
   have hl:ys.size=xs.length:=by rw [<-h2.length];simp
   rw [Z2x] at q
   simp;exact ar24 q hl
 lot:=fun target s P E x I i o y ho ⟨l,_,hc,_⟩ h=>Qz ho hc rfl h
 self:=fun s P E x I i o ho ⟨l,_,hc,hd⟩ h=>wpAny_pyIter_tupleiter ⟨o,ho,hc,hd⟩ h
noncomputable def Kn(a b c:Int):List V:=(Z4o (Builtin.Range.rangeSize a b c).toNat).map fun(i:Nat)=>V.int (a+(i:Int)*c)
noncomputable def rng3(t:Int×Int×Int):V:=V.rng t.1 t.2.1 t.2.2
noncomputable def Dk(v:V):Option (List V):=(un rng3 v).bind fun t=>if Builtin.Range.small t.1 t.2.1 t.2.2=true then some (Kn t.1 t.2.1 t.2.2) else none
theorem un_rng{a b c:Int}:un rng3 (V.rng a b c)=some (a,b,c):=Ym (f:=rng3) (a:=(a,b,c)) fun _ _ e=>by
 obtain⟨h1,h2,h3⟩:=V.rng.inj e
 exact Z6y h1 (Z6y h2 h3)
inductive RngIs(v:V)(xs:List V):Prop
 |mk (a b c:Int) (hv:v = .rng a b c) (hs:Builtin.Range.small a b c=true) (hx:xs=Kn a b c)
theorem Tq{v:V}{xs:List V}(e:Dk v=some xs):RngIs v xs:=by
 refine byC fun hG=>?_
 obtain⟨⟨a,b,c⟩,h,e⟩:=ob e
 obtain⟨hs,e⟩:=io e
 injection e with e
 exact hG ⟨a,b,c,Zi (f:=rng3) h,hs,e.symm⟩
noncomputable def Z03(a b c:Int)(i:Nat)(o:Obj):Prop:=o={cls:=.type "range_iterator",data:=.fields #[rawInt (a+i*c),rawInt (Builtin.Range.rangeSize a b c-i),rawInt c]}
theorem Fq(a b c:Int):0<=Builtin.Range.rangeSize a b c:=by
 unfold Builtin.Range.rangeSize
 split
 ·split
  ·rename_i h1 h2
   have:=Int.ediv_nonneg (a:=b-a-1) (b:=c) (by exact ar25 h2) (by exact ar26 h1)
   exact ar27 this
  ·exact Z6a _
 ·split
  ·rename_i h1 h2
   have h3:0<=(a-b-1)/(-c):=by
    by_cases h0:c=0
    ·subst h0;simp
    ·exact Int.ediv_nonneg (by exact ar28 h2) (by exact ar29 h1)
   exact ar27 h3
  ·exact Z6a _
theorem Src.range{κ:HM}{a b c:Int}:Src C κ (.rng a b c) (fun _=>Dk (.rng a b c)) (fun _=>Z03 a b c) where
 start:=fun hY ζ ρ st s P E x xs hκ ok rel r e k=>by
  obtain⟨a,b,c,hv,hs,rfl⟩:=Tq e
  injection hv with q1 q2 q3
  subst q1 q2 q3
  refine byC fun hG=>?_
  obtain⟨ad,t,u,w,rfl,h1⟩:=r
  refine hG ?_
  clear hG
  have hj:Z03 a b c (0:Nat) {cls:=.type "range_iterator",data:=.fields #[rawInt a,rawInt (Builtin.Range.rangeSize a b c),rawInt c]}:=by
   unfold Z03;simp
  exact wpAny_pyIter_range (t:=t) (u:=u) (v:=w) (a:=a) (b:=b) (c:=c) (rel.frozen _ _ h1) hs (k _ hj rfl)
 next:=fun hY ζ ρ st s P E x xs I i o hκ ok rel r e ho hj off k1 k2=>by
  obtain⟨a,b,c,hv,hs,rfl⟩:=Tq e
  injection hv with q1 q2 q3
  subst q1 q2 q3
  unfold Z03 at hj
  subst hj
  have hnn:=Fq a b c
  by_cases q:(i:Int)<Builtin.Range.rangeSize a b c
  ·refine wpAny_pyNext_range_item ho (by exact ar30 q) fun h' hit hs'=>?_
   refine k1 (.int (a+i*c)) _ h' _ _ ?_ (Exists.intro _ rfl) hs' hit ?_
   ·unfold Kn
    rw [Z30,Z32 (by exact ar31 hnn q)];rfl
   ·have e1:a+((i+1:Nat):Int)*c=a+(i:Int)*c+c:=by rw [Int.natCast_succ,Int.add_mul];exact ar32
    have e2:Builtin.Range.rangeSize a b c-((i+1:Nat):Int)=Builtin.Range.rangeSize a b c-(i:Int)-1:=by exact ar33
    unfold Z03
    rw [e1,e2]
  ·refine wpAny_pyNext_range_end ok.room.handled ho (by exact ar34 q) fun h' hs'=>k2 ?_ h' hs'
   rw [Z2x]
   unfold Kn
   simp;exact ar35 q
 lot:=fun target s P E x I i o y ho hj h=>by
  unfold Z03 at hj
  subst hj
  exact Qz ho rfl rfl h
 self:=fun s P E x I i o ho hj h=>by
  unfold Z03 at hj
  subst hj
  exact wpAny_pyIter_rangeiter ho h
noncomputable def Yh(v:V)(st:St):Option (List V):=(Nq v).or ((Dk v).or (Wv v st))
noncomputable def JSeq(v:V)(x:Value)(i:Nat)(o:Obj):Prop:=@V.casesOn (fun _=>Prop) v (Tw x i o) (fun _=>Tw x i o) (fun _=>Tw x i o) (fun _=>Tw x i o) (fun _=>JTup x i o) (fun _=>Tw x i o) (fun _=>Tw x i o) (fun _=>Tw x i o) (fun _=>Tw x i o) (fun a b c=>Z03 a b c i o)
theorem Src.of{κ:HM}{v:V}{i1 i2:St->Option (List V)}{J:Value->Nat->Obj->Prop}(h:Src C κ v i1 J)(e : ∀ st xs,i2 st=some xs->i1 st=some xs):Src C κ v i2 J :=
 ⟨fun hY ζ ρ st s P E x xs hκ ok rel r q k=>h.start hY ζ ρ st s P E x xs hκ ok rel r (e _ _ q) k,fun hY ζ ρ st s P E x xs I i o hκ ok rel r q=>h.next hY ζ ρ st s P E x xs I i o hκ ok rel r (e _ _ q),h.lot,h.self⟩
theorem Dr{xs:List V}{st:St}:Yh (.tup xs) st=some xs:=by
 unfold Yh Nq;rw [Ym fun _ _ e=>V.tup.inj e];rfl
theorem Mr{v:V}{st:St}(h1 : ∀ xs,v≠ .tup xs)(h2 : ∀ a b c,v≠ .rng a b c):Yh v st=Wv v st:=by
 unfold Yh Nq Dk;rw [Yc h1,Yc (f:=rng3) fun t=>h2 _ _ _];rfl
theorem seq_rng{a b c:Int}{st:St}(h:Builtin.Range.small a b c=true):Yh (.rng a b c) st=some (Kn a b c):=by
 unfold Yh Nq Dk;rw [Yc fun _=>Z7i,un_rng];show Option.or none (Option.or (if _ then _ else _) _)=_;rw [if_pos h];rfl
theorem Src.seq{κ:HM}(v:V):Src C κ v (Yh v) (JSeq v):=by
 cases v with
 |tup xs=>exact Src.tuple.of fun st ys e=>by rw [Dr] at e;rw [<-e];exact Ym fun _ _ e=>V.tup.inj e
 |rng a b c =>
  refine Src.range.of fun st ys e=>?_
  rcases oro e with e|e
  ·exact Z7i (Zi e)
  rcases oro e with e|e
  ·exact e
  rcases oro e with e|e
  ·exact Z7i (Zi e)
  ·obtain⟨n,q,_⟩:=Wz e;exact Z7i q
 |_=>exact Src.list.of fun st ys e=>(Mr (fun _=>Z7i) (fun _ _ _=>Z7i)).symm.trans e
noncomputable def V.stays(B:Nat)(v:V):Bool:=@V.casesOn (fun _=>Bool) v true (fun _=>true) (fun _=>true) (fun _=>true) (fun _=>true) (fun _=>true) (fun _=>true) (fun n=>decide (n<B)) (fun _=>true) (fun _ _ _=>true)
theorem VR.stay{hY ζ ζ':HM}{ρ ρ':RM}{st:St}{h h':Heap}{v:V}{x:Value}(hs:v.stays C.B=true)(b100:100<=C.B)(G:Gr C.B h ζ ρ h' ζ' ρ')(r:VR C.W ζ ρ v x):VR C.W ζ' ρ' v x:=by
 cases v with
 |ref n =>
  replace hs:=of_decide_eq_true hs
  refine(?_:Exists _)
  obtain⟨a,h1,h2⟩:=r
  exact⟨a,G.rl n a hs h1,h2⟩
 |_=>exact VR.lowMono G.zl (fun n a q e=>G.rl n a (Z1a q b100) e) _ _ rfl r
noncomputable def M.forN(items:St->Option (List V))(bind:V->M Unit)(body:M Fl):Nat->Nat->M Fl
 |0,_=>M.fail
 |f+1,i=>fun s=>(items s).bind fun xs=>(xs[i]?).elim (some (.next,s)) fun x=>(do
    bind x
    let fl<-body
    match fl with
    |.next=>M.forN items bind body f (i+1)
    |.cont=>M.forN items bind body f (i+1)
    |.brk=>pure .next
    |.ret v=>pure (.ret v):M Fl) s
noncomputable def M.forS(v:V)(bind:V->M Unit)(body:M Fl):M Fl:=fun s=>(Yh v s).bind fun xs=>M.forN (Yh v) bind body (xs.length+1) 0 s
noncomputable abbrev SimA(C:Cx)(target:PySem.Expr)(bind:V->M Unit):Prop:=Pb C C.T (VR C.W) (fun y=>assign target C.env y) bind (fun _ _ _ _=>True)
theorem SimA.name{x:Str}{i:Nat}{pos:Pos}(h:M4 C x i):SimA C (.Name x pos) (fun v=>Z72 i v):=by
 intro hY ζ ρ st s P E v y ok rel r a st' e k
 exact wpAny_assign_Name (h hY ζ ρ st s P E v y ok rel r a st' e k)
theorem P0{I:Addr}{h h':Heap}(hs:Z5g I h h')(b:Addr)(o:Obj)(hb : ¬ b=I)(e:h.get? b=some o):h'.get? b=some o:=(hs.2 b hb).trans e
inductive ForI(C:Cx)(hY ζ:HM)(ρ:RM)(s:Shared)(v:V)(x:Value)(I:Addr)(bind:V->M Unit)(mb:M Fl)(r:Fl×St)(n:Nat)(s':Shared):Prop
 |mk (ζ2:HM) (ρ2:RM) (st2:St) (h2:Heap) (tk2:Tok) (i:Nat) (o:Obj) (e:s'={s with heap:=h2,toks:=tk2}) (G:Gr C.B s.heap ζ ρ h2 ζ2 ρ2) (rel:Rel C hY ζ2 ρ2 st2 h2) (rv:VR C.W ζ2 ρ2 v x) (ho:h2.get? I=some o) (hj:JSeq v x i o) (off:Off C hY ζ2 ρ2 I) (e1:M.forN (Yh v) bind mb n i st2=some r)
theorem J5{target iter:PySem.Expr}{body:List Stmt}{pos:Pos}{mi:M V}{bind:V->M Unit}{mb:M Fl}(hi:Yb C (eval iter C.env) mi)(ha:SimA C target bind)(hb:Qi C (execs body C.env) mb)
  (hs : ∀ x,foldedSetIterable iter C.env x=pure x:=by intro _;rfl) :
  Qi C (exec (.For target iter body [] pos) C.env) (do let v<-mi;M.guard (v.stays C.B);M.forS v bind mb):=by
 intro hY ζ ρ st s P E ok rel a st' e k
 refine byC fun hG=>?_
 obtain⟨v,s1,e1,e⟩:=Z6z e
 obtain⟨_,s2,e2,e3⟩:=Z6z e
 obtain⟨hst,hs2⟩:=Z70 e2
 injection hs2
 refine hG ?_
 clear hG
 obtain⟨xs0,hx0,e3⟩:=ob e3
 refine wpAny_For (hi hY ζ ρ st s _ E ok rel v s1 e1 fun ζ1 ρ1 h1 tk1 x G1 rel1 r1=>?_) hs
 refine(Src.seq v).start hY ζ1 ρ1 s1 _ _ _ x xs0 (A6 _) ok rel1 r1 hx0 fun o0 hj0 hf0=>?_
 have hget0:(h1.push o0).get? h1.objs.size=some o0:=Z5i h1 hf0
 have off0:=rel1.offNew (Yo h1)
 refine codeAny_forLoop_any (ForI C hY ζ ρ s v x h1.objs.size bind mb (a,st')) (fun n s' hI=>?_) (xs0.length+1) ⟨ζ1,ρ1,s1,h1.push o0,tk1,0,o0,rfl,(G1.weak ok.bt).trans (Gr.push _ _),rel1.push o0,r1,hget0,hj0,off0,e3⟩
 refine byC fun hG=>?_
 obtain⟨ζ2,ρ2,st2,h2,tk2,i,o,rfl,G2,rel2,r2,ho,hj,off,e4⟩:=hI
 refine hG ?_
 clear hG
 cases n with
 |zero=>injection e4
 |succ n =>
  ·obtain⟨xs,hx,e4⟩:=ob (f:=fun xs=>Z4x (xs[i]?) _ _) e4
   refine(Src.seq v).next hY ζ2 ρ2 st2 _ _ _ x xs h1.objs.size i o (A6 _) ok rel2 r2 hx ho hj off (fun u y h3 o3 tk3 hu hr hs3 ho3 hj3=>?_) (fun hn h3 hs3=>?_)
   ·rw [hu] at e4
    dsimp only [Z4y] at e4
    refine(Src.seq (κ:=k0) v).lot target _ _ _ x h1.objs.size (i+1) o3 y ho3 hj3 ?_
    have rel3:Rel C hY ζ2 ρ2 st2 h3:=rel2.off (· =h1.objs.size) (fun b o hb e=>P0 hs3 b o hb e) (fun b q=>q▸⟨off.z,off.k,off.r⟩) off.p
    have G3:Gr C.B s.heap ζ ρ h3 ζ2 ρ2:=G2.trans (Gr.heap fun b q=>by
     by_cases q':b=h1.objs.size
     ·subst q';rw [ho3];exact Z53 _
     ·rw [hs3.2 b q'];exact q)
    have rel4:=rel3.addK ho3 ⟨off.z,off.k,off.r⟩ off.p
    refine byC fun hG=>?_
    obtain⟨_,s5,e5,e6⟩:=Z6z e4
    obtain⟨fl,s6,e7,e8⟩:=Z6z e6
    refine hG ?_
    clear hG
    refine ha _ ζ2 ρ2 st2 _ _ _ u y ok rel4 hr () s5 e5 fun ζ5 ρ5 h5 tk5 _ G5 rel5 _=>?_
    refine hb _ ζ5 ρ5 s5 _ _ _ ok rel5 fl s6 e7 fun ζ6 ρ6 h6 tk6 b6 G6 rel6 r6=>?_
    have G56:Gr C.B h3 ζ2 ρ2 h6 ζ6 ρ6:=(G5.weak ok.bt).trans G6
    have G6':=G3.trans G56
    have rel6':Rel C hY ζ6 ρ6 s6 h6:=rel6.dropK (Wh off.k) rel.good
    have ho6:h6.get? h1.objs.size=some o3:=rel6.kept _ _ (Z4 _ _ _)
    have off6:Off C hY ζ6 ρ6 h1.objs.size:=Off.gr off G56 (by rw [ho3];exact Z53 _)
    have r6':VR C.W ζ6 ρ6 v x:=VR.stay (hY:=hY) (st:=s6) hst ok.b100 G56 r2
    cases fl with
    |next=>injection r6;exact⟨n,Z1g n,ζ6,ρ6,s6,h6,tk6,i+1,o3,rfl,G6',rel6',r6',ho6,hj3,off6,e8⟩
    |cont=>injection r6;exact⟨n,Z1g n,ζ6,ρ6,s6,h6,tk6,i+1,o3,rfl,G6',rel6',r6',ho6,hj3,off6,e8⟩
    |brk=>injection r6;injection e8;exact k ζ6 ρ6 h6 tk6 _ G6' rel6' rfl
    |ret w=>obtain⟨z,rfl,hz⟩:=r6;injection e8;exact k ζ6 ρ6 h6 tk6 _ G6' rel6' ⟨z,rfl,hz⟩
   ·rw [hn] at e4
    injection e4
    have rel3:Rel C hY ζ2 ρ2 st' h3:=rel2.off (· =h1.objs.size) (fun b o hb e=>hs3 b o hb e) (fun b q=>q▸⟨off.z,off.k,off.r⟩) off.p
    have G3:Gr C.B s.heap ζ ρ h3 ζ2 ρ2:=⟨G2.zl,G2.rl,G2.zn,G2.rn,fun b q=>by
     have q1:b≠h1.objs.size:=fun q'=>G1.dm b q (q'▸Yo h1)
     cases q2:h2.get? b with
     |none=>exact absurd q2 (G2.dm b q)
     |some o'=>rw [hs3 b o' q1 q2];exact Z53 _⟩
    exact wpAny_execs_nil (k ζ2 ρ2 h3 tk2 _ G3 rel3 rfl)
end Lay
namespace Lay
variable{C:Cx}
noncomputable def M.delL(i:Nat):M Unit:=fun s=>some ((),{s with loc:=upd s.loc i none})
noncomputable def M.compN(items:St->Option (List V))(bind:V->M Unit)(test:M Bool)(elt:M V):Nat->Nat->List V->M (List V)
 |0,_,_=>M.fail
 |f+1,i,acc=>fun s=>(items s).bind fun xs=>(xs[i]?).elim (some (acc,s)) fun x=>(do
    bind x
    let b<-test
    if b then do
     let y<-elt
     M.guard (y.low&&decide (acc.length<lim))
     M.compN items bind test elt f (i+1) (acc ++ [y])
    else M.compN items bind test elt f (i+1) acc:M (List V)) s
noncomputable def M.comp(c:Option Nat)(v:V)(j:Nat)(test:M Bool)(elt:M V):M V:=do
 let acc<-(fun s=>(Yh v s).bind fun xs=>M.compN (Yh v) (fun u=>Z72 j u) test elt (xs.length+1) 0 [] s:M (List V))
 M.delL j
 Wl c acc
noncomputable def Wa(C:Cx)(scope:Scope)(cl:List (Str×Addr))(x:Str)(j:Nat)(L:Addr):Cx :=
 {C with env:=compEnvC scope cl L C.env,pl:=upd C.pl j (some (.loc L x))}
noncomputable def SimT(C:Cx)(ifs:List PySem.Expr)(m:M Bool):Prop :=
 Sim C C.T (forIn ifs true fun c r=>if r=true then do let ok<-isTrue c C.env (eval c C.env);pure (ForInStep.yield ok) else pure (ForInStep.yield r)) m (fun _ _ a b=>a=b)
theorem SimT.nil:SimT C [] (pure true):=by
 intro hY ζ ρ st s P E ok rel a st' e k
 injection e
 exact wpAny_tests_nil (k ζ ρ s.heap s.toks _ (Gr.refl _ _ _ _) rel rfl)
theorem SimT.one{c:PySem.Expr}{m:M Bool}(h:P9 C (isTrue c C.env (eval c C.env)) m):SimT C [c] m:=by
 intro hY ζ ρ st s P E ok rel a st' e k
 exact wpAny_tests_one (h hY ζ ρ st s P E ok rel a st' e k)
theorem Rel.adoptZ{hY ζ:HM}{ρ:RM}{st:St}{h:Heap}(R:Rel C hY ζ ρ st h){D:Addr}{o:Obj}(ho:h.get? D=some o)(off:Off C hY ζ ρ D)(hsys:D≠sysModules) :
  Rel C hY (upd ζ D (some o)) ρ st h:=by
 have le:Le ζ (upd ζ D (some o)):=Wh off.z
 refine⟨⟨R.ok,R.kept,fun a o' e=>?_,fun _ _ _=>trivial,fun n O e=>?_,R.dom,R.inj,fun n a e=>?_,R.offk,R.good,R.sysr,?_⟩,R.fresh,R.mid,fun i v e=>?_,R.plok,fun i pl e=>⟨?_,(R.ploff i pl e).2⟩,R.plinj⟩
 ·by_cases q:a=D
  ·subst q;rw [Z4] at e;injection e;exact ho
  ·rw [Z5 _ _ q] at e;exact R.frozen a o' e
 ·obtain⟨a,o',h1,h2,h3⟩:=R.slot n O e
  exact⟨a,o',h1,h2,h3.mono le fun _ _ _ e=>e⟩
 ·have:a≠D:=fun q=>off.r n (q▸e)
  rw [Z5 _ _ this];exact R.offz n a e
 ·rw [Z5 _ _ (Ne.symm hsys)];exact R.sysz
 ·obtain⟨pl,x,h1,h2,h3⟩:=R.var i v e
  exact⟨pl,x,h1,h2,h3.mono le (Le.refl _)⟩
 ·rw [Z5 _ _ (off.p i pl e)];exact(R.ploff i pl e).1
theorem Rel.adoptS{hY ζ:HM}{ρ:RM}{st:St}{h:Heap}(R:Rel C hY ζ ρ st h){D:Addr}{o:Obj}(ho:h.get? D=some o)(off:Off C hY ζ ρ D)(hsys:D≠sysModules)(n:Nat)(hn:st.hp n=none)(hT:n<C.T)(hB:n<100\/C.B<=n)(O:O)
  (hO:OR C.W ζ (upd ρ n (some D)) O o):Rel C hY ζ (upd ρ n (some D)) {st with hp:=upd st.hp n (some O)} h:=by
 have le:Le ρ (upd ρ n (some D)):=Wh (R.dom n hn)
 refine⟨⟨R.ok,R.kept,R.frozen,R.fcls,fun m O' e=>?_,fun m e=>?_,fun m m' a e e'=>?_,fun m a e=>?_,fun m a e=>?_,R.good,fun m e=>?_,R.sysz⟩,fun m hm=>?_,fun m h1 h2 h3=>?_,fun i v e=>?_,R.plok,fun i pl e=>⟨(R.ploff i pl e).1,(R.ploff i pl e).2.1,fun m q=>?_⟩,R.plinj⟩
 ·by_cases q:m=n
  ·subst q;simp only [Z4] at e;injection e
   exact⟨_,o,Z4 _ _ _,ho,hO⟩
  ·simp only [Z5 _ _ q] at e
   refine byC fun hG=>?_
   obtain⟨a,o',h1,h2,h3⟩:=R.slot m O' e
   refine hG ?_
   clear hG
   exact⟨a,o',le _ _ h1,h2,h3.mono (Le.refl _) le.low⟩
 ·by_cases q:m=n
  ·subst q;simp only [Z4] at e;injection e
  ·simp only [Z5 _ _ q] at e;rw [Z5 _ _ q];exact R.dom m e
 ·by_cases q:m=n
  ·by_cases q':m'=n
   ·rw [q,q']
   ·rw [q,Z4] at e;injection e;rw [Z5 _ _ q'] at e';exact absurd e' (off.r m')
  ·by_cases q':m'=n
   ·rw [q',Z4] at e';injection e';rw [Z5 _ _ q] at e;exact absurd e (off.r m)
   ·rw [Z5 _ _ q] at e;rw [Z5 _ _ q'] at e';exact R.inj m m' a e e'
 ·by_cases q:m=n
  ·subst q;rw [Z4] at e;injection e;exact off.z
  ·rw [Z5 _ _ q] at e;exact R.offz m a e
 ·by_cases q:m=n
  ·subst q;rw [Z4] at e;injection e;exact off.k
  ·rw [Z5 _ _ q] at e;exact R.offk m a e
 ·by_cases q:m=n
  ·subst q;rw [Z4] at e;exact hsys (Z54 e)
  ·rw [Z5 _ _ q] at e;exact R.sysr m e
 ·have:m≠n:=by intro q;subst q;exact absurd hT (Nat.not_lt.mpr hm)
  show upd st.hp n (some O) m=none
  rw [Z5 _ _ this];exact R.fresh m hm
 ·have:m≠n:=by intro q;subst q;exact ar0 h1 h2 hB
  exact R.mid m h1 h2 (fun q=>h3 (by show upd st.hp n (some O) m=none;rw [Z5 _ _ this];exact q))
 ·obtain⟨pl,x,h1,h2,h3⟩:=R.var i v e
  exact⟨pl,x,h1,h2,h3.mono (Le.refl _) le⟩
 ·by_cases q':m=n
  ·subst q';rw [Z4] at q;exact off.p i pl e (Z54 q).symm
  ·rw [Z5 _ _ q'] at q;exact(R.ploff i pl e).2.2 m q
theorem Rel.not_sys{hY ζ:HM}{ρ:RM}{st:St}{h:Heap}(R:Rel C hY ζ ρ st h){D:Addr}(hD:h.objs.size<=D):D≠sysModules:=by
 have:mainGlobals<h.objs.size:=R.ok.2.g.lt
 have h1:sysModules<mainGlobals:=by decide
 exact(Z1o (Z1a (Z1h h1 this) hD)).symm
theorem Bl{hY ζ:HM}{ρ:RM}{st st':St}{h hs:Heap}{c:Option Nat}{vs:List V}{ys:List Value}{D:Addr}{o:Obj}{v:V}(rel:Rel C hY ζ ρ st h)(hc:Vd C c)(e:Wl c vs st=some (v,st'))(r:VRs C.W ζ ρ vs ys)
  (ho:h.get? D=some o) (hl:LstIs o ys.toArray) (off:Off C hY ζ ρ D) (hsys:D≠sysModules) (hnew:hs.get? D=none) (dm : ∀ a,hs.get? a≠none->h.get? a≠none) :
  ∃ ζ' ρ',Gr C.T hs ζ ρ h ζ' ρ'/\Rel C hY ζ' ρ' st' h/\VR C.W ζ' ρ' v (.ref D)/\(∀ a,a≠D->ζ' a=ζ a)/\(∀ n a,a≠D->ρ' n=some a->ρ n=some a):=by
 refine byC fun hG=>?_
 obtain⟨_,s2,e3,e4⟩:=Z6z e
 obtain⟨hg,hs'⟩:=Z70 e3
 injection hs'
 refine hG ?_
 clear hG
 simp only [Z5q,decide_eq_true_eq] at hg
 cases c with
 |none =>
  injection e4
  have le:Le ζ (upd ζ D (some o)):=Wh off.z
  refine⟨_,ρ,⟨le,fun _ _ _ q=>q,fun a o' q=>?_,fun _ _ q=>.inl q,dm⟩,rel.adoptZ ho off hsys,?_,fun a q=>Z5 _ _ q,fun _ _ _ q=>q⟩
  ·by_cases q':a=D
   ·subst q';exact .inr (.inl hnew)
   ·rw [Z5 _ _ q'] at q;exact .inl q
  ·refine(?_:Exists _)
   exact⟨_,o,_,rfl,Z4 _ _ _,hl,by simpa using VRs.mono le (fun _ _ _ q=>q) _ _ r⟩
 |some n =>
  obtain⟨hn,h2⟩:=M.new_some e4
  injection h2
  have le:Le ρ (upd ρ n (some D)):=Wh (rel.dom n hn)
  refine⟨ζ,_,⟨Le.refl _,fun m a _ q=>le m a q,fun _ _ q=>.inl q,fun m a q=>?_,dm⟩,rel.adoptS ho off hsys n hn hc.1 hc.2 (.list vs) ⟨_,hl,by simpa using VRs.mono (Le.refl _) le.low _ _ r⟩,?_,fun _ _=>rfl,fun m a q q'=>?_⟩
  ·by_cases q':m=n
   ·subst q';rw [Z4] at q;injection q;exact .inr (.inl hnew)
   ·rw [Z5 _ _ q'] at q;exact .inl q
  ·refine(?_:Exists _)
   exact⟨_,Z4 _ _ _,rfl⟩
  ·by_cases w:m=n
   ·subst w;rw [Z4] at q';exact absurd (Z54 q').symm q
   ·rw [Z5 _ _ w] at q';exact q'
theorem Km{hY ζ:HM}{ρ:RM}{st st':St}{h hs:Heap}{c:Option Nat}{vs:List V}{ys:List Value}{D:Addr}{o:Obj}{v:V}(rel:Rel C hY ζ ρ st h)(hc:Vd C c)(e:Wl c vs st=some (v,st'))(r:VRs C.W ζ ρ vs ys)
  (ho:h.get? D=some o) (hl:LstIs o ys.toArray) (off:Off C hY ζ ρ D) (hsys:D≠sysModules) (hnew:hs.get? D=none) (dm : ∀ a,hs.get? a≠none->h.get? a≠none) :
  ∃ ζ' ρ',Gr C.T hs ζ ρ h ζ' ρ'/\Rel C hY ζ' ρ' st' h/\VR C.W ζ' ρ' v (.ref D):=by
 refine byC fun hG=>?_
 obtain⟨ζ',ρ',h1,h2,h3,_⟩:=Bl rel hc e r ho hl off hsys hnew dm
 refine hG ?_
 clear hG
 exact⟨ζ',ρ',h1,h2,h3⟩
theorem Rel.swapL{hY ζ:HM}{ρ:RM}{st:St}{h h':Heap}{D:Addr}(R:Rel C hY ζ ρ st h)(off:Off C hY ζ ρ D)(hs:Z5g D h h'):Rel C hY ζ ρ st h' :=
 R.off (· =D) (fun b o hb q=>(hs.2 b hb).trans q) (fun b q=>q▸⟨off.z,off.k,off.r⟩) off.p
structure CompEnd(C:Cx)(hY ζ₁:HM)(ρ₁:RM)(h₁:Heap)(j:Nat)(acc:List V)(s3:St)(ζ2:HM)(ρ2:RM)(g:Heap)(D L:Addr)(ys:Array Value)(nD:Nat):Prop where
 rel:Rel C hY ζ2 ρ2 {s3 with loc:=upd s3.loc j none} g
 gr:Gr C.T h₁ ζ₁ ρ₁ g ζ2 ρ2
 offL:Off C hY ζ2 ρ2 L
 offD:Off C hY ζ2 ρ2 D
 ne:D≠L
 d:g.get? D=some {cls:=.type "list",data:=.seq ys nD}
 new:h₁.get? D=none
 newL:h₁.get? L=none
 sys:D≠sysModules
 vals:VRs C.W ζ2 ρ2 acc ys.toList
 ns : ∃ m,g.Ns L m
theorem Rel.compIn{scope:Scope}{cl:List (Str×Addr)}{x:Str}{j:Nat}{L:Addr}{hY ζ:HM}{ρ:RM}{st:St}{h:Heap}(rel4:Rel C hY ζ ρ st h)(hj:C.pl j=none)(offL:Off C hY ζ ρ L)(hns : ∃ m,h.Ns L m):Rel (Wa C scope cl x j L) hY ζ ρ st h:=by
 refine⟨rel4.toSRel,rel4.fresh,rel4.mid,fun i u q=>?_,fun i pl q=>?_,fun i pl q=>?_,fun i i' pl q q'=>?_⟩
 ·obtain⟨pl,y,a1,a2,a3⟩:=rel4.var i u q
  refine⟨pl,y,?_,a2,a3⟩
  show upd C.pl j _ i=_
  rw [Z5 _ _ (fun w=>by rw [w,hj] at a1;injection a1)];exact a1
 ·by_cases w:i=j
  ·subst w
   have:upd C.pl i (some (.loc L x)) i=some pl:=q
   rw [Z4] at this;injection this;exact hns
  ·have:upd C.pl j (some (.loc L x)) i=some pl:=q
   rw [Z5 _ _ w] at this;exact rel4.plok i pl this
 ·by_cases w:i=j
  ·subst w
   have:upd C.pl i (some (.loc L x)) i=some pl:=q
   rw [Z4] at this;injection this;exact⟨offL.z,offL.k,offL.r⟩
  ·have:upd C.pl j (some (.loc L x)) i=some pl:=q
   rw [Z5 _ _ w] at this;exact rel4.ploff i pl this
 ·have q1:upd C.pl j (some (.loc L x)) i=some pl:=q
  have q2:upd C.pl j (some (.loc L x)) i'=some pl:=q'
  by_cases w:i=j
  ·by_cases w':i'=j
   ·rw [w,w']
   ·rw [w,Z4] at q1;injection q1
    rw [Z5 _ _ w'] at q2;exact absurd rfl (offL.p i' _ q2)
  ·by_cases w':i'=j
   ·rw [w',Z4] at q2;injection q2
    rw [Z5 _ _ w] at q1;exact absurd rfl (offL.p i _ q1)
   ·rw [Z5 _ _ w] at q1;rw [Z5 _ _ w'] at q2;exact rel4.plinj i i' pl q1 q2
theorem Off.compIn{scope:Scope}{cl:List (Str×Addr)}{x:Str}{j:Nat}{L I:Addr}{hY ζ:HM}{ρ:RM}(off:Off C hY ζ ρ I)(hIL:I≠L):Off (Wa C scope cl x j L) hY ζ ρ I:=⟨off.z,off.k,off.r,fun i pl q=>by
 have q:upd C.pl j (some (.loc L x)) i=some pl:=q
 by_cases w:i=j
 ·subst w
  rw [Z4] at q;injection q;exact fun w=>hIL w.symm
 ·rw [Z5 _ _ w] at q;exact off.p i pl q⟩
theorem Off.compOut{scope:Scope}{cl:List (Str×Addr)}{x:Str}{j:Nat}{L I:Addr}{hY ζ:HM}{ρ:RM}(off:Off (Wa C scope cl x j L) hY ζ ρ I)(hj:C.pl j=none):Off C hY ζ ρ I:=⟨off.z,off.k,off.r,fun i pl q=>off.p i pl (by
 show upd C.pl j _ i=_
 rw [Z5 _ _ (fun w=>by rw [w,hj] at q;injection q)];exact q)⟩
theorem Rel.compOut{scope:Scope}{cl:List (Str×Addr)}{x:Str}{j:Nat}{L:Addr}{hY ζ:HM}{ρ:RM}{s3:St}{g:Heap}(rel6:Rel (Wa C scope cl x j L) hY ζ ρ s3 g)(hj:C.pl j=none)(inj : ∀ i i' pl,C.pl i=some pl->C.pl i'=some pl->i=i'):Rel C hY ζ ρ {s3 with loc:=upd s3.loc j none} g:=by
 have a1 : ∀ i pl,C.pl i=some pl->(Wa C scope cl x j L).pl i=some pl:=fun i pl q=>by
  show upd C.pl j _ i=_
  rw [Z5 _ _ (fun w=>by rw [w,hj] at q;injection q)];exact q
 refine⟨rel6.toSRel,rel6.fresh,rel6.mid,fun i u q=>?_,fun i pl q=>rel6.plok i pl (a1 i pl q),fun i pl q=>rel6.ploff i pl (a1 i pl q),inj⟩
 by_cases w:i=j
 ·subst w;simp only [Z4] at q;injection q
 ·simp only [Z5 _ _ w] at q
  refine byC fun hG=>?_
  obtain⟨pl,y,b1,b2,b3⟩:=rel6.var i u q
  refine hG ?_
  clear hG
  have b1:upd C.pl j (some (.loc L x)) i=some pl:=b1
  rw [Z5 _ _ w] at b1
  exact⟨pl,y,b1,b2,b3⟩
inductive CompI(C CC:Cx)(hY ζ1:HM)(ρ1:RM)(h4:Heap)(s:Shared)(v:V)(items:St->Option (List V))(J:Value->Nat->Obj->Prop)(xv:Value)(I D:Addr)(j:Nat)(mt:M Bool)(me:M V)(r:List V×St)(n:Nat)(s':Shared):Prop
 |mk (ζ2:HM) (ρ2:RM) (st2:St) (g2:Heap) (tk2:Tok) (i:Nat) (ac:List V) (ys:Array Value) (o:Obj) (e:s'={s with heap:=g2,toks:=tk2}) (G:Gr C.T h4 ζ1 ρ1 g2 ζ2 ρ2) (rel:Rel CC hY ζ2 ρ2 st2 g2) (rv:VR C.W ζ2 ρ2 v xv) (ho:g2.get? I=some o) (hj:J xv i o)
  (oI:Off CC hY ζ2 ρ2 I) (oD:Off CC hY ζ2 ρ2 D) (pl:g2.PlainList D ys) (hac:VRs C.W ζ2 ρ2 ac ys.toList) (e1:M.compN items (fun u=>Z72 j u) mt me n i ac st2=some r)
theorem B6{use:Option (Value->Sem Unit)}{elt iter:PySem.Expr}{x:Str}{px:Pos}{ifs:List PySem.Expr}{scope:Scope}{pos pos':Pos}{cl:List (Str×Addr)}{j:Nat}{mi:M V}{mt:M Bool}{me:M V}
  (hi:Yb C (eval iter C.env) mi) (hj:C.pl j=none) (hclos:closureFor scope C.env=pure cl)
  (ht : ∀ L,SimT (Wa C scope cl x j L) ifs mt) (he : ∀ L,Yb (Wa C scope cl x j L) (eval elt (compEnvC scope cl L C.env)) me)
  (hkind:scope.kind = .function) (hx:scope.names.lookup x=some .local)
  (hnames:(scope.names.all fun y=>y.2 != .cell&&(y.2 != .local||scope.names.lookup y.1==some .local))=true)
  (hs : ∀ x,foldedSetIterable iter C.env x=pure x) {hY ζ:HM} {ρ:RM} {st:St} {s:Shared} {P:Value->Shared->Prop} {E:Value->Shared->Prop} (ok:C.Ok) (rel:Rel C hY ζ ρ st s.heap) {v:V} {s1 s3:St} {acc xs0:List V} {κ:HM} {items:St->Option (List V)} {J:Value->Nat->Obj->Prop} (hκ:Le κ hY) (src : ∀ C':Cx,C'.W=C.W->Src C' κ v items J)
  (e1:mi st=some (v,s1)) (hx0:items s1=some xs0) (e4:M.compN items (fun u=>Z72 j u) mt me (xs0.length+1) 0 [] s1=some (acc,s3))
  (hend : ∀ ζ1 ρ1 h1 ζ2 ρ2 g tk D L ys nD f,Gr C.T s.heap ζ ρ h1 ζ1 ρ1->CompEnd C hY ζ1 ρ1 h1 j acc s3 ζ2 ρ2 g D L ys nD->compPost (model C.W.prog C.W.w) C.A E use P (.ref D) L (.ok f) {s with heap:=g,toks:=tk}) :
  wpAny (model C.W.prog C.W.w) C.A (comprehension (.ListComp elt [⟨.Name x px,iter,ifs,0⟩] scope pos) scope C.env pos' (newList []) false (eval iter C.env) use) P E s:=by
 have hcell : ∀ y∈scope.names,y.2≠ .cell:=fun y hy q=>by
  have:=Z27.mp hnames y hy
  rw [q] at this;simp at this
 have hloc : ∀ y∈scope.names,y.2 = .local->scope.names.lookup y.1=some .local:=fun y hy q=>by
  have:=Z27.mp hnames y hy
  rw [q] at this;simpa using this
 refine wpAny_comprehension_free (use:=use) (g:=⟨.Name x px,iter,ifs,0⟩) (gs := []) rfl hs hclos hkind hloc ?_
 refine hi hY ζ ρ st s _ E ok rel v s1 e1 fun ζ1 ρ1 h1 tk1 xv G1 rel1 r1=>?_
 refine(src C rfl).start hY ζ1 ρ1 s1 _ _ _ xv xs0 hκ ok rel1 r1 hx0 fun o0 hj0 hf0=>?_
 have hI0:(h1.push o0).get? h1.objs.size=some o0:=Z5i h1 hf0
 have offI:=rel1.offNew (Yo h1)
 have sysI:=rel1.not_sys (Z12 _)
 have rel2:=rel1.push o0
 generalize hI:h1.objs.size=I at *
 generalize hH2:h1.push o0=h2 at *
 have hIlt:I<h2.objs.size:=Z5j hI0
 refine wpAny_newObj_type ?_
 dsimp only
 have hD0:(h2.push {cls:=.type "list",data:=.seq ([]:List Value).toArray}).get? h2.objs.size=some {cls:=.type "list",data:=.seq ([]:List Value).toArray}:=Z5i h2 rfl
 have offD:=rel2.offNew (Yo h2)
 have sysD:=rel2.not_sys (Z12 _)
 have hDnone:h2.get? h2.objs.size=none:=Yo h2
 have rel3:=rel2.push {cls:=.type "list",data:=.seq ([]:List Value).toArray}
 have keep3:=Yd h2 {cls:=.type "list",data:=.seq ([]:List Value).toArray}
 generalize hD:h2.objs.size=D at *
 generalize hH3:h2.push {cls:=.type "list",data:=.seq ([]:List Value).toArray}=h3 at *
 have hDlt:D<h3.objs.size:=Z5j hD0
 have hI3:h3.get? I=some o0:=keep3 _ _ hI0
 have hID:I≠D:=Z1o hIlt
 refine wpAny_newFunctionEnv hcell (by intro y hy;simp at hy) (fun h4 hns hsb=>?_) hkind
 dsimp only at hns hsb ⊢
 have offL:=rel3.offNew (Yo h3)
 have keep4 : ∀ b o,h3.get? b=some o->h4.get? b=some o:=fun b o q=>hsb.extBut b o (Z1o (Z5j q)) (Z5h _ q)
 have rel4:Rel C hY ζ1 ρ1 s1 h4:=rel3.off (fun _=>False) (fun b o _ q=>keep4 b o q) (fun _ q=>q.elim) (fun _ _ _ q=>q)
 have hI4:=keep4 _ _ hI3
 have hD4:=keep4 _ _ hD0
 have hIL:I≠h3.objs.size:=Z1o (Z5j hI3)
 have hDL:D≠h3.objs.size:=Z1o hDlt
 generalize hLq:h3.objs.size=L at *
 have hcx : ∀ (env':Env),True:=fun _=>trivial
 have okC:(Wa C scope cl x j L).Ok:=⟨ok.room,hkind,ok.glob,ok.bins,ok.bt,ok.b100⟩
 have relC:Rel (Wa C scope cl x j L) hY ζ1 ρ1 s1 h4:=rel4.compIn hj offL ⟨_,hns⟩
 have offIC:Off (Wa C scope cl x j L) hY ζ1 ρ1 I:=offI.compIn hIL
 have offDC:Off (Wa C scope cl x j L) hY ζ1 ρ1 D:=offD.compIn hDL
 have hnone : ∀ b,h1.get? b≠none->b≠I/\b≠D/\b≠L:=by
  intro b q
  have l1:b<h1.objs.size:=by
   cases w:h1.get? b with
   |none=>exact absurd w q
   |some o=>exact Z5j w
  have l2:b<I:=hI▸l1
  have l3:b<D:=Z1h l2 hIlt
  exact⟨Z1o l2,Z1o l3,Z1o (Z1h l3 hDlt)⟩
 have dm4 : ∀ b,h1.get? b≠none->h4.get? b≠none:=by
  intro b q
  cases w:h1.get? b with
  |none=>exact absurd w q
  |some o =>
   have:h2.get? b=some o:=by rw [<-hH2];exact Yd _ _ _ _ w
   rw [keep4 _ _ (keep3 _ _ this)];exact Z53 _
 have main : ∀ s':Shared,s'={s with heap:=h4,toks:=tk1+([]:List (Str×Value)).length}->
   codeAny (model C.W.prog C.W.w) C.A (.compLoop (.ListComp elt [⟨.Name x px,iter,ifs,0⟩] scope pos) 0 (.ref I) (.ref D) (compEnvC scope cl L C.env)) (compPost (model C.W.prog C.W.w) C.A E use P (.ref D) L) s':=by
  rintro s' rfl
  refine codeAny_compLoop_tests (CompI C (Wa C scope cl x j L) hY ζ1 ρ1 h4 s v items J xv I D j mt me (acc,s3)) (fun n s' hInv=>?_) (xs0.length+1)
   ⟨ζ1,ρ1,s1,h4,_,0,[],#[],o0,rfl,Gr.refl _ _ _ _,relC,r1,hI4,hj0,offIC,offDC,⟨0,hD4⟩,rfl,e4⟩
  refine byC fun hG=>?_
  obtain⟨ζ2,ρ2,st2,g2,tk2,i,ac,ys,o,rfl,G2,rel5,r5,ho,hjj,oI,oD,⟨nD,hD5⟩,hac,e8⟩:=hInv
  refine hG ?_
  clear hG
  cases n with
  |zero=>injection e8
  |succ n =>
   ·obtain⟨xs,hxs,e8⟩:=ob (f:=fun xs=>Z4x (xs[i]?) _ _) e8
    refine(src (Wa C scope cl x j L) rfl).next hY ζ2 ρ2 st2 _ _ _ xv xs I i o hκ okC rel5 r5 hxs ho hjj oI (fun u y g3 o3 tk3 hu hr hs3 ho3 hj3=>?_) (fun hn g3 hs3=>?_)
    ·rw [hu] at e8
     dsimp only [Z4y] at e8
     refine byC fun hG=>?_
     obtain⟨_,s5,e9,e10⟩:=Z6z e8
     obtain⟨b,s6,e11,e12⟩:=Z6z e10
     refine hG ?_
     clear hG
     have rel6:Rel (Wa C scope cl x j L) hY ζ2 ρ2 st2 g3:=rel5.off (· =I) (fun b o hb q=>P0 hs3 b o hb q) (fun b q=>q▸⟨oI.z,oI.k,oI.r⟩) oI.p
     have hD6:g3.get? D=some {cls:=.type "list",data:=.seq ys nD}:=(hs3.2 D (Ne.symm hID)).trans hD5
     have G3:Gr C.T h4 ζ1 ρ1 g3 ζ2 ρ2:=G2.trans (Gr.heap fun b q=>by
      by_cases q':b=I
      ·subst q';rw [ho3];exact Z53 _
      ·rw [hs3.2 b q'];exact q)
     have relK:=(rel6.addK ho3 ⟨oI.z,oI.k,oI.r⟩ oI.p).addK hD6 ⟨oD.z,by rw [Z5 _ _ (Ne.symm hID)];exact oD.k,oD.r⟩ oD.p
     have leK:Le hY (upd (upd hY I (some o3)) D (some {cls:=.type "list",data:=.seq ys nD})):=(Wh oI.k).trans (Wh (by rw [Z5 _ _ (Ne.symm hID)];exact oD.k))
     have hpl:(Wa C scope cl x j L).pl j=some (.loc (Wa C scope cl x j L).env.locals x):=Z4 _ _ _
     have hkd:(Wa C scope cl x j L).env.kindOf x=some .local:=lookup_relabel_local hx
     refine wpAny_assign_Name (Kv hkd hpl _ ζ2 ρ2 st2 _ _ _ u y okC relK hr () s5 e9 fun ζ5 ρ5 g5 tk5 _ G5 rel7 _=>?_)
     refine ht L _ ζ5 ρ5 s5 _ _ _ okC rel7 b s6 e11 fun ζ6 ρ6 g6 tk6 b' G6 rel8 rb=>?_
     injection rb
     have G56:Gr C.T g3 ζ2 ρ2 g6 ζ6 ρ6:=G5.trans G6
     cases b with
     |false =>
      rw [if_neg Z5t] at e12 ⊢
      have hI6:g6.get? I=some o3:=rel8.kept _ _ (by rw [Z5 _ _ hID];exact Z4 _ _ _)
      have hD7:g6.get? D=some {cls:=.type "list",data:=.seq ys nD}:=rel8.kept _ _ (Z4 _ _ _)
      exact⟨n,Z1g n,ζ6,ρ6,s6,g6,tk6,i+1,ac,ys,o3,rfl,G3.trans G56,rel8.dropK leK rel.good,VR.gr rel6 G56 r5,hI6,hj3,oI.gr G56 (by rw [ho3];exact Z53 _),oD.gr G56 (by rw [hD6];exact Z53 _),⟨nD,hD7⟩,VRs.mono G56.zl (Gr.le rel6 G56).low _ _ hac,e12⟩
     |true =>
      rw [if_pos rfl] at e12 ⊢
      refine byC fun hG=>?_
      obtain⟨w,s7,e13,e14⟩:=Z6z e12
      obtain⟨_,s8,e15,e16⟩:=Z6z e14
      obtain⟨hg,hs8⟩:=Z70 e15
      injection hs8
      refine hG ?_
      clear hG
      simp only [Z5q,decide_eq_true_eq] at hg
      refine he L _ ζ6 ρ6 s6 _ _ _ okC rel8 w s7 e13 fun ζ7 ρ7 g7 tk7 z G7 rel9 rz=>?_
      have G57:Gr C.T g3 ζ2 ρ2 g7 ζ7 ρ7:=G56.trans G7
      have hI7:g7.get? I=some o3:=rel9.kept _ _ (by rw [Z5 _ _ hID];exact Z4 _ _ _)
      have hD7:g7.get? D=some {cls:=.type "list",data:=.seq ys nD}:=rel9.kept _ _ (Z4 _ _ _)
      have rel9':=rel9.dropK leK rel.good
      have oI7:=oI.gr G57 (by rw [ho3];exact Z53 _)
      have oD7:=oD.gr G57 (by rw [hD6];exact Z53 _)
      have hac7:=VRs.mono G57.zl (Gr.le rel6 G57).low _ _ hac
      have hlen:ys.size=ac.length:=by rw [<-hac.length];simp
      refine wpAny_list_append_plain ⟨nD,hD7⟩ (fun g8 hD8 hs8=>?_) (by rw [hlen];exact J3 (Z0y hg.2))
      have rel10:Rel (Wa C scope cl x j L) hY ζ7 ρ7 s7 g8:=rel9'.off (· =D) (fun b o hb q=>P0 hs8 b o hb q) (fun b q=>q▸⟨oD7.z,oD7.k,oD7.r⟩) oD7.p
      have G8:Gr C.T g3 ζ2 ρ2 g8 ζ7 ρ7:=G57.trans (Gr.heap fun b q=>by
       by_cases q':b=D
       ·subst q';obtain⟨m',hm'⟩:=hD8;rw [hm'];exact Z53 _
       ·rw [hs8.2 b q'];exact q)
      exact⟨n,Z1g n,ζ7,ρ7,s7,g8,tk7,i+1,ac ++ [w],ys.push z,o3,rfl,G3.trans G8,rel10,VR.gr rel6 G57 r5,(hs8.2 I hID).trans hI7,hj3,oI7,oD7,hD8,by simpa using hac7.snoc hg.1 rz,e16⟩
    ·rw [hn] at e8
     injection e8
     have rel6:Rel (Wa C scope cl x j L) hY ζ2 ρ2 s3 g3:=rel5.off (· =I) (fun b o hb q=>hs3 b o hb q) (fun b q=>q▸⟨oI.z,oI.k,oI.r⟩) oI.p
     have hD6:g3.get? D=some {cls:=.type "list",data:=.seq ys nD}:=hs3 D _ (Ne.symm hID) hD5
     obtain⟨mL,hnL⟩:=rel6.plok j (.loc L x) (Z4 _ _ _)
     have hDL':D≠L:=hDL
     have lpl : ∀ i pl,C.pl i=some pl->pl.addr≠L:=fun i pl q=>offL.p i pl q
     have oL:=rel6.ploff j (.loc L x) (Z4 _ _ _)
     have relB:Rel C hY ζ2 ρ2 {s3 with loc:=upd s3.loc j none} g3:=rel6.compOut hj rel.plinj
     have oDB:Off C hY ζ2 ρ2 D:=oD.compOut hj
     have dmB : ∀ b,h1.get? b≠none->g3.get? b≠none:=fun b q=>by
      obtain⟨n1,n2,n3⟩:=hnone b q
      cases w:g2.get? b with
      |none=>exact absurd w (G2.dm b (dm4 b q))
      |some o'=>rw [hs3 b o' n1 w];exact Z53 _
     have hDn:h1.get? D=none:=by
      cases w:h1.get? D with
      |none=>rfl
      |some o=>have:=(hnone D (by rw [w];exact Z53 _)).2.1;exact absurd rfl this
     have hLn:h1.get? L=none:=by
      cases w:h1.get? L with
      |none=>rfl
      |some o=>have:=(hnone L (by rw [w];exact Z53 _)).2.2;exact absurd rfl this
     have G12:Gr C.T h1 ζ1 ρ1 g3 ζ2 ρ2:=by
      have dn : ∀ b,h4.get? b=none->h1.get? b=none:=fun b q=>Z5f fun q'=>dm4 b q' q
      exact⟨G2.zl,G2.rl,fun a o q=>(G2.zn a o q).imp id fun q=>q.imp (dn a) id,fun n a q=>(G2.rn n a q).imp id fun q=>q.imp (dn a) id,dmB⟩
     exact hend ζ1 ρ1 h1 ζ2 ρ2 g3 tk2 D L ys nD _ G1 ⟨relB,G12,⟨oL.1,oL.2.1,oL.2.2,lpl⟩,oDB,hDL',hD6,hDn,hLn,sysD,hac,mL,hnL⟩
 exact codeAny_compStart_list (main _ rfl) ((src C rfl).self _ _ _ xv I 0 o0 hI4 hj0 (main _ rfl))
theorem Vy{elt iter:PySem.Expr}{x:Str}{px:Pos}{ifs:List PySem.Expr}{scope:Scope}{pos:Pos}{cl:List (Str×Addr)}{j:Nat}{mi:M V}{mt:M Bool}{me:M V}(c:Option Nat)(hc:Vd C c)
  (hi:Yb C (eval iter C.env) mi) (hj:C.pl j=none) (hclos:closureFor scope C.env=pure cl)
  (ht : ∀ L,SimT (Wa C scope cl x j L) ifs mt) (he : ∀ L,Yb (Wa C scope cl x j L) (eval elt (compEnvC scope cl L C.env)) me)
  (hkind:scope.kind = .function:=by rfl) (hx:scope.names.lookup x=some .local:=by rfl)
  (hnames:(scope.names.all fun y=>y.2 != .cell&&(y.2 != .local||scope.names.lookup y.1==some .local))=true:=by rfl)
  (hs : ∀ x,foldedSetIterable iter C.env x=pure x:=by intro _;rfl) :
  Yb C (eval (.ListComp elt [⟨.Name x px,iter,ifs,0⟩] scope pos) C.env) (do let v<-mi;M.guard (v.stays C.T);M.comp c v j mt me):=by
 intro hY ζ ρ st s P E ok rel a st' e k
 refine byC fun hG=>?_
 obtain⟨v,s1,e1,e⟩:=Z6z e
 obtain⟨_,s2,e2,e3⟩:=Z6z e
 obtain⟨hst,hs2⟩:=Z70 e2
 injection hs2
 refine hG ?_
 clear hG
 unfold M.comp at e3
 refine byC fun hG=>?_
 obtain⟨acc,s3,e4,e5⟩:=Z6z e3
 obtain⟨_,s4,e6,e7⟩:=Z6z e5
 injection e6
 obtain⟨xs0,hx0,e4⟩:=ob e4
 refine hG ?_
 clear hG
 rw [eval_ListComp]
 refine B6 (use:=none) hi hj hclos ht he hkind hx hnames hs ok rel (A6 _) (fun _ _=>Src.seq v) e1 hx0 e4 fun ζ1 ρ1 h1 ζ2 ρ2 g tk D L ys nD f G1 X=>?_
 obtain⟨m,hm⟩:=X.ns
 refine⟨m,hm,fun g4 hs4=>?_⟩
 have relB:=X.rel.swapL X.offL hs4
 have hD8:=(hs4.2 D X.ne).trans X.d
 have dmB : ∀ b,h1.get? b≠none->g4.get? b≠none:=fun b q=>by
  rw [hs4.2 b (fun q'=>q (by rw [q'];exact X.newL))]
  exact X.gr.dm b q
 refine byC fun hG=>?_
 obtain⟨ζ',ρ',G9,R9,V9⟩:=Km relB hc e7 X.vals hD8 ⟨nD,rfl⟩ X.offD X.sys X.new dmB
 refine hG ?_
 clear hG
 have G19:Gr C.T h1 ζ1 ρ1 g4 ζ' ρ':=⟨X.gr.zl.trans G9.zl,fun n a q1 q2=>G9.rl n a q1 (X.gr.rl n a q1 q2),fun a o q=>(G9.zn a o q).elim (X.gr.zn a o) fun q=>.inr (.inl (q.none relB)),fun n a q=>(G9.rn n a q).elim (X.gr.rn n a) fun q=>.inr (.inl (q.none relB)),dmB⟩
 exact k ζ' ρ' g4 tk _ (G1.trans G19) R9 V9
theorem U8{elt iter:PySem.Expr}{x y:Str}{px py:Pos}{ifs:List PySem.Expr}{scope:Scope}{pos spos:Pos}{cl:List (Str×Addr)}{i j:Nat}{mi:M V}{mt:M Bool}{me:M V}(c:Option Nat)(hc:Vd C c)
  (hi:Yb C (eval iter C.env) mi) (hj:C.pl j=none) (hclos:closureFor scope C.env=pure cl)
  (ht : ∀ L,SimT (Wa C scope cl x j L) ifs mt) (he : ∀ L,Yb (Wa C scope cl x j L) (eval elt (compEnvC scope cl L C.env)) me) (hst:M4 C y i)
  (hsw:swapsWith (.ListComp elt [⟨.Name x px,iter,ifs,0⟩] scope pos) (some (.Name y py)) spos.line C.env=pure true:=by rfl)
  (hkind:scope.kind = .function:=by rfl) (hx:scope.names.lookup x=some .local:=by rfl)
  (hnames:(scope.names.all fun y=>y.2 != .cell&&(y.2 != .local||scope.names.lookup y.1==some .local))=true:=by rfl)
  (hs : ∀ x,foldedSetIterable iter C.env x=pure x:=by intro _;rfl) :
  Qi C (exec (.Assign [.Name y py] (.ListComp elt [⟨.Name x px,iter,ifs,0⟩] scope pos) spos) C.env) (do let v<-(do let v<-mi;M.guard (v.stays C.T);M.comp c v j mt me);Z72 i v;pure .next):=by
 intro hY ζ ρ st s P E ok rel a st' e k
 refine byC fun hG=>?_
 obtain⟨w,s5,e0,e8⟩:=Z6z e
 obtain⟨_,s6,e9,e10⟩:=Z6z e8
 injection e10
 obtain⟨v,s1,e1,e⟩:=Z6z e0
 obtain⟨_,s2,e2,e3⟩:=Z6z e
 obtain⟨hstay,hs2⟩:=Z70 e2
 injection hs2
 refine hG ?_
 clear hG
 unfold M.comp at e3
 refine byC fun hG=>?_
 obtain⟨acc,s3,e4,e5⟩:=Z6z e3
 obtain⟨_,s4,e6,e7⟩:=Z6z e5
 injection e6
 obtain⟨xs0,hx0,e4⟩:=ob e4
 refine hG ?_
 clear hG
 rw [exec_Assign_Name_used _ _ _ _ hsw]
 refine Z5l (wpAny_standAt (Z5l ?_))
 show wpAny _ C.A (do let _<-comprehension (.ListComp elt [⟨.Name x px,iter,ifs,0⟩] scope pos) scope C.env _ (newList []) false (eval iter C.env) (some (assign (.Name y py) C.env))) _ _ s
 refine Z5l (wpAny_mono (B6 (use:=some (assign (.Name y py) C.env)) (P:=fun _ s'=>P .next s') hi hj hclos ht he hkind hx hnames hs ok rel (A6 _) (fun _ _=>Src.seq v) e1 hx0 e4 fun ζ1 ρ1 h1 ζ2 ρ2 g tk D L ys nD f G1 X=>?_) (fun _ s' hq=>Z5p (Z5p hq)) fun _ _ e=>e)
 refine byC fun hG=>?_
 obtain⟨ζ',ρ',G9,R9,V9,Z9,Q9⟩:=Bl X.rel hc e7 X.vals X.d ⟨nD,rfl⟩ X.offD X.sys X.new X.gr.dm
 refine hG ?_
 clear hG
 have G19:Gr C.T h1 ζ1 ρ1 g ζ' ρ':=⟨X.gr.zl.trans G9.zl,fun n a q1 q2=>G9.rl n a q1 (X.gr.rl n a q1 q2),fun a o q=>(G9.zn a o q).elim (X.gr.zn a o) fun q=>.inr (.inl (q.none X.rel)),fun n a q=>(G9.rn n a q).elim (X.gr.rn n a) fun q=>.inr (.inl (q.none X.rel)),X.gr.dm⟩
 refine byC fun hG=>?_
 obtain⟨m,hm⟩:=X.ns
 obtain⟨oL,es,ep,hoL,hL2⟩:=id hm
 refine hG ?_
 clear hG
 have offL':Off C hY ζ' ρ' L:=⟨(Z9 L X.ne.symm).trans X.offL.z,X.offL.k,fun n q=>X.offL.r n (Q9 n L X.ne.symm q),X.offL.p⟩
 have relK:=R9.addK hoL ⟨offL'.z,offL'.k,offL'.r⟩ offL'.p
 show wpAny _ _ (assign (.Name y py) C.env (.ref D)) _ _ _
 refine SimA.name hst _ ζ' ρ' s5 _ _ _ w (.ref D) ok relK V9 () st' e9 fun ζ6 ρ6 h6 tk6 _ G6 rel6 _=>?_
 have hoL6:h6.get? L=some oL:=rel6.kept _ _ (Z4 _ _ _)
 refine⟨m,⟨oL,es,ep,hoL6,hL2⟩,fun h7 hs7=>?_⟩
 have offL6:Off C hY ζ6 ρ6 L:=Off.gr offL' G6 (by rw [hoL];exact Z53 _)
 have rel7:=(rel6.dropK (Wh offL'.k) rel.good).swapL offL6 hs7
 refine k ζ6 ρ6 h7 tk6 _ (Gr.weak ?_ ok.bt) rel7 rfl
 have G16:=G19.trans G6
 exact G1.trans ⟨G16.zl,G16.rl,G16.zn,G16.rn,fun b q=>by
  rw [hs7.2 b (fun q'=>q (by rw [q'];exact X.newL))]
  exact G16.dm b q⟩
end Lay
namespace Lay
variable{C:Cx}
noncomputable def Nt(c:Option Nat)(a b:V):M V:=fun s=>((un V.int a).bind fun i=>(un V.int b).bind fun j=>some (.int (i+j),s)).or ((Wv a s).bind fun xs=>(Wv b s).bind fun ys=>Wl c (xs++ys) s)
theorem Uz{c:Option Nat}(hc:Vd C c):Ve C (binaryOp .Add) (Nt c) (VR C.W):=by
 intro hY ζ ρ st s P E a b x y ok rel ra rb v st' e k
 rcases oro e with e|e
 ·refine byC fun hG=>?_
  obtain⟨i,q1,e⟩:=ob e
  obtain⟨j,q2,e⟩:=ob e
  rw [Zi q1] at ra
  rw [Zi q2] at rb
  obtain⟨t,rfl⟩:=ra
  obtain⟨u,rfl⟩:=rb
  injection e
  exact hG (add_int (k ζ ρ s.heap _ _ (Gr.refl _ _ _ _) rel (Exists.intro _ rfl)))
 ·refine byC fun hG=>?_
  obtain⟨xs,q1,e⟩:=ob e
  obtain⟨ys,q2,e⟩:=ob e
  obtain⟨ax,vs,n,rfl,h1,r1⟩:=Kc rel q1 ra
  obtain⟨ay,ws,n2,rfl,h2,r2⟩:=Kc rel q2 rb
  refine hG ?_
  clear hG
  have hl:(xs++ys).length<=lim:=by
   refine byC fun hG=>?_
   obtain⟨_,s2,e3,e4⟩:=Z6z e
   obtain⟨hg,_⟩:=Z70 e3
   refine hG ?_
   clear hG
   simp only [Z5q,decide_eq_true_eq] at hg;exact hg.2
  have hz:vs.size+ws.size<=sizeLine:=by
   have e1:vs.size=xs.length:=by rw [<-r1.length];simp
   have e2:ws.size=ys.length:=by rw [<-r2.length];simp
   rw [e1,e2,<-Z3b];exact J3 hl
  refine concat_meets ⟨_,h1,rfl⟩ ⟨_,h2,rfl⟩ noFill_list_add seq_list_add PySem.F.slot_list_add PySem.F.entry_list_add (PySem.F.args_list_add_2 _ _) (list_addW ax ay vs ws n n2 none none #[] #[] hz) ⟨h1,h2,?_⟩
  refine byC fun hG=>?_
  obtain⟨ζ',ρ',G',R',hv⟩:=Qy (o:={cls:=.type "list",data:=.seq (vs++ws)}) (ys:=vs.toList++ws.toList) rel hc e (r1.append r2).toA ⟨0,by simp⟩ rfl
  refine hG ?_
  clear hG
  exact k _ _ _ _ _ G' R' hv
noncomputable def Mx(c:Option Nat)(v i:V):M V:=fun s=>(Wv v s).bind fun xs=>(un V.int i).bind fun k=>if 0<=k/\xs.length<=lim then Wl c (xs.take k.toNat) s else none
noncomputable def Z00(c:Option Nat)(v i:V):M V:=fun s=>(Wv v s).bind fun xs=>(un V.int i).bind fun k=>if 0<=k/\xs.length<=lim then Wl c (xs.drop k.toNat) s else none
theorem R8{value u:PySem.Expr}{p pos:Pos}{m1 m2:M V}(c:Option Nat)(hc:Vd C c)(h1:Yb C (eval value C.env) m1)(h2:Yb C (eval u C.env) m2)(hs : ∀ o i,subscripted (.Slice none (some u) none p) false o i=operate [i,o] (getItem o i):=by intro _ _;with_unfolding_all rfl) :
  Yb C (eval (.Subscript value (.Slice none (some u) none p) pos) C.env) (do let a<-m1;let b<-m2;Mx c a b):=by
 intro hY ζ ρ st s P E ok rel v st' e k
 refine byC fun hG=>?_
 obtain⟨a,s1,e1,e⟩:=Z6z e
 obtain⟨b,s2,e2,e3⟩:=Z6z e
 refine hG ?_
 clear hG
 refine Subscript_ (h1 hY ζ ρ st s _ E ok rel a s1 e1 fun ζ1 ρ1 h1' tk1 x G1 rel1 r1=>wpAny_Slice (wpAny_evalPart_none (wpAny_evalPart_some (h2 hY ζ1 ρ1 s1 _ _ E ok rel1 b s2 e2 fun ζ2 ρ2 h2' tk2 y G2 rel2 r2=>wpAny_evalPart_none ?_))))
 have r1':=VR.gr rel1 G2 r1
 refine byC fun hG=>?_
 obtain⟨xs,q,e3⟩:=ob e3
 obtain⟨kk,qk,e3⟩:=ob e3
 obtain⟨hg,e3⟩:=io e3
 obtain⟨l,ys,rfl,hl,hys⟩:=Jw rel2 q r1'
 rw [Zi qk] at r2
 obtain⟨t,rfl⟩:=r2
 refine hG ?_
 clear hG
 have hz:ys.size=xs.length:=by rw [<-hys.length];simp
 have hl':=hl.push {cls:=.type "slice",data:=.fields #[Value.none,.int kk t,.none]}
 refine tail_any hl'.typeIs list_getitem_lookup (wpAny_getItem_list_slice hl' (Heap.IsSliceOf.new ..) .none (.int kk t) .none (by simp) ?_ (hz▸J3 hg.2)) (hs _ _)
 have ek:kk=((kk.toNat:Nat):Int):=by exact ar38 hg
 have hp:slicePick ys none (some kk) none=(ys.toList.take kk.toNat).toArray:=by
  conv=>lhs;rw [ek]
  exact slicePick_upto' ys _
 have rel3:=rel2.push {cls:=.type "slice",data:=.fields #[Value.none,.int kk t,.none]}
 have G3:Gr C.T h2' ζ2 ρ2 _ ζ2 ρ2:=Gr.push h2' {cls:=.type "slice",data:=.fields #[Value.none,.int kk t,.none]}
 refine byC fun hG=>?_
 obtain⟨ζ',ρ',G',R',hv⟩:=Qy (o:={cls:=.type "list",data:=.seq (slicePick ys none (some kk) none)}) rel3 hc e3 (hys.take kk.toNat).toA ⟨0,by rw [hp]⟩ rfl
 refine hG ?_
 clear hG
 exact k _ _ _ _ _ (((G1.trans G2).trans G3).trans G') R' hv
theorem Ci{value u:PySem.Expr}{p pos:Pos}{m1 m2:M V}(c:Option Nat)(hc:Vd C c)(h1:Yb C (eval value C.env) m1)(h2:Yb C (eval u C.env) m2)(hs : ∀ o i,subscripted (.Slice (some u) none none p) false o i=operate [i,o] (getItem o i):=by intro _ _;with_unfolding_all rfl) :
  Yb C (eval (.Subscript value (.Slice (some u) none none p) pos) C.env) (do let a<-m1;let b<-m2;Z00 c a b):=by
 intro hY ζ ρ st s P E ok rel v st' e k
 refine byC fun hG=>?_
 obtain⟨a,s1,e1,e⟩:=Z6z e
 obtain⟨b,s2,e2,e3⟩:=Z6z e
 refine hG ?_
 clear hG
 refine Subscript_ (h1 hY ζ ρ st s _ E ok rel a s1 e1 fun ζ1 ρ1 h1' tk1 x G1 rel1 r1=>wpAny_Slice (wpAny_evalPart_some (h2 hY ζ1 ρ1 s1 _ _ E ok rel1 b s2 e2 fun ζ2 ρ2 h2' tk2 y G2 rel2 r2=>wpAny_evalPart_none (wpAny_evalPart_none ?_))))
 have r1':=VR.gr rel1 G2 r1
 refine byC fun hG=>?_
 obtain⟨xs,q,e3⟩:=ob e3
 obtain⟨kk,qk,e3⟩:=ob e3
 obtain⟨hg,e3⟩:=io e3
 obtain⟨l,ys,rfl,hl,hys⟩:=Jw rel2 q r1'
 rw [Zi qk] at r2
 obtain⟨t,rfl⟩:=r2
 refine hG ?_
 clear hG
 have hz:ys.size=xs.length:=by rw [<-hys.length];simp
 have hl':=hl.push {cls:=.type "slice",data:=.fields #[.int kk t,.none,.none]}
 refine tail_any hl'.typeIs list_getitem_lookup (wpAny_getItem_list_slice hl' (Heap.IsSliceOf.new ..) (.int kk t) .none .none (by simp) ?_ (hz▸J3 hg.2)) (hs _ _)
 have ek:kk=((kk.toNat:Nat):Int):=by exact ar38 hg
 have hp:slicePick ys (some kk) none none=(ys.toList.drop kk.toNat).toArray:=by
  conv=>lhs;rw [ek]
  exact slicePick_from' ys _
 have rel3:=rel2.push {cls:=.type "slice",data:=.fields #[.int kk t,.none,.none]}
 have G3:Gr C.T h2' ζ2 ρ2 _ ζ2 ρ2:=Gr.push h2' {cls:=.type "slice",data:=.fields #[.int kk t,.none,.none]}
 refine byC fun hG=>?_
 obtain⟨ζ',ρ',G',R',hv⟩:=Qy (o:={cls:=.type "list",data:=.seq (slicePick ys (some kk) none none)}) rel3 hc e3 (hys.drop kk.toNat).toA ⟨0,by rw [hp]⟩ rfl
 refine hG ?_
 clear hG
 exact k _ _ _ _ _ (((G1.trans G2).trans G3).trans G') R' hv
noncomputable def Kj(n:Nat)(loc:Nat->Option V):Nat->Option V:=fun i=>(loc i).bind fun v=>@V.casesOn (fun _=>Option V) v (some v) (fun _=>some v) (fun _=>some v) (fun _=>some v) (fun _=>some v) (fun _=>some v) (fun _=>some v) (fun m=>if m=n then none else some (.ref m)) (fun _=>some v) (fun _ _ _=>some v)
theorem Rk{n:Nat}{loc:Nat->Option V}{i:Nat}{v:V}(h:Kj n loc i=some v):loc i=some v/\v≠ .ref n:=by
 obtain⟨u,q,h⟩:=ob h
 cases u with
 |ref m =>
  by_cases hn:m=n
  ·exact(nope ((if_pos hn).symm.trans h)).elim
  ·obtain rfl:V.ref m=v:=Z54 ((if_neg hn).symm.trans h)
   exact⟨q,fun e=>hn (V.ref.inj e)⟩
 |_=>cases h;exact⟨q,fun e=>Z7i e⟩
theorem Rel.kill{hY ζ:HM}{ρ:RM}{st:St}{h:Heap}(R:Rel C hY ζ ρ st h)(n:Nat)(hB:C.B<=n)(b100:100<=C.B) :
  Rel C hY ζ (upd ρ n none) ⟨Kj n st.loc,upd st.hp n none⟩ h/\Gr C.B h ζ ρ h ζ (upd ρ n none):=by
 have dn : ∀ m a,upd ρ n none m=some a->m≠n/\ρ m=some a:=fun m a e=>by
  by_cases q:m=n
  ·subst q;rw [Z4] at e;injection e
  ·rw [Z5 _ _ q] at e;exact⟨q,e⟩
 have low:Ko ρ (upd ρ n none):=fun m a hm e=>by rw [Z5 _ _ (by exact ar43 hB b100 hm)];exact e
 refine⟨⟨⟨R.ok,R.kept,R.frozen,R.fcls,fun m O e=>?_,fun m e=>?_,fun m m' a e e'=>R.inj m m' a (dn _ _ e).2 (dn _ _ e').2,fun m a e=>R.offz m a (dn _ _ e).2,fun m a e=>R.offk m a (dn _ _ e).2,R.good,fun m e=>R.sysr m (dn _ _ e).2,R.sysz⟩,
  fun m hm=>?_,fun m h1 h2 h3=>?_,fun i v e=>?_,R.plok,fun i pl e=>⟨(R.ploff i pl e).1,(R.ploff i pl e).2.1,fun m q=>(R.ploff i pl e).2.2 m (dn _ _ q).2⟩,R.plinj⟩,⟨Le.refl _,fun m a hm e=>by rw [Z5 _ _ (by exact ar44 hB hm)];exact e,fun _ _ e=>.inl e,fun m a e=>.inl (dn _ _ e).2,fun _ e=>e⟩⟩
 ·by_cases q:m=n
  ·subst q;simp only [Z4] at e;injection e
  ·simp only [Z5 _ _ q] at e
   refine byC fun hG=>?_
   obtain⟨a,o,h1,h2,h3⟩:=R.slot m O e
   refine hG ?_
   clear hG
   exact⟨a,o,by rw [Z5 _ _ q];exact h1,h2,h3.mono (Le.refl _) low⟩
 ·by_cases q:m=n
  ·subst q;exact Z4 _ _ _
  ·simp only [Z5 _ _ q] at e;rw [Z5 _ _ q];exact R.dom m e
 ·show upd st.hp n none m=none
  by_cases q:m=n
  ·subst q;exact Z4 _ _ _
  ·rw [Z5 _ _ q];exact R.fresh m hm
 ·refine R.mid m h1 h2 fun q=>h3 ?_
  show upd st.hp n none m=none
  by_cases q':m=n
  ·subst q';exact Z4 _ _ _
  ·rw [Z5 _ _ q'];exact q
 ·obtain⟨e1,e2⟩:=Rk e
  refine byC fun hG=>?_
  obtain⟨pl,x,h1,h2,h3⟩:=R.var i v e1
  refine hG ?_
  clear hG
  refine⟨pl,x,h1,h2,?_⟩
  cases v with
  |ref m =>
   have hm:m≠n:=fun q=>e2 (by rw [q])
   refine(?_:Exists _)
   obtain⟨a,h4,h5⟩:=h3
   exact⟨a,by rw [Z5 _ _ hm];exact h4,h5⟩
  |_=>exact VR.lowMono (Le.refl _) low _ _ rfl h3
noncomputable def M.sets:List Nat->List V->M Unit
 | [],[]=>pure ()
 |i::is,v::vs=>do Z72 i v;M.sets is vs
 |_,_=>M.fail
theorem M.sets_length : ∀ {is:List Nat} {vs:List V} {st:St} {r},M.sets is vs st=some r->is.length=vs.length
 | [],[],_,_,_=>rfl
 |_::_,_::_,_,_,h=>by obtain⟨_,_,_,h2⟩:=Z6z h;simp [M.sets_length h2]
 | [],_::_,_,_,h=>by injection h
 |_::_,[],_,_,h=>by injection h
inductive SimSts(C:Cx):List (Value->Sem Unit)->List Nat->Prop
 |nil:SimSts C [] []
 |cons {t:Value->Sem Unit} {i:Nat} {ts:List (Value->Sem Unit)} {is:List Nat} (h:Pb C C.T (VR C.W) t (fun v=>Z72 i v) (fun _ _ _ _=>True)) (r:SimSts C ts is):SimSts C (t::ts) (i::is)
theorem SimSts.length{ts:List (Value->Sem Unit)}{is:List Nat}(h:SimSts C ts is):ts.length=is.length:=by
 induction h with
 |nil=>rfl
 |cons _ _ ih=>simp [ih]
theorem Q2{ts:List (Value->Sem Unit)}{is:List Nat}(h:SimSts C ts is):Pb C C.T (VRa C.W) (fun xs=>assignInOrder ts xs) (M.sets is) (fun _ _ _ _=>True):=by
 induction h with
 |nil =>
  intro hY ζ ρ st s P E vs xs ok rel r a st' e k
  cases vs with
  |nil=>injection e;change _=_ at r;subst r;exact wpAny_assignInOrder_none (k ζ ρ s.heap s.toks _ (Gr.refl _ _ _ _) rel trivial)
  |cons _ _=>injection e
 |cons h1 _ ih =>
  intro hY ζ ρ st s P E vs xs ok rel r a st' e k
  cases vs with
  |nil=>injection e
  |cons v vs =>
   refine byC fun hG=>?_
   obtain⟨x,xs',rfl,r1,r2⟩:=r
   obtain⟨_,s1,e1,e2⟩:=Z6z e
   refine hG ?_
   clear hG
   refine wpAny_assignInOrder_more (h1 hY ζ ρ st s _ E v x ok rel r1 _ s1 e1 fun ζ1 ρ1 h1' tk1 _ G1 rel1 _=>?_)
   exact ih hY ζ1 ρ1 s1 _ P E vs xs' ok rel1 (r2.gr rel G1) a st' e2 fun ζ2 ρ2 h2 tk2 b G2 rel2 r2=>k ζ2 ρ2 h2 tk2 b (G1.trans G2) rel2 r2
noncomputable def M.unpack(is:List Nat)(v:V):M Unit:=@V.casesOn (fun _=>M Unit) v M.fail (fun _=>M.fail) (fun _=>M.fail) (fun _=>M.fail) (fun vs=>M.sets is vs) (fun _=>M.fail) (fun _=>M.fail) (fun _=>M.fail) (fun _=>M.fail) (fun _ _ _=>M.fail)
theorem Rel.newer{hY ζ:HM}{ρ:RM}{st:St}{h h':Heap}(R:Rel C hY ζ ρ st h)(he:Heap.ExtBut h.objs.size h h'):Rel C hY ζ ρ st h'/\Gr C.T h ζ ρ h' ζ ρ:=by
 have keep : ∀ b o,h.get? b=some o->h'.get? b=some o:=fun b o e=>he b o (Z1o (Z5j e)) e
 refine⟨R.off (fun _=>False) (fun b o _ e=>keep b o e) (fun _ x=>x.elim) (fun _ _ _ x=>x),Gr.heap fun a e=>?_⟩
 cases q:h.get? a with
 |none=>exact absurd q e
 |some o=>rw [keep a o q];exact Z53 _
theorem SimA.tuple{elts:List PySem.Expr}{k:Nat}{pos:Pos}{is:List Nat}(h:SimSts C ((assignEach elts C.env).map (·.2)) is)(hs:(assignEach elts C.env).findIdx? (·.1)=none:=by rfl):SimA C (.Tuple elts k pos) (M.unpack is):=by
 intro hY ζ ρ st s P E v y ok rel r a st' e kk
 cases v with
 |tup vs =>
  refine byC fun hG=>?_
  obtain⟨t,ys,rfl,⟨o,ho,hc,n,hd⟩,h2⟩:=Fj rel r
  refine hG ?_
  clear hG
  have hl:ys.size=vs.length:=by rw [<-h2.length];simp
  show wpAny _ _ (assign (.Tuple elts k pos) C.env (.ref t)) _ _ _
  rw [arm_assign_Tuple]
  refine Z5l (wpAny_standAt ?_)
  have hn:(assignEach elts C.env).length=ys.size:=by rw [hl,<-M.sets_length e,<-h.length,Z3g]
  unfold unpack
  rw [hn,hs]
  refine Z5l (Z5n (unpackItems_tuple ok.room.handled ⟨o,ho,hc,n,hd⟩ fun h' he=>?_))
  obtain⟨R',G'⟩:=rel.newer he
  exact Q2 h hY ζ ρ st _ P E vs ys.toList ok R' h2.toA a st' e fun ζ2 ρ2 h2 tk2 b G2 rel2 r2=>kk ζ2 ρ2 h2 tk2 b (G'.trans G2) rel2 r2
 |_=>injection e
theorem Tx{elts:List PySem.Expr}{k:Nat}{tpos pos:Pos}{value:PySem.Expr}{m:M V}{is:List Nat}(h:Yb C (eval value C.env) m)(hst:SimSts C ((assignEach elts C.env).map (·.2)) is)(hx:(assignEach elts C.env).findIdx? (·.1)=none:=by rfl)
  (hs:swapsWithSole [.Tuple elts k tpos] value pos.line C.env=pure false:=by rfl) (hw:swappedStores [.Tuple elts k tpos] value C.env=pure none:=by rfl) :
  Qi C (exec (.Assign [.Tuple elts k tpos] value pos) C.env) (do let v<-m;M.unpack is v;pure .next):=by
 intro hY ζ ρ st s P E ok rel a st' e kk
 refine byC fun hG=>?_
 obtain⟨v,s1,e1,e2⟩:=Z6z e
 obtain⟨u,s2,e3,e4⟩:=Z6z e2
 injection e4
 refine hG ?_
 clear hG
 refine Assign_Tuple (h hY ζ ρ st s _ E ok rel v _ e1 fun ζ1 ρ1 h1 tk1 y G1 rel1 r1=>?_) hs hw
 exact SimA.tuple hst hx hY ζ1 ρ1 s1 _ _ E v y ok rel1 r1 _ _ e3 fun ζ2 ρ2 h2 tk2 _ G2 rel2 _=>kk ζ2 ρ2 h2 tk2 _ ((G1.trans G2).weak ok.bt) rel2 rfl
theorem U7{elts vals:List PySem.Expr}{k k':Nat}{tpos vpos pos:Pos}{m:M (List V)}{is:List Nat}(h:T2 C (spliced (backTo vpos (starEach vals C.env))) m)(hst:SimSts C ((assignEach elts C.env).map (·.2)) is)(hx:(assignEach elts C.env).findIdx? (·.1)=none:=by rfl)
  (hs:swapsWithSole [.Tuple elts k tpos] (.Tuple vals k' vpos) pos.line C.env=pure false:=by rfl) (hw:swappedStores [.Tuple elts k tpos] (.Tuple vals k' vpos) C.env=pure none:=by rfl) :
  Qi C (exec (.Assign [.Tuple elts k tpos] (.Tuple vals k' vpos) pos) C.env) (do let vs<-m;M.guard (decide (vs.length<=100));M.sets is vs;pure .next):=by
 intro hY ζ ρ st s P E ok rel a st' e kk
 refine byC fun hG=>?_
 obtain⟨vs,s1,e1,e⟩:=Z6z e
 obtain⟨_,s2,e2,e⟩:=Z6z e
 obtain⟨u,s3,e3,e4⟩:=Z6z e
 injection e4
 obtain⟨hg,hs2⟩:=Z70 e2
 injection hs2
 refine hG ?_
 clear hG
 simp only [decide_eq_true_eq] at hg
 refine Assign_Tuple (wpAny_Tuple_spliced (h hY ζ ρ st s _ E ok rel vs _ e1 fun ζ1 ρ1 h1 tk1 ys G1 rel1 r1=>⟨J3 (Z16 (r1.length▸hg) (by decide)),?_⟩)) hs hw
 have R2:=rel1.push {cls:=.type "tuple",data:=.seq ys.toArray}
 have G2:Gr C.T h1 ζ1 ρ1 _ ζ1 ρ1:=Gr.push h1 {cls:=.type "tuple",data:=.seq ys.toArray}
 have ht:IsTup (h1.push {cls:=.type "tuple",data:=.seq ys.toArray}) h1.objs.size ys.toArray:=⟨_,Z5i h1 rfl,rfl,0,rfl⟩
 rw [arm_assign_Tuple]
 refine Z5l (wpAny_standAt ?_)
 have hn:(assignEach elts C.env).length=ys.toArray.size:=by rw [Z4r,r1.length,<-M.sets_length e3,<-hst.length,Z3g]
 unfold unpack
 rw [hn,hx]
 refine Z5l (Z5n (unpackItems_tuple ok.room.handled ht fun h' he=>?_))
 obtain⟨R3,G3⟩:=R2.newer he
 exact Q2 hst hY ζ1 ρ1 s1 _ _ E vs ys ok R3 r1 _ _ e3 fun ζ2 ρ2 h2 tk2 b G4 rel2 r2=>kk ζ2 ρ2 h2 tk2 _ ((((G1.trans G2).trans G3).trans G4).weak ok.bt) rel2 rfl
theorem X1{elts vals:List PySem.Expr}{k k':Nat}{tpos vpos pos:Pos}{names:List Str}{m:M (List V)}{is:List Nat}(h:T2 C (spliced (backTo vpos (starEach vals C.env))) m)
  (hst:SimSts C (names.reverse.map fun n=>bindName C.env n) is)
  (hw:swappedStores [.Tuple elts k tpos] (.Tuple vals k' vpos) C.env=pure (some names)) (hs:swapsWithSole [.Tuple elts k tpos] (.Tuple vals k' vpos) pos.line C.env=pure false:=by rfl) :
  Qi C (exec (.Assign [.Tuple elts k tpos] (.Tuple vals k' vpos) pos) C.env) (do let vs<-m;M.guard (decide (vs.length<=100));M.sets is vs.reverse;pure .next):=by
 intro hY ζ ρ st s P E ok rel a st' e kk
 refine byC fun hG=>?_
 obtain⟨vs,s1,e1,e⟩:=Z6z e
 obtain⟨_,s2,e2,e⟩:=Z6z e
 obtain⟨u,s3,e3,e4⟩:=Z6z e
 injection e4
 obtain⟨hg,hs2⟩:=Z70 e2
 injection hs2
 refine hG ?_
 clear hG
 simp only [decide_eq_true_eq] at hg
 refine Assign_Tuple_swapped (names:=names) (wpAny_Tuple_spliced (h hY ζ ρ st s _ E ok rel vs _ e1 fun ζ1 ρ1 h1 tk1 ys G1 rel1 r1=>⟨J3 (Z16 (r1.length▸hg) (by decide)),?_⟩)) hs hw
 have R2:=rel1.push {cls:=.type "tuple",data:=.seq ys.toArray}
 have G2:Gr C.T h1 ζ1 ρ1 _ ζ1 ρ1:=Gr.push h1 {cls:=.type "tuple",data:=.seq ys.toArray}
 have ht:IsTup (h1.push {cls:=.type "tuple",data:=.seq ys.toArray}) h1.objs.size ys.toArray:=⟨_,Z5i h1 rfl,rfl,0,rfl⟩
 have hn:names.length=ys.toArray.size:=by
  have h1:=M.sets_length e3
  have h2:=hst.length
  simp only [Z3g,Z3k] at h1 h2
  rw [Z4r,r1.length];exact ar45 h1 h2
 rw [hn]
 refine unpackItems_tuple ok.room.handled ht fun h' he=>?_
 obtain⟨R3,G3⟩:=R2.newer he
 have rv : ∀ {v:List V} {x:List Value},VRa C.W ζ1 ρ1 v x->VRa C.W ζ1 ρ1 v.reverse x.reverse:=by
  intro v
  induction v with
  |nil=>intro x hx;change _=_ at hx;subst hx;rfl
  |cons v vs ih =>
   intro x hx
   refine byC fun hG=>?_
   obtain⟨y,r,rfl,h1,h2⟩:=hx
   refine hG ?_
   clear hG
   simp only [Z4q]
   exact(ih h2).append ⟨y,[],rfl,h1,rfl⟩
 exact Q2 hst hY ζ1 ρ1 s1 _ _ E vs.reverse ys.reverse ok R3 (rv r1) _ _ e3 fun ζ2 ρ2 h2 tk2 b G4 rel2 r2=>kk ζ2 ρ2 h2 tk2 _ ((((G1.trans G2).trans G3).trans G4).weak ok.bt) rel2 rfl
theorem SimSts.name{x:Str}{i:Nat}{pos:Pos}(h:M4 C x i):Pb C C.T (VR C.W) (fun y=>assign (.Name x pos) C.env y) (fun v=>Z72 i v) (fun _ _ _ _=>True):=SimA.name h
theorem SimSts.bind{x:Str}{i:Nat}(h:M4 C x i):Pb C C.T (VR C.W) (fun y=>bindName C.env x y) (fun v=>Z72 i v) (fun _ _ _ _=>True):=by
 intro hY ζ ρ st s P E v y ok rel r a st' e k
 exact bindName_ (h hY ζ ρ st s P E v y ok rel r a st' e k)
end Lay
namespace Lay
variable{C:Cx}
noncomputable def VRq(W:Wd)(ζ:HM)(ρ:RM):List (V×V)->List (Value×Value)->Prop
 | [],ys=>ys = []
 |(k,v)::xs,ys => ∃ a b r,ys=(a,b)::r/\VR W ζ ρ k a/\VR W ζ ρ v b/\VRq W ζ ρ xs r
noncomputable abbrev SimQ(C:Cx)(t:Sem (List (Value×Value)))(m:M (List (V×V))):Prop:=Sim C C.T t m (VRq C.W)
theorem SimQ.nil{pos:Pos}:SimQ C (evalPairs (pairTrees [] [] C.env pos)) (pure []):=by
 intro hY ζ ρ st s P E ok rel a st' e k
 injection e
 exact pairTrees_nil_walk (k ζ ρ s.heap s.toks _ (Gr.refl _ _ _ _) rel rfl)
theorem SimQ.cons{k v:PySem.Expr}{ks:List (Option PySem.Expr)}{vs:List PySem.Expr}{pos:Pos}{m1 m2:M V}{m3:M (List (V×V))}(h1:Yb C (eval k C.env) m1)(h2:Yb C (eval v C.env) m2)(h3:SimQ C (evalPairs (pairTrees ks vs C.env pos)) m3) :
  SimQ C (evalPairs (pairTrees (some k::ks) (v::vs) C.env pos)) (do let a<-m1;let b<-m2;let r<-m3;pure ((a,b)::r)):=by
 intro hY ζ ρ st s P E ok rel v' st' e kk
 refine byC fun hG=>?_
 obtain⟨a,s1,e1,e⟩:=Z6z e
 obtain⟨b,s2,e2,e⟩:=Z6z e
 obtain⟨r,s3,e3,e4⟩:=Z6z e
 injection e4
 refine hG ?_
 clear hG
 refine pairTrees_cons_walk (h1 hY ζ ρ st s _ E ok rel a s1 e1 fun ζ1 ρ1 h1' tk1 x G1 rel1 r1=>h2 hY ζ1 ρ1 s1 _ _ E ok rel1 b s2 e2 fun ζ2 ρ2 h2' tk2 y G2 rel2 r2=>h3 hY ζ2 ρ2 s2 _ _ E ok rel2 r st' e3 fun ζ3 ρ3 h3' tk3 z G3 rel3 r3=>?_)
 exact kk ζ3 ρ3 h3' tk3 _ ((G1.trans G2).trans G3) rel3 ⟨x,y,z,rfl,VR.gr rel2 G3 (VR.gr rel1 G2 r1),VR.gr rel2 G3 r2,r3⟩
noncomputable def F6{K:Type}(key:V->Option K):List (V×V)->Option (List (K×V))
 | []=>some []
 |kv::r=>(key kv.1).bind fun k'=>if kv.2.low=true then (F6 key r).bind fun r'=>some ((k',kv.2)::r') else none
noncomputable def Ev:V->Option Int:=un V.int
noncomputable def C0:V->Option Str:=un V.str
noncomputable def mkDict{K:Type} [DecidableEq K](key:V->Option K)(mk:List (K×V)->O)(n:Nat)(vs:List (V×V)):M V:=fun s=>(F6 key vs).bind fun kvs=>M.new n (mk (kvs.foldl (fun d kv=>Y6 d kv.1 kv.2) [])) s
theorem VRk.merged{K:Type} [DecidableEq K]{W:Wd}{ζ:HM}{ρ:RM} : ∀ {kvs:List (K×V)} {kys:List (K×Value)} {acc:List (K×V)} {bcc:List (K×Value)},VRk W ζ ρ acc bcc->VRk W ζ ρ kvs kys->
  VRk W ζ ρ (kvs.foldl (fun d kv=>Y6 d kv.1 kv.2) acc) (merged bcc kys)
 | [],_,_,_,h,h'=>by change _=_ at h';subst h';exact h
 |(k,v)::r,_,_,_,h,hH=>by
  refine byC fun hG=>?_
  obtain⟨y,r',e,hl,h1,h2⟩:=hH
  subst e
  refine hG ?_
  clear hG
  simp only [Z2q]
  have:=VRk.merged (h.stored k hl h1) h2
  exact this
theorem Tg{W:Wd}{K:Type} [DecidableEq K]{knd:KeyKind W.prog W.w K}{key:V->Option K}{ζ:HM}{ρ:RM}(hkey : ∀ v x k,key v=some k->VR W ζ ρ v x->knd.is k x=true) : ∀ {vs:List (V×V)} {xs:List (Value×Value)} {kvs:List (K×V)},F6 key vs=some kvs->VRq W ζ ρ vs xs->
  ∃ kys,Carries knd xs kys/\VRk W ζ ρ kvs kys
 | [],_,_,e,h=>by injection e;change _=_ at h;subst h;exact⟨[],trivial,rfl⟩
 |(k,v)::r,_,_,e,hH=>by
  refine byC fun hG=>?_
  obtain⟨a,b,r',e',h1,h2,h3⟩:=hH
  subst e'
  obtain⟨k',q1,e⟩:=ob e
  obtain⟨q2,e⟩:=io e
  obtain⟨rs,q3,e⟩:=ob e
  injection e
  obtain⟨kys,c1,c2⟩:=Tg hkey q3 h3
  exact hG ⟨(k',b)::kys,⟨hkey _ _ _ q1 h1,rfl,c1⟩,b,kys,rfl,q2,h2,c2⟩
theorem Rel.swapObj{hY ζ:HM}{ρ:RM}{st:St}{h h':Heap}{D:Addr}(R:Rel C hY ζ ρ st h)(off:Off C hY ζ ρ D)(hs:Z5g D h h'):Rel C hY ζ ρ st h' :=
 R.off (· =D) (fun b o hb q=>(hs.2 b hb).trans q) (fun b q=>q▸⟨off.z,off.k,off.r⟩) off.p
theorem L1{K:Type} [DecidableEq K]{knd:KeyKind C.W.prog C.W.w K}{key:V->Option K}{mk:List (K×V)->O}{keys:List (Option PySem.Expr)}{values:List PySem.Expr}{pos:Pos}{m:M (List (V×V))}(n:Nat)
  (hmk : ∀ ζ ρ kvs o,(∃ es n kys,o=Gq es n/\Ent C.W knd es kys/\VRk C.W ζ ρ kvs kys)->OR C.W ζ ρ (mk kvs) o) (hkey : ∀ ζ ρ v x k,key v=some k->VR C.W ζ ρ v x->knd.is k x=true)
  (h:SimQ C (evalPairs (pairTrees keys values C.env pos)) m) (hT:n<C.T) (hB:n<100\/C.B<=n)
  (hall:keys.all (·.isSome)=true:=by rfl) (hl:keys.length=values.length:=by rfl) (h0:keys≠[]:=by exact Z2c _ _) (hlen:keys.length<=15:=by decide) :
  Yb C (eval (.Dict keys values pos) C.env) (do let vs<-m;mkDict key mk n vs):=by
 intro hY ζ ρ st s P E ok rel v st' e kk
 refine byC fun hG=>?_
 obtain⟨vs,s1,e1,e2⟩:=Z6z e
 refine hG ?_
 clear hG
 have offD:=rel.offNew (Yo s.heap)
 have sysD:=rel.not_sys (Z12 _)
 have hD0:(s.heap.push {cls:=.type "dict",data:=.dict #[]}).get? s.heap.objs.size=some {cls:=.type "dict",data:=.dict #[]}:=Z5i _ rfl
 have rel0:=rel.push {cls:=.type "dict",data:=.dict #[]}
 have relK:=rel0.addK hD0 ⟨offD.z,offD.k,offD.r⟩ offD.p
 have le:=Wh (b:=({cls:=.type "dict",data:=.dict #[]}:Obj)) offD.k
 refine wpAny_Dict_walk (knd:=knd) hall hl h0 hlen (h _ ζ ρ st _ _ E ok relK vs s1 e1 fun ζ1 ρ1 h1 tk1 ys G1 rel1 r1=>?_)
 refine byC fun hG=>?_
 obtain⟨kvs,hp,e2⟩:=ob e2
 obtain⟨hn,e3⟩:=M.new_some e2
 injection e3
 obtain⟨kys,c1,c2⟩:=Tg (hkey ζ1 ρ1) hp r1
 refine hG ?_
 clear hG
 have hD1:h1.get? s.heap.objs.size=some {cls:=.type "dict",data:=.dict #[]}:=rel1.kept _ _ (Z4 _ _ _)
 have offD1:Off C hY ζ1 ρ1 s.heap.objs.size:=Off.gr offD G1 (by rw [hD0];exact Z53 _)
 refine⟨kys,c1,⟨_,#[],0,hD1,⟨rfl,rfl,rfl⟩,rfl,fun e he=>by simp at he,.nil,Z4e⟩,fun h' hd hs=>?_⟩
 refine byC fun hG=>?_
 obtain⟨es,m',ho,he⟩:=Ent.back hd
 refine hG ?_
 clear hG
 have rel2:=(rel1.dropK le rel.good).swapObj offD1 hs
 have hle:Le ρ1 (upd ρ1 n (some s.heap.objs.size)):=Wh (rel1.dom n hn)
 have R3:=rel2.adoptS ho offD1 sysD n hn hT hB (mk (kvs.foldl (fun d kv=>Y6 d kv.1 kv.2) [])) (hmk _ _ _ _ ⟨es,m',_,rfl,he,VRk.merged (acc := []) (bcc := []) rfl (c2.mono (Le.refl _) hle.low)⟩)
 have dm : ∀ b,s.heap.get? b≠none->h'.get? b≠none:=fun b q=>by
  have hb:b≠s.heap.objs.size:=fun q'=>q (q'▸Yo s.heap)
  rw [hs.2 b hb]
  refine G1.dm b ?_
  cases q2:s.heap.get? b with
  |none=>exact absurd q2 q
  |some o=>show (s.heap.push _).get? b≠none;rw [Yd _ _ _ _ q2];exact Z53 _
 have dn : ∀ b,(s.heap.push {cls:=.type "dict",data:=.dict #[]}).get? b=none->s.heap.get? b=none:=fun b q=>by
  cases q2:s.heap.get? b with
  |none=>rfl
  |some o=>rw [Yd _ _ _ _ q2] at q;injection q
 refine kk _ _ _ _ _ ⟨G1.zl,fun m a hm q=>hle _ _ (G1.rl m a hm q),fun a o q=>(G1.zn a o q).imp id fun q=>q.imp (dn a) id,fun m a q=>?_,dm⟩ R3 (by refine(?_:Exists _);exact⟨_,Z4 _ _ _,rfl⟩)
 by_cases q':m=n
 ·subst q';rw [Z4] at q;injection q;exact .inr (.inl (Yo _))
 ·rw [Z5 _ _ q'] at q;exact(G1.rn m a q).imp id fun q=>q.imp (dn a) id
theorem M5{keys:List (Option PySem.Expr)}{values:List PySem.Expr}{pos:Pos}{m:M (List (V×V))}(n:Nat)(h:SimQ C (evalPairs (pairTrees keys values C.env pos)) m)(hT:n<C.T)(hB:n<100\/C.B<=n)
  (hall:keys.all (·.isSome)=true:=by rfl) (hl:keys.length=values.length:=by rfl) (h0:keys≠[]:=by exact Z2c _ _) (hlen:keys.length<=15:=by decide) :
  Yb C (eval (.Dict keys values pos) C.env) (do let vs<-m;mkDict Ev .idict n vs):=by
 refine L1 (knd:=intKind C.W.prog C.W.w) n (fun _ _ _ _ h=>h) (fun ζ ρ v x k hk r=>?_) h hT hB hall hl h0 hlen
 rw [Zi hk] at r
 obtain⟨t,rfl⟩:=r
 exact Wi _ t
theorem M6{keys:List (Option PySem.Expr)}{values:List PySem.Expr}{pos:Pos}{m:M (List (V×V))}(n:Nat)(h:SimQ C (evalPairs (pairTrees keys values C.env pos)) m)(hT:n<C.T)(hB:n<100\/C.B<=n)
  (hall:keys.all (·.isSome)=true:=by rfl) (hl:keys.length=values.length:=by rfl) (h0:keys≠[]:=by exact Z2c _ _) (hlen:keys.length<=15:=by decide) :
  Yb C (eval (.Dict keys values pos) C.env) (do let vs<-m;mkDict C0 .sdict n vs):=by
 refine L1 (knd:=strKind C.W.prog C.W.w) n (fun _ _ _ _ h=>h) (fun ζ ρ v x k hk r=>?_) h hT hB hall hl h0 hlen
 rw [Zi hk] at r
 obtain⟨t,rfl⟩:=r
 exact F2 _ t
theorem Vq{pos:Pos}(n:Nat)(O:O)(hO : ∀ ζ ρ,OR C.W ζ ρ O (Gq #[] 0))(hT:n<C.T)(hB:n<100\/C.B<=n):Yb C (eval (.Dict [] [] pos) C.env) (M.new n O):=by
 intro hY ζ ρ st s P E ok rel v st' e kk
 obtain⟨hn,e3⟩:=M.new_some e
 injection e3
 refine wpAny_Dict_empty ?_
 obtain⟨R',G'⟩:=rel.pushS n hn hT hB O {cls:=.type "dict",data:=.dict #[]} rfl (hO _ _)
 exact kk _ _ _ _ _ G' R' (by refine(?_:Exists _);exact⟨_,Z4 _ _ _,rfl⟩)
theorem Ent.none{W:Wd}{K:Type} [DecidableEq K](knd:KeyKind W.prog W.w K):Ent W knd #[] []:=⟨fun e he=>by simp at he,.nil,Z4e⟩
theorem Th{W:Wd}(ζ:HM)(ρ:RM):OR W ζ ρ (.idict []) (Gq #[] 0):=⟨#[],0,[],rfl,Ent.none _,rfl⟩
theorem emptyT{W:Wd}(ζ:HM)(ρ:RM):OR W ζ ρ (.tdict []) (Gq #[] 0):=⟨#[],0,[],rfl,rfl,Z4e,rfl⟩
theorem emptyA{W:Wd}(ζ:HM)(ρ:RM):OR W ζ ρ (.attrs []) (Gq #[] 0):=⟨#[],0,rfl,fun e he=>by simp at he,by unfold UniqKeys;exact .nil,fun x=>rfl⟩
end Lay
namespace Lay
variable{C:Cx}
theorem Un{α:Type} [DecidableEq α] : ∀ {l m:List α},l.Nodup->(∀ x∈l,x∈m)->l.length<=m.length
 | [],_,_,_=>Z25 _
 |a::l,m,hn,hs=>by
  rw [Z4d] at hn
  have ha:a∈m:=hs a (.head _)
  have:l.length<=(m.erase a).length:=Un hn.2 fun x hx=>(Z42 (by rintro rfl;exact hn.1 hx)).mpr (hs x (.tail _ hx))
  rw [Z3e ha] at this
  have hpos:0<m.length:=Z3i ha
  rw [Z3c];exact ar46 this hpos
theorem Im{W:Wd}{ζ:HM}{ρ:RM}{kvs:List (Str×V)}{es:Array DictEntry}(h:AttrsAre W ζ ρ kvs es):es.size<=kvs.length:=by
 obtain⟨hk,hu,hm⟩:=h
 have key : ∀ l:List DictEntry,(∀ e∈l,∃ n t,e.key = .str n t)->(l.Pairwise fun a b => ∀ n,a.key.isStr n=true->b.key.isStr n=true->False)->∃ ns:List Str,ns.length=l.length/\ns.Nodup/\∀ n∈ns,∃ e∈l,e.key.isStr n=true:=by
  intro l
  induction l with
  |nil=>intro _ _;exact⟨[],rfl,Z4e,nofun⟩
  |cons e l ih =>
   intro h1 h2
   rw [List.pairwise_cons] at h2
   refine byC fun hG=>?_
   obtain⟨ns,e1,e2,e3⟩:=ih (fun e he=>h1 e (.tail _ he)) h2.2
   obtain⟨n,t,hn⟩:=h1 e (.head _)
   refine hG ?_
   clear hG
   have hs:e.key.isStr n=true:=by rw [hn];simp [Value.isStr]
   refine⟨n::ns,by simp [e1],Z4d.mpr ⟨fun q=>?_,e2⟩,fun m hm=>?_⟩
   ·obtain⟨e',he',hq⟩:=e3 n q
    exact h2.1 e' he' n hs hq
   ·rcases Z3z.mp hm with rfl|hm
    ·exact⟨e,.head _,hs⟩
    ·obtain⟨e',he',hq⟩:=e3 m hm;exact⟨e',.tail _ he',hq⟩
 refine byC fun hG=>?_
 obtain⟨ns,e1,e2,e3⟩:=key es.toList (fun e he=>hk e (Array.mem_toList_iff.mp he)) hu
 refine hG ?_
 clear hG
 have:ns.length<=(kvs.map (·.1)).length:=Un e2 fun n hn=>by
  obtain⟨e,he,hq⟩:=e3 n hn
  have:=hm n
  cases q:Y1 kvs n with
  |none =>
   rw [q] at this
   dsimp only at this
   unfold nsFind findBy at this
   rw [Option.map_eq_none_iff,Array.find?_eq_none] at this
   exact absurd hq (by simpa using this e (Array.mem_toList_iff.mp he))
  |some v =>
   unfold Y1 at q
   obtain⟨kv,h1,h2⟩:=Z50.mp q
   have h3:=List.find?_some h1
   simp only [decide_eq_true_eq] at h3
   exact Z44.mpr ⟨kv,List.mem_of_find?_eq_some h1,h3⟩
 rw [Z3g,e1,Z5c] at this
 exact this
noncomputable def Gp(W:Wd)(Cl:Addr)(name:Str):Prop:=findIn W.K (.ref Cl) "__setattr__" =some (some (.builtin "object.__setattr__"))/\plainOver W.K Cl=true/\takerIn W.K Cl name=some none/\(clsIn W.K Cl).any (·.hasDict)=true
noncomputable def setA(Cl:Addr)(name:Str)(v u:V):M Unit:=fun s=>(un V.ref v).bind fun n=>((s.hp n).bind (un Py)).bind fun p=>((s.hp p.2).bind (un O.attrs)).bind fun kvs =>
 if p.1=Cl/\u.low=true/\kvs.length<1000 then some ((),{s with hp:=upd s.hp p.2 (some (.attrs (Y6 kvs name u)))}) else none
theorem Wu{K:Type} [DecidableEq K]{α:Type}(kvs:List (K×α))(k:K)(v:α):(Y6 kvs k v).length<=kvs.length+1:=by
 unfold Y6;split<;>simp
inductive SetA(Cl:Addr)(name:Str)(v u:V)(st st':St):Prop
 |mk (n d:Nat) (kvs:List (Str×V)) (hv:v = .ref n) (q1:st.hp n=some (.inst Cl d)) (q2:st.hp d=some (.attrs kvs)) (hlow:u.low=true) (hlen:kvs.length<1000) (hs:st'={st with hp:=upd st.hp d (some (.attrs (Y6 kvs name u)))})
theorem Dt{Cl:Addr}{name:Str}{v u:V}{st st':St}{a:Unit}(e:setA Cl name v u st=some (a,st')):SetA Cl name v u st st':=by
 refine byC fun hG=>?_
 obtain⟨n,hv,e⟩:=ob e
 obtain⟨p,q1,e⟩:=ob e
 obtain⟨kvs,q2,e⟩:=ob e
 obtain⟨⟨hc,hlow,hlen⟩,e⟩:=io e
 obtain⟨o,q1,k1⟩:=ob q1
 obtain⟨o',q2,k2⟩:=ob q2
 injection e
 exact hG ⟨n,p.2,kvs,Zi hv,by rw [q1,Zi (f:=Py) k1,<-hc];rfl,by rw [q2,Zi k2],hlow,hlen,rfl⟩
theorem AttrsAre.set{W:Wd}{ζ:HM}{ρ:RM}{kvs:List (Str×V)}{es es':Array DictEntry}{name:Str}{u:V}{y:Value}(hat:AttrsAre W ζ ρ kvs es)(hk:StrKeys es')(hu:UniqKeys es')(hm : ∀ z,nsFind es' z=if z=name then some y else nsFind es z)(hlow:u.low=true)(ru:VR W ζ ρ u y):AttrsAre W ζ ρ (Y6 kvs name u) es':=by
 refine⟨hk,hu,fun z=>?_⟩
 rw [hm z,Xe]
 by_cases q:z=name
 ·subst q;rw [if_pos rfl,if_pos rfl];exact⟨hlow,y,rfl,ru⟩
 ·rw [if_neg q,if_neg q]
  have:=hat.2.2 z
  cases q3:Y1 kvs z with
  |none=>rw [q3] at this;exact this
  |some w=>rw [q3] at this;exact this
theorem Ds{Cl:Addr}{name:Str}{tk:Tok}(hok:Gp C.W Cl name){hY ζ:HM}{ρ:RM}{st:St}{s:Shared}{P:Shared->Prop}{E:Value->Shared->Prop}{v u:V}{x y:Value}(rel:Rel C hY ζ ρ st s.heap)(rv:VR C.W ζ ρ v x)(ru:VR C.W ζ ρ u y)
  {a:Unit} {st':St} (e:setA Cl name v u st=some (a,st')) (k : ∀ h' tk',Gr C.T s.heap ζ ρ h' ζ ρ->Rel C hY ζ ρ st' h'->P {s with heap:=h',toks:=tk'}) :
  ∃ ax ox od,x = .ref ax/\InstAt s.heap ax ox Cl od/\codeAny (model C.W.prog C.W.w) C.A (.call (.builtin "object.__setattr__") ⟨[.ref ax,.str name tk,y],[]⟩) (Fw (fun _ s'=>P s') E) s:=by
 refine byC fun hG=>?_
 obtain⟨n,d,kvs,rfl,q1,q2,hlow,hlen,rfl⟩:=Dt e
 obtain⟨h1,h2,h3,h4⟩:=hok
 refine hG ?_
 clear hG
 obtain⟨n',d',dx,es,m,od,e1,q1',q2',hdx,hod,hdat,hat,ax,hax,rfl,I⟩:=Mj rel (v:=.ref n) (Cl:=Cl) (kvs:=kvs) (Qa q1 q2) rv
 injection e1
 rw [q1] at q1';injection q1'
 refine⟨ax,_,_,rfl,I,osa_open rel.ok.1 I h2 h3 fun b=>?_⟩
 obtain⟨cd,hc,hd'⟩:=any_some h4
 have X:=rel.ok.1
 refine byC fun hG=>?_
 obtain⟨hx,-,-,-⟩:=I
 refine hG ?_
 clear hG
 refine Z5l (Z5p (Z5l (Z5l (wpAny_loadPart hx (Z5l ((looks_clsIn X hc).here ?_))))))
 rw [hd']
 refine Z5p (a:=some dx) (Z5l (Z5p (Z5l ?_)))
 have hns:s.heap.Ns1 dx (nsFind es):=⟨od,es,m,hod,hdat,hat.1,hat.2.1,fun _=>rfl⟩
 refine wpAny_nsSet1 hns fun h' hn' hs=>?_
 refine byC fun hG=>?_
 obtain⟨o',es',m',ho',hd2,hk',hu',hm'⟩:=hn'
 refine hG ?_
 clear hG
 have hat':AttrsAre C.W ζ ρ (Y6 kvs name u) es':=hat.set hk' hu' (fun z=>hm' z) hlow ru
 obtain⟨R',G'⟩:=rel.set hdx hs ho' (O:=.attrs (Y6 kvs name u)) ⟨es',m',hd2,hat'⟩
 refine Z5l (wpAny_lookBehind ho' (by
  rw [hd2]
  refine pastItsLine_dict ?_
  have e1:=Im hat'
  have e2:=Wu kvs name u
  rw [sizeLine_eq];exact ar47 hlen e1 e2) (Z5p ?_))
 exact k _ _ G' R'
theorem setA_K{Cl:Addr}{name:Str}(hok:Gp C.W Cl name){hY ζ:HM}{ρ:RM}{st:St}{s:Shared}{P:Unit->Shared->Prop}{E:Value->Shared->Prop}{v u:V}{x y:Value}(rel:Rel C hY ζ ρ st s.heap)(rv:VR C.W ζ ρ v x)(ru:VR C.W ζ ρ u y)
  {a:Unit} {st':St} (e:setA Cl name v u st=some (a,st')) (k : ∀ h' tk',Gr C.T s.heap ζ ρ h' ζ ρ->Rel C hY ζ ρ st' h'->P () {s with heap:=h',toks:=tk'}):wpAny (model C.W.prog C.W.w) C.A (setAttr x name y) P E s:=by
 refine byC fun hG=>?_
 obtain⟨ax,ox,od,rfl,I,hc⟩:=Ds (tk:=s.toks) (s:={s with toks:=s.toks+1}) (P:=fun s'=>P () s') (E:=E) hok rel rv ru e k
 refine hG ?_
 clear hG
 exact set_plain rel.ok.1 I hok.1 hc
theorem Yt{Cl:Addr}{o value:PySem.Expr}{name:Str}{pos' pos:Pos}{m mo:M V}(hok:Gp C.W Cl name)(h:Yb C (eval value C.env) m)(ho:Yb C (eval o C.env) mo)(hs:swapsWith value (some (.Attribute o name pos')) pos.line C.env=pure false:=by rfl) :
  Qi C (exec (.Assign [.Attribute o name pos'] value pos) C.env) (do let u<-m;let v<-mo;setA Cl name v u;pure .next):=by
 intro hY ζ ρ st s P E ok rel a st' e k
 refine byC fun hG=>?_
 obtain⟨u,s1,e1,e⟩:=Z6z e
 obtain⟨v,s2,e2,e⟩:=Z6z e
 obtain⟨_,s3,e3,e4⟩:=Z6z e
 injection e4
 refine hG ?_
 clear hG
 refine plainObj_wpAny_Assign_Attribute (h hY ζ ρ st s _ E ok rel u s1 e1 fun ζ1 ρ1 h1 tk1 y G1 rel1 r1=>?_) hs
 refine ho hY ζ1 ρ1 s1 _ _ E ok rel1 v s2 e2 fun ζ2 ρ2 h2 tk2 x G2 rel2 r2=>?_
 exact setA_K hok rel2 r2 (VR.gr rel1 G2 r1) e3 fun h3 tk3 G3 rel3=>k _ _ h3 tk3 _ (((G1.trans G2).trans G3).weak ok.bt) rel3 rfl
noncomputable def newM(n d:Nat)(Cl:Addr)(fm:FM)(vs:List V):M V:=do
 let _<-M.new d (.attrs [])
 let _<-M.new n (.inst Cl d)
 let r<-callM fm (.ref n::vs)
 M.guard r.isNone
 pure (.ref n)
theorem Mz{Cl fI:Addr}{B k n d:Nat}{fm:FM}(hf:Xo C.W (.ref fI) B k fm)(hB:C.T<=B)(hk:k+1<=C.k)(hm:makesIn C.W.K Cl=true)(hi:findIn C.W.K (.ref Cl) "__init__" =some (some (.ref fI)))(ht:typeIn C.W.K (.ref fI)=some (.type "function"))
  (hn:n<100) (hd:d<100) (hcT:100<=C.T):Fv C (.ref Cl) (newM n d Cl fm):=by
 intro hY ζ ρ st s P E vs xs ok rel ra v st' e kk
 refine byC fun hG=>?_
 obtain⟨_,s1,e1,e⟩:=Z6z e
 obtain⟨_,s2,e2,e⟩:=Z6z e
 obtain⟨r,s3,e3,e⟩:=Z6z e
 obtain⟨_,s4,e4,e5⟩:=Z6z e
 obtain⟨hg,q4⟩:=Z70 e4
 refine hG ?_
 clear hG
 injection q4;injection e5
 refine byC fun hG=>?_
 obtain⟨hd1,q⟩:=M.new_some e1
 injection q
 obtain⟨hn1,q⟩:=M.new_some e2
 injection q
 obtain⟨hh,g,dr,t,os⟩:=s
 obtain⟨R1,G1⟩:=rel.pushS d hd1 (by exact ar48 hd hcT) (.inl hd) (.attrs []) emptyDict rfl (emptyA _ _)
 refine hG ?_
 clear hG
 have hdx:upd ρ d (some hh.objs.size) d=some hh.objs.size:=Z4 _ _ _
 have hnd:n≠d:=by
  intro q
  subst q
  simp only [Z4] at hn1;injection hn1
 obtain⟨R2,G2⟩:=R1.pushS n hn1 (by exact ar48 hn hcT) (.inl hn) (.inst Cl d) (instObj Cl hh.objs.size) rfl ⟨hd,hh.objs.size,by rw [Z5 _ _ (Ne.symm hnd)];exact hdx,rfl⟩
 have hsz:(hh.push emptyDict).objs.size=hh.objs.size+1:=Heap.size_push ..
 refine wpAny_call (make_core (makes_of rel.ok.1 hm) (looks_findIn rel.ok.1 hi) (fun self=>bind_fn rel.ok.1 self ht) (.inl rfl) ?_)
 have room:Room (C.A.under (.builtin "type.__call__" ⟨.ref Cl::xs,[]⟩)) k:=by
  have w1:(Code.builtin "type.__call__" ⟨.ref Cl::xs,[]⟩).weight=1:=by rfl
  have w2:(Code.builtin "type.__call__" ⟨.ref Cl::xs,[]⟩).cUnits=1:=by rfl
  have h1:=ok.room.depth
  have h2:=ok.room.units
  refine⟨?_,?_,ok.room.handled⟩
  ·show C.A.depth+_+k<_;rw [w1];exact ar49 hk h1
  ·show C.A.units+_+8*k+100<_;rw [w2];exact ar50 hk h2
 have r2:VRa C.W ζ (upd (upd ρ d (some hh.objs.size)) n (some (hh.push emptyDict).objs.size)) (.ref n::vs) (.ref (hh.objs.size+1)::xs) :=
  ⟨_,_,rfl,by refine(?_:Exists _);exact⟨_,Z4 _ _ _,by rw [hsz]⟩,(ra.gr rel G1).gr R1 G2⟩
 refine codeAny_mono (Mh (P:=fun b s'=>b = .none/\Fw P E (.ok (.ret (.ref (hh.objs.size+1)))) s') (E:=E) hf hB room ok (s:=⟨(hh.push emptyDict).push (instObj Cl hh.objs.size),g,dr,t,os⟩) R2 r2 e3 fun ζ' ρ' h' tk' b' G3 R3 r3=>?_) fun r s' z=>?_
 ·have hb:b' = .none:=by
   cases r with
   |none=>exact r3
   |_=>injection hg
  refine⟨hb,?_⟩
  refine kk ζ' ρ' h' tk' _ ((G1.trans G2).trans G3) R3 ?_
  refine(?_:Exists _)
  exact⟨_,G3.rl n _ (by exact ar48 hn hcT) (Z4 _ _ _),by rw [hsz]⟩
 ·rcases r with e|(v|_|_|_)<;>first|exact z|exact z.elim
end Lay
namespace Lay
noncomputable def Hb{α:Type}(lt:Nat->Nat->Bool):KasT α->α
 |.ret a=>a
 |.ask i j k=>Hb lt (k (lt i j))
noncomputable def Gn(n:Nat)(lt:Nat->Nat->Bool){α:Type}:KasT α->Prop
 |.ret _=>True
 |.ask i j k=>i<n/\j<n/\Gn n lt (k (lt i j))
theorem N1{n:Nat}{lt:Nat->Nat->Bool}{α:Type}{cmp:Nat->Nat->(Bool->Shared->Prop)->Shared->Prop}{I:Shared->Prop}
  (hc : ∀ i j (C:Bool->Shared->Prop) s,i<n->j<n->I s->(∀ s',I s'->C (lt i j) s')->cmp i j C s) : ∀ {t:KasT α} {Q:α->Shared->Prop} {s:Shared},Gn n lt t->I s->(∀ s',I s'->Q (Hb lt t) s')->t.kasWp cmp Q s
 |.ret _,_,s,_,hI,h=>h s hI
 |.ask i j k,_,s,⟨h1,h2,h3⟩,hI,h=>hc i j _ s h1 h2 hI fun s' hI'=>N1 hc h3 hI' h
noncomputable abbrev gd(p:Array Nat)(i:Nat):Nat:=p.getD i 0
theorem gd_eq{p:Array Nat}{i:Nat}:gd p i=(p[i]?).getD 0:=by simp [Z57]
structure Ord(n:Nat)(lt:Nat->Nat->Bool):Prop where
 irr : ∀ i,lt i i=false
 tr : ∀ i j k,lt i j=true->lt j k=true->lt i k=true
 tot : ∀ i j,i<n->j<n->i≠j->lt i j=true\/lt j i=true
structure PermOf(n:Nat)(p:Array Nat):Prop where
 size:p.size=n
 lt : ∀ i,i<n->gd p i<n
 inj : ∀ i j,i<n->j<n->gd p i=gd p j->i=j
 perm:p.toList.Perm (Z4o n)
theorem PermOf.of{n:Nat}{p:Array Nat}(h:p.toList.Perm (Z4o n)):PermOf n p:=by
 have hs:p.size=n:=by have:=h.length_eq;simpa using this
 have hnd:p.toList.Nodup:=h.nodup_iff.mpr Z4f
 have key : ∀ i,i<n->p.toList[i]?=some (gd p i):=fun i hi=>by
  have hi':i<p.size:=by exact ar51 hs hi
  rw [gd_eq,Z5b,Z58 hi'];rfl
 refine⟨hs,fun i hi=>?_,fun i j hi hj e=>?_,h⟩
 ·have:=Z45 (key i hi)
  exact Z48.mp (h.mem_iff.mp this)
 ·have h1:=key i hi
  have h2:=key j hj
  rw [e,<-h2] at h1
  exact(Z2z (by simpa using (hs▸hi:i<p.size)) hnd).mp h1
noncomputable def L4(lt:Nat->Nat->Bool)(p:Array Nat)(k:Nat):Prop := ∀ i j,i<j->j<k->lt (gd p i) (gd p j)=true
section
variable{n:Nat}{lt:Nat->Nat->Bool}
noncomputable def roadB(n:Nat)(lt:Nat->Nat->Bool){α:Type}:KasT α->Bool
 |.ret _=>true
 |.ask i j k=>decide (i<n)&&(decide (j<n)&&roadB n lt (k (lt i j)))
theorem Dp{n:Nat}{lt:Nat->Nat->Bool}{α:Type}(t:KasT α):roadB n lt t=true->Gn n lt t:=by
 induction t with
 |ret _=>exact fun _=>trivial
 |ask i j k ih =>
  intro h
  have h1:=Bool.and_eq_true_iff.mp h
  have h2:=Bool.and_eq_true_iff.mp h1.2
  exact⟨of_decide_eq_true h1.1,of_decide_eq_true h2.1,ih _ h2.2⟩
theorem Dq{lt lt':Nat->Nat->Bool}{α:Type}(h : ∀ i j,i<n->j<n->lt i j=lt' i j)(t:KasT α):Gn n lt' t->Gn n lt t/\Hb lt t=Hb lt' t:=by
 induction t with
 |ret _=>exact fun _=>⟨trivial,rfl⟩
 |ask i j k ih =>
  intro q
  have r:=ih (lt i j) ((h i j q.1 q.2.1).symm▸q.2.2)
  exact⟨⟨q.1,q.2.1,r.1⟩,r.2.trans (congrArg (fun b=>Hb lt' (k b)) (h i j q.1 q.2.1))⟩
noncomputable def sortOk(n:Nat)(lt:Nat->Nat->Bool):Bool:=roadB n lt (kas_sort n)&&((Hb lt (kas_sort n)).toList.isPerm (Z4o n)&&decide (∀ j,j<n->∀ i,i<j->lt (gd (Hb lt (kas_sort n)) i) (gd (Hb lt (kas_sort n)) j)=true))
noncomputable def tab(l:List Bool)(i j:Nat):Bool:=if i<j then (l[j*(j-1)/2+i]?).getD false else if j<i then !((l[i*(i-1)/2+j]?).getD false) else false
noncomputable def trB(n:Nat)(lt:Nat->Nat->Bool):Bool:=(Z4o n).all fun i=>(Z4o n).all fun j => !(lt i j)||(Z4o n).all fun k => !(lt j k)||lt i k
noncomputable def allB:Nat->List (List Bool)
 |0 => [[]]
 |n+1=>(allB n).flatMap fun l => [true::l,false::l]
noncomputable def prs(n:Nat):List (Nat×Nat):=(Z4o n).flatMap fun j=>(Z4o j).map fun i=>(i,j)
theorem Aa(l:List Bool):l∈allB l.length:=by
 induction l with
 |nil=>exact Z49.mpr rfl
 |cons b r ih=>exact List.mem_flatMap.mpr ⟨r,ih,by cases b<;>simp⟩
theorem all5:((Z4o 6).all fun n=>n<2||(allB (prs n).length).all fun l => !(trB n (tab l))||sortOk n (tab l))=true:=by decide +kernel
theorem prs5 : ∀ n,n<6->∀ j,j<n->∀ i,i<j->(prs n)[j*(j-1)/2+i]?=some (i,j):=by decide +kernel
theorem As(O:Ord n lt)(h2:2<=n)(h5:n<6):Gn n lt (kas_sort n)/\PermOf n (Hb lt (kas_sort n))/\L4 lt (Hb lt (kas_sort n)) n:=by
 have up : ∀ i j,i<j->j<n->(((prs n).map fun q=>lt q.1 q.2)[j*(j-1)/2+i]?).getD false=lt i j:=fun i j a b=>by
  rw [Z30,prs5 n h5 j b i a];rfl
 have e : ∀ i j,i<n->j<n->lt i j=tab ((prs n).map fun q=>lt q.1 q.2) i j:=fun i j a b=>by
  unfold tab
  by_cases c:i<j
  ·rw [if_pos c,up i j c b]
  ·rw [if_neg c]
   by_cases d:j<i
   ·rw [if_pos d,up j i d a]
    cases q:lt i j with
    |false=>rw [(O.tot i j a b (Z1n d)).resolve_left (fun w=>Bool.noConfusion (q.symm.trans w))];rfl
    |true =>
     cases r:lt j i with
     |false=>rfl
     |true=>exact Bool.noConfusion ((O.irr i).symm.trans (O.tr i j i q r))
   ·rw [if_neg d,Z0v (Z10 d) (Z10 c),O.irr]
 have k:=Z27.mp all5 n (Z48.mpr h5)
 have tr:trB n (tab ((prs n).map fun q=>lt q.1 q.2))=true:=Z27.mpr fun i a=>Z27.mpr fun j b=>by
  have a:=Z48.mp a
  have b:=Z48.mp b
  rw [<-e i j a b]
  cases q:lt i j with
  |false=>rfl
  |true =>
   refine Z27.mpr fun k c=>?_
   have c:=Z48.mp c
   rw [<-e j k b c,<-e i k a c]
   cases r:lt j k with
   |false=>rfl
   |true=>rw [O.tr i j k q r];rfl
 have k2:=Z27.mp ((Bool.or_eq_true_iff.mp k).resolve_left (fun w=>Nat.not_lt.mpr h2 (of_decide_eq_true w))) ((prs n).map fun q=>lt q.1 q.2) (by
  have:=Aa ((prs n).map fun q=>lt q.1 q.2)
  rwa [Z3g] at this)
 rw [tr] at k2
 have k3:=Bool.and_eq_true_iff.mp k2
 have k4:=Bool.and_eq_true_iff.mp k3.2
 have c:=Dq e _ (Dp _ k3.1)
 have P:PermOf n (Hb lt (kas_sort n)):=.of (by rw [c.2];exact List.isPerm_iff.mp k4.1)
 refine⟨c.1,P,fun i j a b=>?_⟩
 rw [e _ _ (P.lt i (Z1h a b)) (P.lt j b),c.2]
 exact of_decide_eq_true k4.2 j b i a
end
end Lay
namespace Lay
section
variable{prog:Program}{w:World}{A:Around}{E:Value->Shared->Prop}{s:Shared}{d it:Addr}{es:Array DictEntry}{ep i:Nat}
theorem Lr{Q:Value->Shared->Prop}(hd:(d==sysModules)=false)(ho:s.heap.get? d=some (Gq es ep))
  (hQ:Q (.ref s.heap.objs.size) {s with heap:=s.heap.push {cls:=.type "dict_keyiterator",data:=.fields #[.ref d,.int 0 0,.int es.size 0,.int ep 0]}}):wpAny (model prog w) A (pyIter (.ref d)) Q E s:=by
 have hT:s.TypeIs (.ref d) "dict" :=⟨_,ho,rfl⟩
 refine wpAny_pyIter_slot hT PySem.F.slot_dict_iter (Z5m PySem.F.slot_dict_iter hT PySem.F.entry_dict_iter ?_ (PySem.F.args_dict_iter_1 _))
 unfold Builtin.«dict.__iter__»
 refine Z5l ?_
 unfold Builtin.Dict.dictSlotNone
 refine Z5l (wpAny_notOrdered_dict hT ?_)
 show wpAny _ _ (pure (Value.ref d)) _ _ s
 refine Z5p ?_
 show wpAny _ _ (Builtin.Dict.showsAll d>>=_) _ _ s
 unfold Builtin.Dict.showsAll
 rw [if_neg (by rw [hd];exact Z5t)]
 refine Z5l (Z5p (Z5l (wpAny_dictEntries ho rfl (Z5l (wpAny_dictEpoch ho rfl (Z5l (wpAny_newObj_type (Z5p ⟨_,rfl,"dict_keyiterator",_,⟨_,Z5i _ rfl,rfl⟩,PySem.F.slot_dict_keyiterator_next.lookup,hQ⟩))))))))
theorem Ls{Q:Option Value->Shared->Prop}(hit:s.heap.IsKeyIter it d i es.size ep)(ho:s.heap.get? d=some (Gq es ep))(hi:i<es.size)
  (hQ : ∀ h',h'.IsKeyIter it d (i+1) es.size ep->Z5g it s.heap h'->Q (some es[i].key) {s with heap:=h'}):wpAny (model prog w) A (pyNext (.ref it)) Q E s:=by
 refine byC fun hG=>?_
 obtain⟨o,hio,hc,hd⟩:=id hit
 refine hG ?_
 clear hG
 unfold pyNext
 refine Z5l (wpAny_attempt (wpAny_callSpecial?_slot (name:=Z5k "__next__") hit.typeIs PySem.F.slot_dict_keyiterator_next
  (Z5m PySem.F.slot_dict_keyiterator_next hit.typeIs PySem.F.entry_dict_keyiterator_next ?_ (PySem.F.args_dict_keyiterator_next_1 _))))
 refine Z5l (Z5p (Z5l (Z5l ?_)))
 first|refine Z5l (wpAny_typeNameOfWhole_keyiter hit.typeIs (Z5p ?_))|refine Z5l (wpAny_typeNameOf_keyiter hit.typeIs (Z5p ?_))
 refine Z5l (wpAny_fieldsOf hio hd ?_)
 rw [show Builtin.Dict_items.ownsTuple "dict_keyiterator" =false by decide,if_neg Z5t]
 show wpAny _ _ (if (Value.ref d==Value.none)=true then _ else _) _ _ s
 rw [if_neg (show ¬ ((Value.ref d==Value.none)=true) from Z5t)]
 refine Z5l (Z5p (Z5l (wpAny_dictEntries ho rfl ?_)))
 rw [if_neg (by simp)]
 refine Z5l (Z5p (Z5l (wpAny_dictEpoch ho rfl ?_)))
 rw [if_neg (by simp)]
 refine Z5p ?_
 simp only [show ¬ ((i:Int)<0) from by exact ar118,if_false,Z6v,Z58 hi]
 refine Z5l ?_
 first|refine Z5l (wpAny_typeNameOfWhole_keyiter hit.typeIs (Z5p ?_))|refine Z5l (wpAny_typeNameOf_keyiter hit.typeIs (Z5p ?_))
 refine Z5l (wpAny_isOneOf_keyiter hit.typeIs ?_)
 show wpAny _ _ (setField (.ref it) 1 (rawInt ((i:Int)+1))>>=_) _ _ s
 refine Z5l (wpAny_setField hio hd (by simp) ?_)
 have hit':(s.heap.update it (Obj.mapFields (·.setIfInBounds 1 (rawInt ((i:Int)+1))))).IsKeyIter it d (i+1) es.size ep :=
  ⟨_,Heap.get?_update_self _ hio (Obj.isFreed_of_fields (Obj.data_mapFields hd _)),(Obj.cls_mapFields ..).trans hc,by rw [Obj.data_mapFields hd];simp [rawInt]⟩
 refine Z5l (Z5n (Z5l (wpAny_isOneOf_keyiter (s:={s with heap:=s.heap.update it (Obj.mapFields (·.setIfInBounds 1 (rawInt ((i:Int)+1))))}) hit'.typeIs ?_)))
 show wpAny _ _ (pure es[i].key) _ _ _
 exact Z5p (Z5p ⟨_,rfl,Z5p (hQ _ hit' (Z5g.update ..))⟩)
theorem D6{Q:Option Value->Shared->Prop}(hh:A.handled=none)(hit:s.heap.IsKeyIter it d es.size es.size ep)(ho:s.heap.get? d=some (Gq es ep))
  (hQ : ∀ h',Heap.ExtBut it s.heap h'->Q none {s with heap:=h'}):wpAny (model prog w) A (pyNext (.ref it)) Q E s:=by
 refine byC fun hG=>?_
 obtain⟨o,hio,hc,hd⟩:=id hit
 refine hG ?_
 clear hG
 unfold pyNext
 refine Z5l (wpAny_attempt (wpAny_callSpecial?_slot (name:=Z5k "__next__") hit.typeIs PySem.F.slot_dict_keyiterator_next
  (Z5m PySem.F.slot_dict_keyiterator_next hit.typeIs PySem.F.entry_dict_keyiterator_next ?_ (PySem.F.args_dict_keyiterator_next_1 _))))
 refine Z5l (Z5p (Z5l (Z5l ?_)))
 first|refine Z5l (wpAny_typeNameOfWhole_keyiter hit.typeIs (Z5p ?_))|refine Z5l (wpAny_typeNameOf_keyiter hit.typeIs (Z5p ?_))
 refine Z5l (wpAny_fieldsOf hio hd ?_)
 rw [show Builtin.Dict_items.ownsTuple "dict_keyiterator" =false by decide,if_neg Z5t]
 show wpAny _ _ (if (Value.ref d==Value.none)=true then _ else _) _ _ s
 rw [if_neg (show ¬ ((Value.ref d==Value.none)=true) from Z5t)]
 refine Z5l (Z5p (Z5l (wpAny_dictEntries ho rfl ?_)))
 rw [if_neg (by simp)]
 refine Z5l (Z5p (Z5l (wpAny_dictEpoch ho rfl ?_)))
 rw [if_neg (by simp)]
 refine Z5p ?_
 simp only [show ¬ ((es.size:Int)<0) from by exact ar118,if_false,Z6v,Z59 (Z12 es.size)]
 refine Z5l ?_
 first|refine Z5l (wpAny_typeNameOfWhole_keyiter hit.typeIs (Z5p ?_))|refine Z5l (wpAny_typeNameOf_keyiter hit.typeIs (Z5p ?_))
 show wpAny _ _ (setField (.ref it) 0 .none>>=_) _ _ s
 refine Z5l (wpAny_setField hio hd (by simp) ?_)
 show wpAny _ _ (newExc (.type "StopIteration") []>>=_) _ _ _
 refine Z5l ?_
 simp only [newExc,newTuple]
 refine Z5l (wpAny_newObj_type ?_ (by size_fits))
 refine Z5l (m:=firstArgMember _ _) (Z5o (a:=Value.none) (by first|rfl|(simp only [firstArgMember];rfl)) ?_)
 refine wpAny_newObj_type ?_ (by size_fits)
 unfold raiseNew
 dsimp only
 refine Z5l (wpAny_handled ?_)
 rw [show A.in1.handled=none from hh]
 refine Z5l (Z5p (wpAny_throw ?_))
 refine Z5l (wpAny_isInstance (T := "StopIteration") (b:=true) ⟨_,Z5i _ rfl,rfl⟩ isSubtype_stop ?_)
 exact Z5p (hQ _ (((Z5g.update ..).extBut.push _).push _))
theorem Lh(lo:(d==sysModules)=false):KdlSrc prog w "dict" d d es.size (fun i v => ∃ e,es[i]?=some e/\v=e.key) (fun h=>h.get? d=some (Gq es ep)) where
 type:=fun _ ho=>⟨_,ho,rfl⟩
 there:=fun _ ho=>⟨Z5j ho,Z5j ho⟩
 keep:=fun _ _ ho hk=>hk d (.inl rfl) _ ho
 notList:=by decide
 notTuple:=by decide
 hint:=fun _ _ _ _ ho hq=>kdl_hint_dict ⟨_,ho,rfl⟩ hq
 iter:=fun A s hh ho=>⟨_,fun i h=>h.IsKeyIter s.heap.objs.size d i es.size ep/\h.get? d=some (Gq es ep),(fun _ _ hq=>Lr lo ho hq),{
   sub:=fun b hb=>by simp at hb;simp [hb]
   frame:=fun _ _ _ st hk=>⟨st.1.at fun o e=>hk _ (by simp) o e,hk d (by simp) _ st.2⟩
   item:=fun i s' Q E hi st hQ=>by
    refine Ls st.1 st.2 hi fun h' hit' hs'=>?_
    have hne:d≠s.heap.objs.size:=Z1o (Z5j ho)
    exact hQ _ h' s'.toks ⟨_,Z58 hi,rfl⟩ ⟨hit',(hs'.2 d hne).trans st.2⟩ fun b o hb e=>hs'.extBut b o (fun h=>hb (by simp [h])) e
   done:=fun s' Q E st hQ=>D6 hh st.1 st.2 fun h' he'=>hQ h' s'.toks fun b o hb e=>he' b o (fun h=>hb (by simp [h])) e
   self:=fun _ _ _ _ st hQ=>wpAny_pyIter_keyiter st.1 hQ},⟨⟨_,Z5i _ rfl,rfl,rfl⟩,Z5h _ ho⟩⟩
theorem B5{T:String}{r:Addr}{n:Nat}{P:Nat->Value->Prop}{OK:Heap->Prop}{Q:List Value->Shared->Prop}(K:KdlSrc prog w T r d n P OK)(hh:A.handled=none)(hok:OK s.heap)(hn:n<=sizeLine)
  (hQ : ∀ h' tk acc,(∀ b o,s.heap.get? b=some o->h'.get? b=some o)->ItemsOf P acc n->Q acc.toList {s with heap:=h',toks:=tk}):wpAny (model prog w) A (collect (.ref r)) Q E s:=by
 obtain⟨hr,hd⟩:=K.there _ hok
 unfold collect
 refine Z5l (wpAny_runValue (codeAny_builtin PySem.F.entry_proto_collect ?_))
 rw [Around.under_plainId PySem.F.plain_proto_collect _]
 show wpAny _ A.in1 (newList []>>=fun l=>again (.builtin "list.__iadd__" ⟨[l,.ref r],[]⟩)) _ _ s
 refine Z5l (wpAny_newObj_type (Z5p ⟨plainId_quiet PySem.F.plain_list_iadd _,codeAny_builtin PySem.F.entry_list_iadd ?_⟩))
 rw [Around.under_plainId PySem.F.plain_list_iadd _]
 have hS:(s.heap.push {cls:=.type "list",data:=.seq ([]:List Value).toArray}).get? s.heap.objs.size=some {cls:=.type "list",data:=.seq #[] 0}:=Z5i _ rfl
 have ext:=kdl_extend (A:=A) (s:={s with heap:=s.heap.push {cls:=.type "list",data:=.seq ([]:List Value).toArray}})
  (R:=fun r s' => ∃ h' tk acc c',r = .ok (.ret (.ref s.heap.objs.size))/\s'={s with heap:=h',toks:=tk}/\(∀ b o,s.heap.get? b=some o->h'.get? b=some o)/\
   h'.get? s.heap.objs.size=some {cls:=.type "list",dict:=none,data:=.seq acc c',slots := #[]}/\ItemsOf P acc n)
  K hh (K.keep _ _ hok fun b _ o e=>Z5h _ e) s.heap.objs.size (Z1n hr) (Z1n hd) (.ref s.heap.objs.size) 0 hS
  (fun h' tk acc c' hk hS' hit=>⟨h',tk,acc,c',rfl,rfl,fun b o e=>hk b o (Z1o (Z5j e)) (Z5h _ e),hS',hit⟩) hn
 refine wpAny_mono ext (fun fin s' hf=>?_) fun e s' he=>by obtain⟨_,_,_,_,he,_⟩:=he;injection he
 cases fin with
 |done f =>
  refine byC fun hG=>?_
  obtain⟨h',tk,acc,c',e,rfl,hk,hS',hit⟩:=hf
  injection e
  refine hG ?_
  clear hG
  show wpAny _ A (load s.heap.objs.size>>=_) _ _ _
  exact Z5l (wpAny_load hS' (Z5p (hQ h' tk acc hk hit)))
 |again c =>
  refine⟨hf.1,codeAny_mono hf.2 fun r s' hr=>?_⟩
  refine byC fun hG=>?_
  obtain⟨h',tk,acc,c',rfl,rfl,hk,hS',hit⟩:=hr
  refine hG ?_
  clear hG
  show wpAny _ A (load s.heap.objs.size>>=_) _ _ _
  exact Z5l (wpAny_load hS' (Z5p (hQ h' tk acc hk hit)))
end
end Lay
namespace Lay
variable{C:Cx}
noncomputable def Jo(v:V)(st:St):Option (List V):=(un V.tup v).or ((Wv v st).or (((K4 v st).bind fun kvs=>some (kvs.map fun kv=>V.int kv.1)).or ((C4 v st).bind fun kvs=>some (kvs.map fun kv=>V.tup (kv.1.map .int)))))
theorem VRs.of_get{W:Wd}{ζ:HM}{ρ:RM}{v:List V} : ∀ {x:List Value},v.length=x.length->(∀ (i:Nat) u y,v[i]?=some u->x[i]?=some y->u.low=true/\VR W ζ ρ u y)->VRs W ζ ρ v x:=by
 induction v with
 |nil =>
  intro x hl h
  cases x with
  |nil=>rfl
  |cons y ys=>exact absurd hl.symm (Nat.succ_ne_zero _)
 |cons a r ih =>
  intro x hl h
  cases x with
  |nil=>exact absurd hl (Nat.succ_ne_zero _)
  |cons y ys =>
   obtain⟨h1,h2⟩:=h 0 a y rfl rfl
   exact⟨y,ys,rfl,h1,h2,ih (Nat.succ.inj hl) fun i u z e1 e2=>h (i+1) u z e1 e2⟩
theorem Kb{W:Wd}{k:Int}{v:Value}(h:(intKind W.prog W.w).is k v=true) : ∃ t,v = .int k t:=by
 cases v with
 |int i t =>
  have e:i=k:=by simpa [intKind,Value.isInt] using h
  exact⟨t,by rw [e]⟩
 |_=>simp [intKind,Value.isInt] at h
theorem H2{W:Wd}{ζ:HM}{ρ:RM}{k:List Int}{ys:List Value}(h:ItemsAre (intKind W.prog W.w) k ys):VRs W ζ ρ (k.map .int) ys:=by
 induction h with
 |nil=>rfl
 |cons h1 _ ih =>
  obtain⟨t,rfl⟩:=Kb h1
  exact⟨_,_,rfl,rfl,⟨t,rfl⟩,ih⟩
theorem Rl{W:Wd}{ζ:HM}{ρ:RM}{es:Array DictEntry}{kys:List (Int×Value)}{kvs:List (Int×V)}(h:Ent W (intKind W.prog W.w) es kys)(hk:VRk W ζ ρ kvs kys):VRs W ζ ρ (kvs.map fun kv=>.int kv.1) (es.toList.map (·.key)):=by
 have hlen:es.toList.length=kys.length:=h.2.1.length
 refine VRs.of_get (by simp only [Z3g];rw [hlen,hk.length]) fun i u y e1 e2=>?_
 rw [Z30] at e1 e2
 refine byC fun hG=>?_
 obtain⟨kv,e3,rfl⟩:=Z50.mp e1
 obtain⟨en,e4,rfl⟩:=Z50.mp e2
 refine hG ?_
 clear hG
 have hi:i<kys.length:=by rw [<-hlen];exact(Z2y.mp e4).1
 have e5:kys[i]?=some kys[i]:=Z2v hi
 have h1:=(h.2.1.get? e4 (by rw [e5])).1
 have h2:kys[i].1=kv.1:=by
  have:=congrArg (·[i]?) hk.keys
  simp only [Z30,e5,e3,Z52,Option.some.injEq] at this
  exact this
 rw [h2] at h1
 obtain⟨t,ht⟩:=Kb h1
 exact⟨rfl,by refine(?_:Exists _);exact⟨t,ht⟩⟩
theorem Tu{W:Wd}{ζ:HM}{ρ:RM} : ∀ {kvs:List (List Int×V)} {kys:List (List Int×Addr×Value)},TKeys W ζ ρ kvs kys->VRs W ζ ρ (kvs.map fun kv=>.tup (kv.1.map .int)) ((kys.map (entryOfKey (tupleKind (intKind W.prog W.w)))).map (·.key))
 | [],_,h=>by change _=_ at h;subst h;rfl
 |(k,v)::r,_,hH=>by
  refine byC fun hG=>?_
  obtain⟨a,y,r',ks,o,e,h0,ht,h1,hl,h2,h3⟩:=hH
  subst e
  refine hG ?_
  clear hG
  refine(?_:Exists _)
  exact⟨_,_,rfl,rfl,by refine(?_:Exists _);exact⟨a,o,ks,rfl,h0,ht,H2 h1⟩,Tu h3⟩
theorem E8{hY ζ:HM}{ρ:RM}{st:St}{h:Heap}(rel:Rel C hY ζ ρ st h){v:V}{x:Value}{xs:List V}(e:Jo v st=some xs)(r:VR C.W ζ ρ v x) :
  (∃ a T o ys n,x = .ref a/\(T = "list" \/T = "tuple")/\h.get? a=some o/\o.cls = .type T/\o.data = .seq ys n/\VRs C.W ζ ρ xs ys.toList)\/
  (∃ a es n,x = .ref a/\(a==sysModules)=false/\h.get? a=some (Gq es n)/\VRs C.W ζ ρ xs (es.toList.map (·.key))):=by
 have nsys : ∀ {n:Nat} {a:Addr},ρ n=some a->(a==sysModules)=false:=fun h1=>beq_eq_false_iff_ne.mpr fun q=>rel.sysr _ (q▸h1)
 refine byC fun hG=>?_
 rcases oro e with e|e
 ·rw [Zi e] at r
  obtain⟨a,o,ys',rfl,h1,⟨hc,n,hd⟩,h2⟩:=r
  exact hG (.inl ⟨a,"tuple",o,ys',n,rfl,.inr rfl,rel.frozen _ _ h1,hc,hd,h2⟩)
 rcases oro e with e|e
 ·obtain⟨a,ys,n,rfl,h1,h2⟩:=Kc rel e r
  exact hG (.inl ⟨a,"list",_,ys,n,rfl,.inl rfl,h1,rfl,rfl,h2⟩)
 rcases oro e with e|e
 ·obtain⟨kvs,e1,q⟩:=ob e
  injection q with q
  subst q
  rcases oro e1 with e|e
  ·rw [Zi e] at r
   obtain⟨a,es,n,kys,rfl,h1,h2,h3⟩:=r
   exact hG (.inr ⟨a,es,n,rfl,beq_eq_false_iff_ne.mpr fun q=>by rw [q,rel.sysz] at h1;injection h1,rel.frozen _ _ h1,Rl h2 (VRk_p.mpr h3)⟩)
  ·obtain⟨n,rfl,q⟩:=Wz e
   obtain⟨a',h1',rfl⟩:=r
   obtain⟨a,o,h1,h2,es,n',kys,rfl,h3,h4⟩:=rel.slot n _ q
   obtain rfl:a=a':=Z54 (h1.symm.trans h1')
   exact hG (.inr ⟨a,es,n',rfl,nsys h1,h2,Rl h3 h4⟩)
 ·obtain⟨kvs,e1,q⟩:=ob e
  injection q with q
  subst q
  obtain⟨n,rfl,q⟩:=Wz e1
  obtain⟨a',h1',rfl⟩:=r
  obtain⟨a,o,h1,h2,es,n',kys,rfl,h3,h4,h5⟩:=rel.slot n _ q
  obtain rfl:a=a':=Z54 (h1.symm.trans h1')
  exact hG (.inr ⟨a,es,n',rfl,nsys h1,h2,by rw [h3];exact Tu h5⟩)
theorem Lo{es:Array DictEntry}{acc:Array Value}(h:ItemsOf (fun i v => ∃ e,es[i]?=some e/\v=e.key) acc es.size):acc.toList=es.toList.map (·.key):=by
 apply Z2m
 intro i
 rw [Z30,Z5b,Z5b]
 cases q:acc[i]? with
 |none =>
  rw [Array.getElem?_eq_none_iff] at q
  rw [Z59 (by rw [<-h.1];exact q)];rfl
 |some v =>
  obtain⟨e,h1,h2⟩:=h.2 i v q
  rw [h1,h2];rfl
theorem Fd{hY ζ:HM}{ρ:RM}{st:St}{s:Shared}{A:Around}(rel:Rel C hY ζ ρ st s.heap){v:V}{x:Value}{xs:List V}(hh:A.handled=none)(e:Jo v st=some xs)(r:VR C.W ζ ρ v x)(hl:xs.length<=lim){Q:List Value->Shared->Prop}{E:Value->Shared->Prop}
  (hQ : ∀ h' tk vs,(∀ b o,s.heap.get? b=some o->h'.get? b=some o)->VRs C.W ζ ρ xs vs->Q vs {s with heap:=h',toks:=tk}):wpAny (model C.W.prog C.W.w) A (collect x) Q E s:=by
 rcases E8 rel e r with⟨a,T,o,ys,n,rfl,hT,ho,hc,hd,hr⟩|⟨a,es,n,rfl,lo,ho,hr⟩
 ·have hz:ys.size=xs.length:=by rw [<-hr.length];simp
  exact wpAny_collect_seq a hT ho hc hd (fun h' hk=>hQ h' s.toks _ hk hr) (hz▸J3 hl)
 ·have hz:es.size=xs.length:=by rw [<-hr.length];simp
  exact B5 (OK:=fun h=>h.get? a=some (Gq es n)) (Lh lo) hh ho (hz▸J3 hl) fun h' tk acc hk hi=>by rw [Lo hi];exact hQ h' tk _ hk hr
noncomputable def one(g:V->M V)(vs:List V):M V:=fun s=>(un (fun v => [v]) vs).bind fun v=>g v s
theorem un_one{v:V}:un (fun v => [v]) [v]=some v:=Ym (f:=fun v => [v]) fun _ _ e=>List.head_eq_of_cons_eq e
theorem Nh{f:Value}{g:V->M V}(h:Pb C C.T (VR C.W) (fun x=>call f [x]) g (VR C.W)):Fv C f (one g):=by
 intro hY ζ ρ st s P E vs xs ok rel ra v st' e k
 refine byC fun hG=>?_
 obtain⟨u,q,e⟩:=ob e
 rw [Zi (f:=fun v => [v]) q] at ra
 obtain⟨x,_,rfl,r,rfl⟩:=ra
 exact hG (h hY ζ ρ st s P E u x ok rel r v st' e k)
noncomputable def N7(v:V)(st:St):Option Nat:=((un V.tup v).bind fun xs=>some xs.length).or (((Wv v st).bind fun xs=>some xs.length).or ((K4 v st).bind fun kvs=>some kvs.length))
noncomputable def T0:List V->M V:=one fun v s=>(N7 v s).bind fun n=>if n<=lim then some (.int n,s) else none
theorem V8:Fv C (.builtin "len") T0:=Nh <|by
 intro hY ζ ρ st s P E u x ok rel r v st' e k
 refine byC fun hG=>?_
 obtain⟨n,hn,e⟩:=ob e
 obtain⟨hl,e⟩:=io e
 injection e
 have hb:lim<2^63:=by decide
 have done : ∀ (m:Nat) (t:Tok) (tk:Nat),m=n->P (.int (m:Int) t) {s with toks:=tk}:=fun m t tk hm=>by
  rw [hm];exact k ζ ρ s.heap _ _ (Gr.refl _ _ _ _) rel (Exists.intro _ rfl)
 rcases oro hn with q|hn
 ·obtain⟨l,h1,q⟩:=ob q
  injection q with q
  subst q
  rw [Zi h1] at r
  obtain⟨a,ys,rfl,ht,hr⟩:=Fj rel r
  have hz:ys.size=l.length:=by rw [<-hr.length];simp
  exact hG (PyProof.Rows.len_tuple ht (by rw [hz];exact ar119 hb hl hz) (done _ _ _ hz))
 rcases oro hn with q|hn
 ·obtain⟨l,h1,q⟩:=ob q
  injection q with q
  subst q
  obtain⟨a,ys,rfl,ht,hr⟩:=Jw rel h1 r
  have hz:ys.size=l.length:=by rw [<-hr.length];simp
  exact hG (Calls.call_len_list ht (by rw [hz];exact ar119 hb hl hz) (done _ _ _ hz))
 ·obtain⟨l,h1,q⟩:=ob hn
  injection q with q
  subst q
  obtain⟨a,kys,rfl,hsys,hdict,hk⟩:=Ul rel h1 r
  exact hG (call_len_dict hsys hdict (by rw [hk.length];exact ar120 hb hl) (done _ _ _ hk.length))
noncomputable def Rg:List V->M V:=one fun v s=>(un V.int v).bind fun i=>some (.int (if i<0 then -i else i),s)
theorem Vz:Fv C (.builtin "abs") Rg:=Nh <|by
 intro hY ζ ρ st s P E u x ok rel r v st' e k
 refine byC fun hG=>?_
 obtain⟨i,h,e⟩:=ob e
 rw [Zi h] at r
 obtain⟨t,rfl⟩:=r
 injection e
 exact hG (call_abs_int fun u tk=>k ζ ρ s.heap _ _ (Gr.refl _ _ _ _) rel (Exists.intro _ rfl))
noncomputable def Ux(vs:List V):M V:=fun s=>(un (fun n:Int => [V.int n]) vs).elim ((un (fun p:Int×Int => [V.int p.1,V.int p.2]) vs).bind fun p=>some (.rng p.1 p.2 1,s)) fun n=>some (.rng 0 n 1,s)
theorem Ki:Fv C (.type "range") Ux:=by
 intro hY ζ ρ st s P E vs xs ok rel ra v st' e k
 unfold Ux at e
 refine byC fun hG=>?_
 cases w:un (fun n:Int => [V.int n]) vs with
 |some n =>
  rw [w] at e
  injection e
  rw [Zi (f:=fun n:Int => [V.int n]) w] at ra
  obtain⟨x,_,rfl,r,rfl⟩:=ra
  obtain⟨t,rfl⟩:=r
  obtain⟨R',G'⟩:=rel.pushZ {cls:=.type "range",data:=.fields #[.int 0 s.toks,.int n t,.int 1 (s.toks+1)]} rfl
  exact hG (call_range_1 (k _ _ _ _ _ G' R' (by refine(?_:Exists _);exact⟨_,_,_,_,rfl,Z4 _ _ _⟩)))
 |none =>
  rw [w] at e
  obtain⟨⟨a,b⟩,w,e⟩:=ob e
  injection e
  rw [Zi (f:=fun p:Int×Int => [V.int p.1,V.int p.2]) w] at ra
  obtain⟨x,_,rfl,r,y,_,rfl,r2,rfl⟩:=ra
  obtain⟨t,rfl⟩:=r
  obtain⟨u,rfl⟩:=r2
  obtain⟨R',G'⟩:=rel.pushZ {cls:=.type "range",data:=.fields #[.int a t,.int b u,.int 1 s.toks]} rfl
  exact hG (call_range_2 (k _ _ _ _ _ G' R' (by refine(?_:Exists _);exact⟨_,_,_,_,rfl,Z4 _ _ _⟩)))
end Lay
namespace Lay
variable{C:Cx}
theorem Rel.keepAll{hY ζ:HM}{ρ:RM}{st:St}{h h':Heap}(R:Rel C hY ζ ρ st h)(keep : ∀ b o,h.get? b=some o->h'.get? b=some o):Rel C hY ζ ρ st h'/\Gr C.T h ζ ρ h' ζ ρ:=by
 refine⟨R.off (fun _=>False) (fun b o _ e=>keep b o e) (fun _ x=>x.elim) (fun _ _ _ x=>x),Gr.heap fun a e=>?_⟩
 cases q:h.get? a with
 |none=>exact absurd q e
 |some o=>rw [keep a o q];exact Z53 _
noncomputable def L7:List V->M V:=one fun v s=>(Wv v s).bind fun xs=>mkTup xs s
theorem L8:Fv C (.type "tuple") L7:=Nh <|by
 intro hY ζ ρ st s P E u x ok rel r v st' e k
 refine byC fun hG=>?_
 obtain⟨l,hl,e⟩:=ob e
 obtain⟨_,s2,e3,e4⟩:=Z6z e
 injection e4
 obtain⟨hg,hs⟩:=Z70 e3
 injection hs
 simp only [Z5q,decide_eq_true_eq] at hg
 obtain⟨a,ys,rfl,ht,hr⟩:=Jw rel hl r
 have hz:ys.size=l.length:=by rw [<-hr.length];simp
 refine hG (call_tuple_list ht (fun h' hk=>?_) (hz▸J3 hg.2))
 obtain⟨R1,G1⟩:=rel.keepAll hk
 obtain⟨R2,G2⟩:=R1.pushZ {cls:=.type "tuple",data:=.seq ys} rfl
 refine k _ _ _ _ _ (G1.trans G2) R2 ?_
 refine(?_:Exists _)
 exact⟨_,_,ys,rfl,Z4 _ _ _,⟨rfl,0,rfl⟩,VRs.mono G2.zl (fun _ _ _ q=>q) _ _ hr⟩
theorem Uo{hY ζ:HM}{ρ:RM}{st st':St}{h h':Heap}{c:Option Nat}{vs:List V}{ys:Array Value}{n:Nat}{v:V}(rel:Rel C hY ζ ρ st h)(hc:Vd C c)(e:Wl c vs st=some (v,st'))(r:VRs C.W ζ ρ vs ys.toList)
  {D:Addr} (hD:h.objs.size<=D) (keep : ∀ b o,h.get? b=some o->h'.get? b=some o) (ho:h'.get? D=some {cls:=.type "list",dict:=none,data:=.seq ys n,slots := #[]}) : ∃ ζ' ρ',Gr C.T h ζ ρ h' ζ' ρ'/\Rel C hY ζ' ρ' st' h'/\VR C.W ζ' ρ' v (.ref D):=by
 have hn:h.get? D=none:=by
  cases q:h.get? D with
  |none=>rfl
  |some o=>exact absurd (Z5j q) (Nat.not_lt.mpr hD)
 have off:=rel.offNew hn
 have sys:=rel.not_sys hD
 obtain⟨R1,G1⟩:=rel.keepAll keep
 exact Km R1 hc e r ho ⟨n,by simp⟩ ⟨off.z,off.k,off.r,off.p⟩ sys hn G1.dm
noncomputable def E1(c:Option Nat):List V->M V:=one fun v s=>(Jo v s).bind fun xs=>Wl c xs s
theorem H4{c:Option Nat}{xs:List V}{st:St}{r}(e:Wl c xs st=some r):xs.length<=lim:=by
 refine byC fun hG=>?_
 obtain⟨_,s2,e3,e4⟩:=Z6z e
 obtain⟨hg,_⟩:=Z70 e3
 refine hG ?_
 clear hG
 simp only [Z5q,decide_eq_true_eq] at hg
 exact hg.2
theorem E2{c:Option Nat}(hc:Vd C c):Fv C (.type "list") (E1 c):=Nh <|by
 intro hY ζ ρ st s P E u x ok rel r v st' e k
 refine byC fun hG=>?_
 obtain⟨l,hl,e⟩:=ob e
 have hlen:=H4 e
 rcases E8 rel hl r with⟨a,T,o,ys,n,rfl,hT,ho,hcl,hdt,hr⟩|⟨a,es,n,rfl,lo,ho,hr⟩
 ·have hz:ys.size=l.length:=by rw [<-hr.length];simp
  refine hG (call_list_seq a hT ho hcl hdt (fun h' c' hk ho'=>?_) (hz▸J3 hlen))
  obtain⟨ζ',ρ',G',R',V'⟩:=Uo rel hc e hr (Z12 _) hk ho'
  exact k _ _ _ _ _ G' R' V'
 ·have hz:es.size=l.length:=by rw [<-hr.length];simp
  refine hG (kdl_call (OK:=fun h=>h.get? a=some (Gq es n)) (Lh lo) ok.room.handled ho (hz▸J3 hlen) fun h' tk acc c' hk ho' hit=>?_)
  rw [<-Lo hit] at hr
  obtain⟨ζ',ρ',G',R',V'⟩:=Uo rel hc e hr (Z12 _) hk ho'
  exact k _ _ _ _ _ G' R' V'
noncomputable def Gj(l:List Int):List Int:=l.mergeSort (fun a b=>decide (a<=b))
theorem Uh(l:List Int):(Gj l).Perm l:=Z4a ..
theorem Fi(l:List Int):(Gj l).Pairwise (· <= ·):=by
 have:=Z4j (le:=fun a b:Int=>decide (a<=b)) (fun a b c h1 h2=>by simp only [decide_eq_true_eq] at *;exact ar123 h1 h2) (fun a b=>by simp only [Z5x,decide_eq_true_eq];exact ar124) l
 exact this.imp fun h=>by simpa using h
theorem U5{a l:List Int}(hp:a.Perm l)(hs:a.Pairwise (· <= ·)):a=Gj l:=ksm_same (hp.trans (Uh l).symm) hs (Fi l)
theorem Qw{W:Wd}{ζ:HM}{ρ:RM}{vs:List V}{l:List Int}{ys:List Value}(e:Uc vs=some l)(h:VRs W ζ ρ vs ys):IntsAre ys l:=by
 rw [Zi e] at h
 clear e
 induction l generalizing ys with
 |nil=>change _=_ at h;subst h;exact .nil
 |cons i r ih =>
  refine byC fun hG=>?_
  obtain⟨y,r',rfl,_,⟨t,rfl⟩,h2⟩:=h
  exact hG (.cons i t (ih h2))
theorem Kk{W:Wd}{ζ:HM}{ρ:RM}{l:List Int}{ys:List Value}(h:IntsAre ys l):VRs W ζ ρ (l.map .int) ys:=by
 induction h with
 |nil=>rfl
 |cons i t h ih=>refine(?_:Exists _);exact⟨_,_,rfl,rfl,⟨t,rfl⟩,ih⟩
theorem Vi{vs:List V}{l:List Int}(e:Uc vs=some l):l.length=vs.length:=by rw [Zi e,Z3g]
noncomputable def M9(c:Option Nat):List V->M V:=one fun v s=>(Jo v s).bind fun xs=>(Uc xs).bind fun l=>if l.length<64 then Wl c ((Gj l).map .int) s else none
theorem Gk{h:Heap}{a:Addr}{vs:List Value}{out:Array Value}{xs:Array Value}{n:Nat}(ho:h.get? a=some (seqObj "list" xs n)) :
  (∃ n',(sortedHeap h a vs out).get? a=some (seqObj "list" out n'))/\∀ b o,b≠a->h.get? b=some o->(sortedHeap h a vs out).get? b=some o:=by
 unfold sortedHeap
 have h1:=get?_update_seq ho (fun _ => #[])
 have h2:=Yd _ (seqObj "list" #[] 0) _ _ (Yd _ (seqObj "tuple" vs.toArray 0) _ _ h1)
 exact⟨⟨_,get?_update_seq h2 fun _=>out⟩,fun b o hb e=>(Heap.get?_update_other _ _ (Ne.symm hb)).trans (Yd _ _ _ _ (Yd _ _ _ _ ((Heap.get?_update_other _ _ (Ne.symm hb)).trans e)))⟩
theorem E3{c:Option Nat}(hc:Vd C c):Fv C (.builtin "sorted") (M9 c):=Nh <|by
 intro hY ζ ρ st s P E u x ok rel r v st' e k
 refine byC fun hG=>?_
 obtain⟨l,hl,e⟩:=ob e
 obtain⟨ns,hns,e⟩:=ob e
 obtain⟨h64,e⟩:=io e
 refine hG ?_
 clear hG
 have hlen:l.length=ns.length:=(Vi hns).symm
 refine Calls.call_function_entry kind_sorted plain_sorted entry_sorted (args_sorted1 _) ?_
 unfold Builtin.«sorted»
 refine Z5l (m:=checkCount "sorted" 1 1 _) (Z5p ?_)
 refine Z5l (Fd (A:=C.A.in1) rel ok.room.handled hl r (by rw [hlen];exact Z16 (Z0y h64) (by decide)) fun h1 tk1 vs hk hr=>?_)
 have hI:=Qw hns hr
 have hvl:vs.length=ns.length:=by rw [hr.length,hlen]
 refine Z5l (wpAny_newList ?_ (by rw [hvl,sizeLine_eq];exact ar125 h64 hlen hvl))
 have hoL:(h1.push (seqObj "list" vs.toArray 0)).get? h1.objs.size=some (seqObj "list" vs.toArray 0):=Z5i _ rfl
 refine Z5l (Z5n (Z5m slot_list_sort ⟨_,hoL,rfl⟩ entry_list_sort (list_sort_tree hoL hI (by rw [hvl];exact h64) fun out ns' a1 a2 a3=>⟨_,rfl,?_⟩) (args_list_sort _)))
 refine Z5p ⟨_,rfl,?_⟩
 obtain rfl:=U5 a2 a3
 refine byC fun hG=>?_
 obtain⟨⟨n',ho'⟩,hk'⟩:=Gk (vs:=vs) (out:=out) hoL
 obtain⟨R1,G1⟩:=rel.keepAll hk
 obtain⟨ζ',ρ',G',R',V'⟩:=Uo (ys:=out) R1 hc e (Kk a1) (Z12 _) (fun b o q=>hk' b o (Z1o (Z5j q)) (Yd _ _ _ _ q)) ho'
 refine hG ?_
 clear hG
 exact k _ _ _ _ _ (G1.trans G') R' V'
end Lay
namespace Lay
variable{C:Cx}
noncomputable def Vk(p q:Int×Int):Bool:=decide (p.1<q.1)||(decide (p.1=q.1)&&decide (p.2<q.2))
theorem Vu{p q:Int×Int}:Vk p q=true↔p.1<q.1\/(p.1=q.1/\p.2<q.2):=by simp [Vk]
theorem U3{p q:Int×Int}:Vk p q=false↔q.1<p.1\/(p.1=q.1/\q.2<=p.2):=by
 rw [<-Z5v,Vu];exact ar126
noncomputable def pk(p:Int×Int):V:=.tup [.int p.1,.int p.2]
noncomputable def Gb:List V->Option (List (Int×Int)):=un (Z3p pk)
theorem pk_inj(p q:Int×Int)(h:pk p=pk q):p=q:=by
 have h:=List.cons.inj (V.tup.inj h)
 exact Z6y (V.int.inj h.1) (V.int.inj (List.cons.inj h.2).1)
theorem Ry(l:List (Int×Int)):Gb (l.map pk)=some l:=Ym (Dg pk_inj)
theorem Bt{vs:List V}{ks:List (Int×Int)}(e:Gb vs=some ks):ks.length=vs.length:=by rw [Zi e,Z3g]
theorem Fh{vs:List V}{ks:List (Int×Int)}(e:Gb vs=some ks)(i:Nat)(k:Int×Int)(h:ks[i]?=some k):vs[i]?=some (.tup [.int k.1,.int k.2]):=by rw [Zi e,Z30,h];rfl
noncomputable def No(l:List ((Int×Int)×V)):List V:=(l.mergeSort (fun a b => !Vk b.1 a.1)).map (·.2)
noncomputable def Qo(fm:FM):List V->M (List V)
 | []=>pure []
 |v::r=>do let k<-callM fm [v];let ks<-Qo fm r;pure (k::ks)
noncomputable def Qn(c:Option Nat)(fm:FM)(v:V):M V:=fun s=>(Jo v s).bind fun xs=>if xs.length<6 then (Qo fm xs s).bind fun r=>(Gb r.1).bind fun ps=>if ps.Nodup then Wl c (No (ps.zip xs)) r.2 else none else none
theorem K2{fm:FM} : ∀ {xs:List V} {st:St} {ks:List V} {st':St},Qo fm xs st=some (ks,st')->ks.length=xs.length
 | [],_,_,_,e=>by injection e;rfl
 |v::r,_,_,_,e=>by
  refine byC fun hG=>?_
  obtain⟨k,s1,_,e2⟩:=Z6z e
  obtain⟨ks,s2,e3,e4⟩:=Z6z e2
  injection e4
  refine hG ?_
  clear hG
  simp [K2 e3]
structure Beside(C:Cx)(hY ζ:HM)(ρ:RM)(st:St)(g:Heap)(D kS:Addr)(e1:Nat)(keys:Array Value):Prop where
 rel:Rel C hY ζ ρ st g
 d:g.get? D=some (seqObj "list" #[] e1)
 k : ∃ e,g.get? kS=some (seqObj "list" keys e)
 offD:Off C hY ζ ρ D
 offK:Off C hY ζ ρ kS
 ne:D≠kS
theorem Beside.push{hY ζ:HM}{ρ:RM}{st:St}{g g':Heap}{D kS:Addr}{e1:Nat}{keys keys':Array Value}(b:Beside C hY ζ ρ st g D kS e1 keys)(hs:Z5g kS g g'){e:Nat}(hk:g'.get? kS=some (seqObj "list" keys' e)):Beside C hY ζ ρ st g' D kS e1 keys'/\Gr C.T g ζ ρ g' ζ ρ :=
 ⟨⟨b.rel.swapObj b.offK hs,(hs.2 D b.ne).trans b.d,⟨e,hk⟩,b.offD,b.offK,b.ne⟩,Gr.heap fun x q=>by
  by_cases q':x=kS
  ·subst q';rw [hk];exact Z53 _
  ·rw [hs.2 x q'];exact q⟩
theorem Lq{f:Value}{B k:Nat}{fm:FM}(hf:Xo C.W f B k fm)(hB:C.T<=B){A':Around}(room:Room A' k)(ok:C.Ok){hY:HM}{D kS:Addr}{e1:Nat}{E:Value->Shared->Prop}
  {body:Value->PUnit->Sem (ForInStep PUnit)}
  (hb : ∀ x (s:Shared) (R':ForInStep PUnit->Shared->Prop),wpAny (model C.W.prog C.W.w) A' (call f [x]) (fun key s'=>wpAny (model C.W.prog C.W.w) A' (Builtin.List.listUpdate (.ref kS) (·.push key)) (fun _ s''=>R' (.yield ⟨⟩) s'') E s') (fun _ _=>False) s->wpAny (model C.W.prog C.W.w) A' (body x ⟨⟩) R' E s) :
  ∀ (xs:List V) (vs:List Value) (ζ:HM) (ρ:RM) (st:St) (s:Shared) (keys:Array Value) (kvs:List V) (Q:PUnit->Shared->Prop),Beside C hY ζ ρ st s.heap D kS e1 keys->VRs C.W ζ ρ xs vs->VRs C.W ζ ρ kvs keys.toList->keys.size+xs.length<64->
   ∀ ks st',Qo fm xs st=some (ks,st')->ks.all V.low=true->
   (∀ ζ' ρ' g tk keys',Gr C.T s.heap ζ ρ g ζ' ρ'->Beside C hY ζ' ρ' st' g D kS e1 keys'->VRs C.W ζ' ρ' (kvs++ks) keys'.toList->Q ⟨⟩ {s with heap:=g,toks:=tk})->
   wpAny (model C.W.prog C.W.w) A' (forIn vs PUnit.unit body) Q E s
 | [],vs,ζ,ρ,st,s,keys,kvs,Q,b,r,rk,hz,ks,st',e,hlow,kk=>by
  change _=_ at r
  subst r
  injection e
  rw [List.forIn_nil]
  exact Z5p (kk ζ ρ s.heap s.toks keys (Gr.refl _ _ _ _) b (by simpa using rk))
 |x::xs,vs,ζ,ρ,st,s,keys,kvs,Q,b,r,rk,hz,ks,st',e,hlow,kk=>by
  refine byC fun hG=>?_
  obtain⟨y,ys,rfl,hxl,r1,r2⟩:=r
  obtain⟨key,s1,e2,e3⟩:=Z6z e
  obtain⟨ks',s2,e4,e5⟩:=Z6z e3
  injection e5
  refine hG ?_
  clear hG
  simp only [List.all_cons,Z5q] at hlow
  rw [List.forIn_cons]
  obtain⟨eK,hK⟩:=b.k
  have relK:=(b.rel.addK b.d ⟨b.offD.z,b.offD.k,b.offD.r⟩ b.offD.p).addK hK ⟨b.offK.z,by rw [Z5 _ _ (Ne.symm b.ne)];exact b.offK.k,b.offK.r⟩ b.offK.p
  have le:Le hY (upd (upd hY D (some (seqObj "list" #[] e1))) kS (some (seqObj "list" keys eK))):=(Wh b.offD.k).trans (Wh (by rw [Z5 _ _ (Ne.symm b.ne)];exact b.offK.k))
  refine Z5l (hb y s _ ?_)
  refine wpAny_call (codeAny_mono (Mh (E:=fun _ _=>False) hf hB room ok relK (vs := [x]) (xs := [y]) ⟨y,[],rfl,r1,rfl⟩ e2 fun ζ1 ρ1 g1 tk1 key' G1 rel1 rkey=>?_) fun r s' z=>z)
  have b1:Beside C hY ζ1 ρ1 s1 g1 D kS e1 keys:=⟨rel1.dropK le b.rel.good,rel1.kept _ _ (by rw [Z5 _ _ b.ne];exact Z4 _ _ _),⟨eK,rel1.kept _ _ (Z4 _ _ _)⟩,Off.gr b.offD G1 (by rw [b.d];exact Z53 _),Off.gr b.offK G1 (by rw [hK];exact Z53 _),b.ne⟩
  obtain⟨eK1,hK1⟩:=b1.k
  simp only [Z3c] at hz
  refine listUpdate_at hK1 rfl ?_ (by rw [sizeLine_eq];exact ar127 hz) (Z16 (Z0x (Z5d ..)) (by rw [sizeLine_eq];exact ar128 hz))
  have s1:=Z5g.update g1 kS (Obj.mapSeq (·.push key'))
  have hK2:=get?_update_seq hK1 (·.push key')
  obtain⟨b2,G2⟩:=b1.push s1 hK2
  have G12:=G1.trans G2
  show wpAny _ _ (forIn ys PUnit.unit body) _ _ _
  refine Lq hf hB room ok hb xs ys ζ1 ρ1 _ _ (keys.push key') (kvs ++ [key]) Q b2 (VRs.mono G1.zl (Gr.le b.rel G1).low _ _ r2) ?_ (by rw [Z5d];exact ar129 hz) ks' st' e4 hlow.2 fun ζ' ρ' g tk keys' G b' rr=>kk ζ' ρ' g tk keys' (G12.trans G) b' (by simpa using rr)
  have:=(VRs.mono G1.zl (Gr.le b.rel G1).low _ _ rk).snoc hlow.1 rkey
  simpa using this
theorem Bi{hY ζ:HM}{ρ:RM}{st:St}{h:Heap}(rel:Rel C hY ζ ρ st h){a b:Int}{y:Value}(r:VR C.W ζ ρ (.tup [.int a,.int b]) y) : ∃ ad o n t u,y = .ref ad/\h.get? ad=some o/\o.cls = .type "tuple" /\o.data = .seq #[.int a t,.int b u] n:=by
 refine byC fun hG=>?_
 obtain⟨ad,ys,rfl,⟨o,ho,hc,n,hd⟩,h2⟩:=Fj rel r
 refine hG ?_
 clear hG
 refine byC fun hG=>?_
 obtain⟨y1,r1,e1,_,⟨t,rfl⟩,y2,r2,e2,_,⟨u,rfl⟩,e3⟩:=h2
 subst e3 e2
 refine hG ?_
 clear hG
 have:ys = #[.int a t,.int b u]:=Array.toList_inj.mp (by rw [e1])
 subst this
 exact⟨ad,o,n,t,u,rfl,ho,hc,hd⟩
theorem Ba{W:Wd}{A:Around}{E:Value->Shared->Prop}{s:Shared}{a b:Int}{t u:Tok}{Q:Bool->Shared->Prop}(h:Q (decide (a=b)) s):wpAny (model W.prog W.w) A (eqBool (.int a t) (.int b u)) Q E s :=
 (intKind W.prog W.w).eqBool (Wi (W:=W) a t) (Wi (W:=W) b u) h
theorem key_lt{A:Around}{hY ζ:HM}{ρ:RM}{st:St}{s:Shared}(rel:Rel C hY ζ ρ st s.heap){p q:Int×Int}{x y:Value}(rx:VR C.W ζ ρ (.tup [.int p.1,.int p.2]) x)(ry:VR C.W ζ ρ (.tup [.int q.1,.int q.2]) y){Q:Bool->Shared->Prop}{E:Value->Shared->Prop}
  (h:Q (Vk p q) s):wpAny (model C.W.prog C.W.w) A (keyLt' (tuples' true) x y) Q E s:=by
 refine byC fun hG=>?_
 obtain⟨ax,ox,nx,t1,u1,rfl,h1,_,d1⟩:=Bi rel rx
 obtain⟨ay,oy,ny,t2,u2,rfl,h2,_,d2⟩:=Bi rel ry
 refine hG ?_
 clear hG
 refine kat_lt h1 d1 h2 d2 ?_
 show KatLex _ _ _ _ _ _ [(.int p.1 t1,.int q.1 t2),(.int p.2 u1,.int q.2 u2)] 0 s
 refine kat_cons (Ba (W:=C.W) ?_)
 by_cases e1:p.1=q.1
 ·rw [decide_eq_true e1]
  refine kat_yes (kat_cons (Ba (W:=C.W) ?_))
  by_cases e2:p.2=q.2
  ·rw [decide_eq_true e2]
   refine kat_yes (kat_nil ?_)
   have:Vk p q=false:=by rw [U3];exact ar130 e1 e2
   rw [this] at h;exact h
  ·rw [decide_eq_false e2]
   refine kat_no (kat_one _ _ (lt_int ?_))
   have:Vk p q=decide (p.2<q.2):=by simp [Vk,e1]
   rw [this] at h
   exact h
 ·rw [decide_eq_false e1]
  refine kat_no (oneLt_int ?_)
  have:Vk p q=decide (p.1<q.1):=by simp [Vk,e1]
  rw [this] at h;exact h
end Lay
namespace Lay
variable{C:Cx}
theorem Js{α:Type}(l:List α)(i:Nat)(d:α):l.getD i d=(l[i]?).getD d:=by simp [List.getD_eq_getElem?_getD]
theorem Hz{ps:List (Int×Int)}(hnd:ps.Nodup):Ord ps.length (fun i j=>Vk (ps.getD i (0,0)) (ps.getD j (0,0))) where
 irr:=fun i=>by rw [U3];exact ar131
 tr:=fun i j k h1 h2=>by rw [Vu] at *;exact ar132 h1 h2
 tot:=fun i j hi hj hne=>by
  rw [Vu,Vu]
  have hq:ps.getD i (0,0)≠ps.getD j (0,0):=fun q=>hne (by
   rw [Js,Js,Z2v hi,Z2v hj] at q
   exact(Z2z hi hnd).mp (by rw [Z2v hi,Z2v hj];simpa using q))
  generalize ps.getD i (0,0)=a at *
  generalize ps.getD j (0,0)=b at *
  obtain⟨a1,a2⟩:=a
  obtain⟨b1,b2⟩:=b
  have : ¬ (a1=b1/\a2=b2):=fun⟨e1,e2⟩=>hq (by rw [e1,e2])
  simp only
  exact ar133 this
theorem Np{ps:List (Int×Int)}{xs:List V}(hl:ps.length=xs.length){p:Array Nat}(hp:PermOf ps.length p)(hs:L4 (fun i j=>Vk (ps.getD i (0,0)) (ps.getD j (0,0))) p ps.length)(hnd:ps.Nodup) :
  No (ps.zip xs)=p.toList.map (fun i=>xs.getD i .none):=by
 have hz:(ps.zip xs).length=ps.length:=by simp [hl]
 have item : ∀ i,i<ps.length->(ps.zip xs).getD i ((0,0),.none)=(ps.getD i (0,0),xs.getD i .none):=fun i hi=>by
  have hi2:i<xs.length:=by exact ar134 hl hz hi
  rw [Js,Js,Js,Z2v (by rw [hz];exact hi),Z2v hi,Z2v hi2]
  simp
 have pm : ∀ i∈p.toList,i<ps.length:=fun i hi=>Z48.mp (hp.perm.mem_iff.mp hi)
 have e1:(ps.zip xs).mergeSort (fun a b => !Vk b.1 a.1)=p.toList.map (fun i=>(ps.zip xs).getD i ((0,0),.none)):=by
  refine List.Perm.eq_of_pairwise (le:=fun a b=>Vk b.1 a.1=false) (fun a b ha hb h1 h2=>?_) ?_ ?_ ?_
  ·have ha:=(Z4a _ _).mem_iff.mp ha
   refine byC fun hG=>?_
   obtain⟨k,hk,rfl⟩:=Z44.mp hb
   refine hG ?_
   clear hG
   have hk:=pm k hk
   refine byC fun hG=>?_
   obtain⟨i,hi,rfl⟩:=Z43.mp ha
   refine hG ?_
   clear hG
   rw [item k hk] at h1 h2 ⊢
   have hi':i<ps.length:=by rw [hz] at hi;exact hi
   have hg:(ps.zip xs)[i]=(ps.getD i (0,0),xs.getD i .none):=by
    rw [<-item i hi',Js,Z2v hi];rfl
   rw [hg] at h1 h2 ⊢
   simp only at h1 h2
   have hki:i=k:=by
    refine Z5f fun hne=>?_
    rcases(Hz hnd).tot i k hi' hk hne with q|q
    ·rw [q] at h2;injection h2
    ·rw [q] at h1;injection h1
   rw [hki]
  ·have:=Z4j (le:=fun a b:(Int×Int)×V => !Vk b.1 a.1) (fun a b c h1 h2=>by
    simp only [Z5w,U3] at *;exact ar135 h1 h2) (fun a b=>by
    cases h1:Vk b.1 a.1 with
    |false=>rfl
    |true =>
      rw [Vu] at h1;have:Vk a.1 b.1=false:=by rw [U3];exact ar136 h1
      rw [this];rfl) (ps.zip xs)
   exact this.imp fun h=>by simpa using h
  ·rw [Z4i,List.pairwise_iff_getElem]
   intro i j hi hj hij
   have hpi:i<ps.length:=by have:=hp.size;simp at hi;exact ar137 hl hz hi this
   have hpj:j<ps.length:=by have:=hp.size;simp at hj;exact ar137 hl hz hj this
   have ei:p.toList[i]=gd p i:=by rw [gd_eq,<-Z5b,Z2v hi];rfl
   have ej:p.toList[j]=gd p j:=by rw [gd_eq,<-Z5b,Z2v hj];rfl
   rw [item _ (pm _ (Z35 hi)),item _ (pm _ (Z35 hj)),ei,ej]
   have h:=hs i j hij hpj
   simp only at h ⊢
   rw [Vu] at h
   rw [U3];(exact ar138 hi hj h)
  ·refine(Z4a _ _).trans ?_
   refine List.Perm.trans ?_ (hp.perm.map _).symm
   have:(Z4o ps.length).map (fun i=>(ps.zip xs).getD i ((0,0),V.none))=ps.zip xs:=by
    apply Z2l
    ·simp [hl]
    ·intro i h1 h2
     rw [Z34,Z36,Js,Z2v h2];rfl
   rw [this]
 unfold No
 rw [e1,Z3t]
 refine Z3r fun i hi=>?_
 simp only [Function.comp,item i (pm i hi)]
theorem Dx{A:Around}{hY ζ:HM}{ρ:RM}{st:St}{s:Shared}{D kS:Addr}{e1:Nat}{keys:Array Value}{sst:SortSt}{out:List Value}{P:PySem.Fin->Shared->Prop}{E:Value->Shared->Prop}(b:Beside C hY ζ ρ st s.heap D kS e1 keys)(hz:keys.size<64)
  (ho:(arrOf sst).map (·.2)=out.toArray) (hlen:out.length<64) (hf:failedOf sst=none)
  (h : ∀ g n,(∀ x o,x≠D->x≠kS->s.heap.get? x=some o->g.get? x=some o)->g.get? D=some (seqObj "list" out.toArray n)->P (.done (.ret .none)) {s with heap:=g}):wpAny (model C.W.prog C.W.w) A (ksk_tail D false e1 (.ref kS) sst) P E s:=by
 obtain⟨eK,hK⟩:=b.k
 unfold ksk_tail
 dsimp only
 refine Z5l (listUpdate_at hK rfl ?_ (by rw [sizeLine_eq];exact ar139 hz) (Z25 _))
 have s1:=Z5g.update s.heap kS (Obj.mapSeq fun _=>(#[]:Array Value))
 have hD:=(s1.2 D b.ne).trans b.d
 refine Z5l (wpAny_letGo (Z5l (seqEpoch_at hD rfl ?_)))
 have hsz:((arrOf sst).map (·.2)).size=out.length:=by rw [ho,Z4r]
 refine Z5l (listUpdate_at hD rfl ?_ (Z25 _) (by simp only [Z5s,if_false];rw [hsz,sizeLine_eq];exact ar140 hlen hsz))
 have s2:=Z5g.update (s.heap.update kS (Obj.mapSeq fun _=>(#[]:Array Value))) D (Obj.mapSeq fun _=>if false=true then ((arrOf sst).map (·.2)).reverse else (arrOf sst).map (·.2))
 have hD2:=get?_update_seq hD fun _=>if false=true then ((arrOf sst).map (·.2)).reverse else (arrOf sst).map (·.2)
 rw [hf]
 simp only [bne_self_eq_false,Z5s,if_false] at hD2 s2 ⊢
 rw [ho] at hD2 s2 ⊢
 exact Z5p (h _ _ (fun x o h1 h2 e=>(s2.2 x h1).trans ((s1.2 x h2).trans e)) hD2)
theorem Io{c:Option Nat}(hc:Vd C c){q:Addr}{B k:Nat}{fm:FM}(hf:Xo C.W (.ref q) B k fm)(hB:C.T<=B)(hk:k+1<=C.k) :
  Pb C C.T (VR C.W) (fun x=>call (.builtin "sorted") [x] [(Z5k "key",.ref q)]) (Qn c fm) (VR C.W):=by
 intro hY ζ ρ st s P E v x ok rel r u st' e kk
 refine byC fun hG=>?_
 obtain⟨xs,hxs,e⟩:=ob e
 obtain⟨h6,e⟩:=io e
 obtain⟨⟨ks,s1⟩,e1,e⟩:=ob e
 obtain⟨ps,hps,e⟩:=ob e
 obtain⟨hnd,e4⟩:=io e
 refine hG ?_
 clear hG
 have hps:Gb ks=some ps:=hps
 have e4:Wl c (No (ps.zip xs)) s1=some (u,st'):=e4
 have h64:xs.length<64:=Z1a h6 (by decide)
 have hkl:=K2 e1
 have hpl:=Bt hps
 have hd:=ok.room.depth
 have hu:=ok.room.units
 refine call_function_entry_kw kind_sorted plain_sorted entry_sorted (ksk_s1 _ _) ?_
 unfold Builtin.«sorted»
 refine Z5l (m:=checkCount "sorted" 1 1 _) (Z5p ?_)
 refine Z5l (Fd (A:=C.A.in1) rel ok.room.handled hxs r (Z16 (Z0y h64) (by decide)) fun h1 tk1 vs hkeep hr=>?_)
 have hvl:vs.length=xs.length:=hr.length
 refine Z5l (wpAny_newList ?_ (by rw [hvl,sizeLine_eq];exact ar141 h64 hkl hpl hvl))
 obtain⟨R1,G1⟩:=rel.keepAll hkeep
 have hoL:(h1.push (seqObj "list" vs.toArray 0)).get? h1.objs.size=some (seqObj "list" vs.toArray 0):=Z5i _ rfl
 have offD:=R1.offNew (Yo h1)
 have hDn:h1.get? h1.objs.size=none:=Yo h1
 have R2:=R1.push (seqObj "list" vs.toArray 0)
 have G2:Gr C.T h1 ζ ρ (h1.push (seqObj "list" vs.toArray 0)) ζ ρ:=Gr.push _ _
 have sysD:h1.objs.size≠sysModules:=R1.not_sys (Z12 _)
 show wpAny _ _ _ _ _ {s with heap:=h1.push (seqObj "list" vs.toArray 0),toks:=tk1}
 generalize hDq:h1.objs.size=D at *
 generalize hgq:h1.push (seqObj "list" vs.toArray 0)=g1 at *
 refine Z5l (Z5n (wpAny_call_entry_kw slot_list_sort ⟨_,hoL,rfl⟩ entry_list_sort ?body (ksk_l1 _ _)))
 case body =>
 rw [ksk_t1]
 unfold ksk_tree
 refine Z5l (listItems_at hoL rfl (Z5l (listUpdate_at hoL rfl ?_ (by rw [Z4r,hvl,sizeLine_eq];exact ar141 h64 hkl hpl hvl) (Z25 _))))
 have sb:=Z5g.update g1 D (Obj.mapSeq fun _=>(#[]:Array Value))
 have hD1:=get?_update_seq hoL fun _=>(#[]:Array Value)
 have R3:Rel C hY ζ ρ st (g1.update D (Obj.mapSeq fun _=>(#[]:Array Value))):=R2.swapObj offD sb
 have dm3 : ∀ b,g1.get? b≠none->(g1.update D (Obj.mapSeq fun _=>(#[]:Array Value))).get? b≠none:=fun b q=>by
  by_cases q':b=D
  ·subst q';rw [hD1];exact Z53 _
  ·rw [sb.2 b q'];exact q
 generalize hg2q:g1.update D (Obj.mapSeq fun _=>(#[]:Array Value))=g2 at *
 generalize hes:(if (#[]:Array Value).size==vs.toArray.size then 0 else 0+1)=ep at *
 refine Z5l (seqEpoch_at hD1 rfl (Z5l (wpAny_newTuple ?_ (by show vs.length<=_;rw [hvl,sizeLine_eq];exact ar141 h64 hkl hpl hvl))))
 refine Z5l (wpAny_newList ?_ (Z25 _))
 refine Z5n ?_
 have R4:=R3.push (seqObj "tuple" vs.toArray 0)
 have offK:=R4.offNew (Yo _)
 have R5:=R4.push (seqObj "list" #[] 0)
 have hK0:((g2.push (seqObj "tuple" vs.toArray 0)).push (seqObj "list" #[] 0)).get? (g2.push (seqObj "tuple" vs.toArray 0)).objs.size=some (seqObj "list" #[] 0):=Z5i _ rfl
 have hD2:((g2.push (seqObj "tuple" vs.toArray 0)).push (seqObj "list" #[] 0)).get? D=some (seqObj "list" #[] ep):=Yd _ _ _ _ (Yd _ _ _ _ hD1)
 have hne:D≠(g2.push (seqObj "tuple" vs.toArray 0)).objs.size:=Z1o (Z5j (Yd _ (seqObj "tuple" vs.toArray 0) _ _ hD1))
 have hsys:(g2.push (seqObj "tuple" vs.toArray 0)).get? (g2.push (seqObj "tuple" vs.toArray 0)).objs.size=none:=Yo _
 have G15:Gr C.T h1 ζ ρ ((g2.push (seqObj "tuple" vs.toArray 0)).push (seqObj "list" #[] 0)) ζ ρ:=Gr.heap fun b q=>(Gr.push (B:=0) (ζ:=ζ) (ρ:=ρ) _ _).dm b ((Gr.push (B:=0) (ζ:=ζ) (ρ:=ρ) _ _).dm b (dm3 b (G2.dm b q)))
 have keep5 : ∀ b o,b≠D->g1.get? b=some o->((g2.push (seqObj "tuple" vs.toArray 0)).push (seqObj "list" #[] 0)).get? b=some o:=fun b o hb q=>Yd _ _ _ _ (Yd _ _ _ _ ((sb.2 b hb).trans q))
 show wpAny _ _ _ _ _ {s with heap:=(g2.push (seqObj "tuple" vs.toArray 0)).push (seqObj "list" #[] 0),toks:=tk1}
 have hKn1:h1.get? (g2.push (seqObj "tuple" vs.toArray 0)).objs.size=none:=by
  cases q:h1.get? (g2.push (seqObj "tuple" vs.toArray 0)).objs.size with
  |none=>rfl
  |some o =>
   have h2:g1.get? (g2.push (seqObj "tuple" vs.toArray 0)).objs.size=some o:=by rw [<-hgq];exact Yd _ _ _ _ q
   have h3:=Yd _ (seqObj "tuple" vs.toArray 0) _ _ ((sb.2 _ (Ne.symm hne)).trans h2)
   rw [hsys] at h3;injection h3
 generalize hkq:(g2.push (seqObj "tuple" vs.toArray 0)).objs.size=kS at *
 generalize hg5:(g2.push (seqObj "tuple" vs.toArray 0)).push (seqObj "list" #[] 0)=g5 at *
 have b5:Beside C hY ζ ρ st g5 D kS ep #[]:=⟨R5,hD2,⟨0,hK0⟩,offD,offK,hne⟩
 have hkslow:ks.all V.low=true:=by
  rw [Z27]
  intro w hw
  obtain⟨i,hi⟩:=List.mem_iff_getElem?.mp hw
  have hi':i<ps.length:=by rw [hpl];exact(Z2y.mp hi).1
  have:=Fh hps i ps[i] (Z2v hi')
  rw [hi] at this
  injection this;rfl
 unfold ksk_rest
 refine Z5l (wpAny_rule ?_)
 first
  |rw [List.forIn_toArray]
  |(rw [<-Z56];simp only [List.toList_toArray])
 refine Z5l (Lq (E:=E) hf hB (A':=C.A.in1.in1) ⟨by show C.A.depth+k<_;exact ar142 hk hd,by show C.A.units+1+1+8*k+100<_;exact ar143 hk hu,ok.room.handled⟩ ok (fun y s' R' hy=>?_) xs vs ζ ρ st _ #[] [] _ b5 hr rfl (by simpa using h64) ks s1 e1 hkslow fun ζ6 ρ6 g6 tk6 keys G6 b6 rk=>?_)
 ·exact Z5l (wpAny_attempt (wpAny_mono hy (fun key s'' hkey=>Z5l (wpAny_mono hkey (fun _ s3 h3=>Z5p h3) fun _ _ x=>x)) fun _ _ x=>x.elim))
 ·simp only [Z4c] at rk
  obtain⟨eK,hK6⟩:=b6.k
  dsimp only
  refine Z5l (listItems_at hK6 rfl ?_)
  have hksz:keys.size=xs.length:=by rw [<-hkl,<-rk.length];simp
  have G16:=G15.trans G6
  have hr6:VRs C.W ζ6 ρ6 xs vs:=VRs.mono G6.zl (Gr.le R5 G6).low _ _ hr
  have finish : ∀ (sst:SortSt) (p:Array Nat),(arrOf sst).map (·.2)=(p.toList.map fun i=>vs.getD i Value.none).toArray->failedOf sst=none->(p.toList.map fun i=>xs.getD i .none)=No (ps.zip xs)->PermOf xs.length p->
    wpAny (model C.W.prog C.W.w) C.A.in1.in1 (ksk_tail D false ep (.ref kS) sst) (fun fin s' => ∃ v,fin = .done (.ret v)/\wpAny (model C.W.prog C.W.w) C.A.in1 (ret (.ref D)) (fun fin s' => ∃ v,fin = .done (.ret v)/\P v s') E s') E {s with heap:=g6,toks:=tk6}:=by
   intro sst p ho hf' hsame hp
   have hpl':(p.toList.map fun i=>vs.getD i Value.none).length=xs.length:=by rw [Z3g,Z5c,hp.size]
   refine Dx b6 (by rw [hksz];exact h64) ho (by rw [hpl'];exact h64) hf' fun g n hkg hDg=>⟨_,rfl,Z5p ⟨_,rfl,?_⟩⟩
   have rout:VRs C.W ζ6 ρ6 (No (ps.zip xs)) (p.toList.map fun i=>vs.getD i Value.none):=by
    rw [<-hsame]
    refine VRs.of_get (by simp) fun i a y h1 h2=>?_
    rw [Z30] at h1 h2
    refine byC fun hG=>?_
    obtain⟨j,e5,rfl⟩:=Z50.mp h1
    refine hG ?_
    clear hG
    rw [e5] at h2
    injection h2
    have hj:j<xs.length:=Z48.mp (hp.perm.mem_iff.mp (Z45 e5))
    refine byC fun hG=>?_
    obtain⟨y,e6,e7,e8⟩:=hr6.get j xs[j] (Z2v hj)
    refine hG ?_
    clear hG
    show (xs.getD j .none).low=true/\VR _ _ _ (xs.getD j .none) (vs.getD j Value.none)
    rw [Js,Js,Z2v hj,e6]
    exact⟨e7,e8⟩
   have R7:Rel C hY ζ6 ρ6 s1 g:=b6.rel.off (fun x=>x=D\/x=kS) (fun x o hx q=>hkg x o (fun q'=>hx (.inl q')) (fun q'=>hx (.inr q')) q) (fun x hx=>hx.elim (fun q=>q▸⟨b6.offD.z,b6.offD.k,b6.offD.r⟩) fun q=>q▸⟨b6.offK.z,b6.offK.k,b6.offK.r⟩)
    (fun i pl q hx=>hx.elim (b6.offD.p i pl q) (b6.offK.p i pl q))
   have dm7 : ∀ b,h1.get? b≠none->g.get? b≠none:=fun b q=>by
    have q6:=G16.dm b q
    have hbD:b≠D:=fun q'=>q (by rw [q'];exact hDn)
    have hbK:b≠kS:=fun q'=>q (by rw [q'];exact hKn1)
    cases q7:g6.get? b with
    |none=>exact absurd q7 q6
    |some o=>rw [hkg b o hbD hbK q7];exact Z53 _
   refine byC fun hG=>?_
   obtain⟨ζ',ρ',G',R',V'⟩:=Km (hs:=h1) R7 hc e4 rout hDg ⟨n,rfl⟩ b6.offD sysD hDn dm7
   refine hG ?_
   clear hG
   have G17:Gr C.T h1 ζ ρ g ζ' ρ':=⟨G16.zl.trans G'.zl,fun m a hm q=>G'.rl m a hm (G16.rl m a hm q),fun a o q=>(G'.zn a o q).elim (G16.zn a o) fun q=>.inr (.inl (q.none R7)),fun m a q=>(G'.rn m a q).elim (G16.rn m a) fun q=>.inr (.inl (q.none R7)),dm7⟩
   exact kk ζ' ρ' g tk6 _ (G1.trans G17) R' V'
  unfold ksk_end
  dsimp only
  simp only [Z5s,if_false]
  by_cases h2:vs.toArray.size<2
  ·rw [if_pos h2,if_pos h2]
   refine Z5l (Z5p ?_)
   rw [StateT.run_pure]
   refine Z5l (Z5p ?_)
   dsimp only
   have hx2:xs.length<2:=by rw [Z4r] at h2;exact ar144 h64 hkl hpl hvl hksz h2
   have hP:PermOf xs.length (Z4v (Z4o xs.length)):=.of (List.Perm.refl _)
   refine finish _ (Z4v (Z4o xs.length)) ?_ rfl ?_ hP
   ·show (keys.zip vs.toArray).map (·.2)=_
    apply Array.toList_inj.mp
    rw [Array.toList_map,ksk_zip,List.map_snd_zip (by simp;exact ar145 hkl hpl hvl hksz)]
    show vs=(Z4o xs.length).map fun i=>vs.getD i Value.none
    apply Z2l
    ·simp [hvl]
    ·intro i h1 h2
     rw [Z34,Z36,Js,Z2v h1];rfl
   ·rw [Np (by exact ar45 hkl hpl) (p:=Z4v (Z4o xs.length)) (by rw [hpl,hkl];exact hP) (fun i j hij hj=>absurd (Z17 (Z1z hij) hj) (by rw [hpl,hkl];exact Nat.not_lt.mpr (Z16 (Z0z (by assumption)) (Z20 (Z25 i))))) hnd]
  ·rw [if_neg h2,if_neg h2]
   have hx2:2<=xs.length:=by rw [Z4r] at h2;exact ar146 h64 hkl hpl hvl hksz h2
   have hn2:ps.length=xs.length:=hpl.trans hkl
   obtain⟨q1,q2,q3⟩:=As (Hz hnd) (by rw [hn2];exact hx2) (by rw [hn2];exact h6)
   have kget : ∀ i,i<ps.length->∃ y,keys.toList[i]?=some y/\VR C.W ζ6 ρ6 (.tup [.int (ps.getD i (0,0)).1,.int (ps.getD i (0,0)).2]) y:=fun i hi=>by
    have e6:=Fh hps i (ps.getD i (0,0)) (by rw [Js,Z2v hi];rfl)
    refine byC fun hG=>?_
    obtain⟨y,e7,_,e8⟩:=rk.get i _ e6
    refine hG ?_
    clear hG
    exact⟨y,e7,e8⟩
   have tups : ∀ (l:List (Int×Int)) (ys:List Value),l.length=ys.length->(∀ i,i<l.length->∃ y,ys[i]?=some y/\VR C.W ζ6 ρ6 (.tup [.int (l.getD i (0,0)).1,.int (l.getD i (0,0)).2]) y)->∃ fs:List Value,KatTups g6 ys fs/\fs.length=l.length/\∀ f∈fs,∃ n t,f = .int n t:=by
    intro l
    induction l with
    |nil =>
     intro ys hl _
     cases ys with
     |nil=>exact⟨[],KatTups.nil,rfl,nofun⟩
     |cons _ _=>simp at hl
    |cons a l ih =>
     intro ys hl h
     cases ys with
     |nil=>simp at hl
     |cons y ys =>
      obtain⟨y',e6,e7⟩:=h 0 (by simp)
      simp only [Z2u,Option.some.injEq] at e6
      subst e6
      refine byC fun hG=>?_
      obtain⟨ad,o,n,t,u,rfl,f1,f2,f3⟩:=Bi b6.rel e7
      refine hG ?_
      clear hG
      obtain⟨fs,i1,i2,i3⟩:=ih ys (by simpa using hl) fun i hi=>by
       have:=h (i+1) (by simpa using hi)
       simpa using this
      exact⟨_::fs,KatTups.cons f1 f2 f3 rfl i1,by simp [i2],fun f hf=>(Z3z.mp hf).elim (fun e=>⟨_,_,e⟩) (i3 f)⟩
   refine byC fun hG=>?_
   obtain⟨fs,t1,t2,t3⟩:=tups ps keys.toList (hn2.trans (hksz.symm.trans (Z5c).symm)) kget
   refine hG ?_
   clear hG
   have hkeys:keys=keys.toList.toArray:=by simp
   refine Z5l ?_
   rw [hkeys]
   refine kat_kind (T:=.type "int") (vs:=keys.toList) t1 (by rw [t2,hn2];exact ar147 h64 hkl hpl hvl hksz hx2 t2) (fun f hf=>?_) (by decide) ?_
   ·obtain⟨n,t,rfl⟩:=t3 f hf
    exact .now
   ·have run:=kat_run (prog:=C.W.prog) (w:=C.W.w) (A:=C.A.in1.in1) (E:=E) (s:={s with heap:=g6,toks:=tk6}) (vs:=vs) (ks:=keys.toList) (κ:=tuples' (Value.type "int" !=Value.type "tuple"))
     (Q:=fun sst s'=>s'={s with heap:=g6,toks:=tk6}/\∃ p:Array Nat,p=Hb (fun i j=>Vk (ps.getD i (0,0)) (ps.getD j (0,0))) (kas_sort ps.length)/\arrOf sst=p.map (kas_item (keys.toList.toArray.zip vs.toArray))/\failedOf sst=none)
     (G:=fun p s'=>s'={s with heap:=g6,toks:=tk6}/\p=Hb (fun i j=>Vk (ps.getD i (0,0)) (ps.getD j (0,0))) (kas_sort ps.length))
     (by rw [Z5c,hksz,hvl]) (by rw [hvl];exact hx2) (by rw [hvl];exact h64) (fun p sst s' a1 a2 a3 a4=>⟨a4.1,p,a4.2,a2,a3⟩) (by
      rw [hvl,<-hn2]
      refine N1 (I:=fun s'=>s'={s with heap:=g6,toks:=tk6}) (fun i j K s' hi hj hI hK=>?_) q1 rfl fun s' hI=>⟨hI,rfl⟩
      subst hI
      refine byC fun hG=>?_
      obtain⟨y1,a1,a2⟩:=kget i hi
      obtain⟨y2,a3,a4⟩:=kget j hj
      refine hG ?_
      clear hG
      unfold kas_ask
      rw [Js,Js,a1,a3]
      exact key_lt b6.rel a2 a4 (hK _ rfl))
    refine Z5l (wpAny_mono run ?_ fun _ _ x=>x)
    rintro⟨⟨⟩,sst⟩ s' ⟨rfl,p,hp,ha,hf'⟩
    have hP:PermOf xs.length p:=by rw [hp,<-hn2];exact q2
    refine finish sst p ?_ hf' ?_ hP
    ·rw [kat_snds (by rw [Z5c,hksz,hvl]) ha]
    ·rw [Np hn2 (p:=p) (by rw [hp];exact q2) (by rw [hp];exact q3) hnd]
end Lay
open Sem (wp)
namespace Lay
variable{C:Cx}
end Lay
namespace Lay
variable{C:Cx}
noncomputable def Ek{K:Type} [DecidableEq K](ps:List (K×V)):List (K×V):=ps.foldl (fun d kv=>Y6 d kv.1 kv.2) []
theorem Hy{hY ζ:HM}{ρ:RM}{st:St}{h h':Heap}(rel:Rel C hY ζ ρ st h)(keep : ∀ b o,h.get? b=some o->h'.get? b=some o){n:Nat}(hn:st.hp n=none)(hT:n<C.T)(hB:n<100\/C.B<=n){O:O}{o:Obj}(ho:h'.get? h.objs.size=some o)
  (hO:OR C.W ζ (upd ρ n (some h.objs.size)) O o):Rel C hY ζ (upd ρ n (some h.objs.size)) {st with hp:=upd st.hp n (some O)} h'/\Gr C.T h ζ ρ h' ζ (upd ρ n (some h.objs.size)):=by
 have off:=rel.offNew (Yo h)
 obtain⟨R1,G1⟩:=rel.keepAll keep
 have le:Le ρ (upd ρ n (some h.objs.size)):=Wh (rel.dom n hn)
 refine⟨R1.adoptS ho ⟨off.z,off.k,off.r,off.p⟩ (rel.not_sys (Z12 _)) n hn hT hB O hO,⟨Le.refl _,fun m a _ e=>le m a e,fun _ _ e=>.inl e,fun m a e=>?_,G1.dm⟩⟩
 by_cases q:m=n
 ·subst q;rw [Z4] at e;injection e;exact .inr (.inl (Yo h))
 ·rw [Z5 _ _ q] at e;exact .inl e
end Lay
namespace Lay
variable{C:Cx}
noncomputable def U9(v:V)(s:St):Bool:=(Wv v s).isSome
theorem MethAt.list{name:Str}{id:String}(slot:Slot "list" name id)(hty:typeOf (.builtin id)=pure (.type "method_descriptor")):MethAt C name (.builtin id) (fun v s=>U9 v s=true):=by
 intro hY ζ ρ st s pl P E v x ok rel r hv k
 refine byC fun hG=>?_
 obtain⟨xs,hxs⟩:=Option.isSome_iff_exists.mp hv
 obtain⟨a,ys,n,rfl,ho,_⟩:=Kc rel hxs r
 refine hG ?_
 clear hG
 exact getMethod_builtin ⟨_,ho,rfl⟩ PySem.F.plainAttrs_list slot hty (fun b e=>by injection e;exact⟨_,ho,rfl⟩) k
noncomputable def v2(p:V×V):List V := [p.1,p.2]
noncomputable def Mk(vs:List V):M V:=fun s=>(un v2 vs).bind fun p=>(un V.ref p.1).bind fun n=>((s.hp n).bind (un O.list)).bind fun xs =>
 if p.2.low=true/\xs.length<lim then some (.none,{s with hp:=upd s.hp n (some (.list (xs ++ [p.2])))}) else none
theorem mApp_C:Fv C (.builtin "list.append") Mk:=by
 intro hY ζ ρ st s P E vs xs ok rel ra v st' e k
 refine byC fun hG=>?_
 obtain⟨⟨w,u⟩,q1,e⟩:=ob e
 obtain⟨n,q2,e⟩:=ob e
 obtain⟨l,hl,e⟩:=ob e
 obtain⟨hg,e⟩:=io e
 injection e
 obtain⟨O,hl,q3⟩:=ob hl
 rw [Zi q3] at hl
 rw [Zi (f:=v2) q1] at ra
 obtain⟨x,_,rfl,r,y,_,rfl,r2,rfl⟩:=ra
 rw [show w = .ref n from Zi q2] at r
 obtain⟨a,hn,rfl⟩:=r
 obtain⟨a',o,h1,h2,ys,⟨m,rfl⟩,h4⟩:=rel.slot n _ hl
 obtain rfl:a'=a:=Z54 (h1.symm.trans hn)
 have hz:ys.size=l.length:=by rw [<-h4.length];simp
 refine hG (wpAny_list_append_plain ⟨m,h2⟩ (fun h' ⟨m',ho'⟩ hs=>?_) (by rw [hz];exact J3 (Z0y hg.2)))
 obtain⟨R',G'⟩:=rel.set hn hs ho' (O:=.list (l ++ [u])) ⟨_,⟨m',rfl⟩,by simpa using h4.snoc hg.1 r2⟩
 exact k _ _ _ _ _ G' R' rfl
noncomputable def mPop:List V->M V:=one fun v s=>(un V.ref v).bind fun n=>((s.hp n).bind (un O.list)).bind fun xs=>(xs.getLast?).bind fun u =>
 if xs.length<=lim then some (u,{s with hp:=upd s.hp n (some (.list xs.dropLast))}) else none
theorem VRs.dropLast{W:Wd}{ζ:HM}{ρ:RM}{v:List V}{x:List Value}(h:VRs W ζ ρ v x):VRs W ζ ρ v.dropLast x.dropLast:=by
 rw [Z2h,Z2h,h.length];exact h.take _
theorem De:Fv C (.builtin "list.pop") mPop:=Nh <|by
 intro hY ζ ρ st s P E u x ok rel r v st' e k
 refine byC fun hG=>?_
 obtain⟨n,q2,e⟩:=ob e
 obtain⟨l,hl,e⟩:=ob e
 obtain⟨u',hu,e⟩:=ob e
 obtain⟨hlen,e⟩:=io e
 injection e
 obtain⟨O,hl,q3⟩:=ob hl
 rw [Zi q3] at hl
 rw [Zi q2] at r
 obtain⟨a,hn,rfl⟩:=r
 obtain⟨a',o,h1,h2,ys,⟨m,rfl⟩,h4⟩:=rel.slot n _ hl
 obtain rfl:a'=a:=Z54 (h1.symm.trans hn)
 have hz:ys.size=l.length:=by rw [<-h4.length];simp
 have hpos:0<l.length:=by cases l with|nil=>cases hu|cons _ _=>simp
 rw [Z39] at hu
 obtain⟨y,hy,_,ry⟩:=h4.get (l.length-1) v hu
 rw [Z5b,<-hz] at hy
 have s1:=Z5g.update s.heap a' (Obj.mapSeq fun xs=>xs.eraseIdxIfInBounds (ys.size-1))
 have ho:=get?_update_seq h2 fun xs=>xs.eraseIdxIfInBounds (ys.size-1)
 have he:(ys.eraseIdxIfInBounds (ys.size-1)).toList=ys.toList.dropLast:=by
  have hlt:ys.size-1<ys.size:=by exact ar157 hz hpos
  rw [Array.eraseIdxIfInBounds,dif_pos hlt,Array.toList_eraseIdx,Z2h,Z5c]
  rw [List.eraseIdx_eq_take_drop_succ]
  have:ys.size-1+1=ys.size:=by exact ar158 hz hpos hlt
  rw [this,List.drop_of_length_le (by simp),Z29]
 obtain⟨R',G'⟩:=rel.set hn s1 ho (O:=.list l.dropLast) ⟨_,⟨_,rfl⟩,by rw [he];exact h4.dropLast⟩
 refine hG ?_
 refine call_meets PySem.F.slot_list_pop ⟨_,h2,rfl⟩ PySem.F.entry_list_pop (PySem.F.args_list_pop_1 _) (PySem.MeetsSeq.list_pop_last a' ys m y hy (by rw [hz];exact J3 hlen)) ⟨h2,?_⟩
 exact k ζ ρ _ s.toks y G' R' (VR.gr rel G' ry)
theorem B2{x:Str}{p pos kp:Pos}{arg kv:PySem.Expr}{q:Addr}{m:M V}{c:Option Nat}{fm:FM}{B k:Nat}(hf:Yb C (eval (.Name x p) C.env) (pure (.val (.builtin "sorted"))))(ha:Yb C (eval arg C.env) m)(hkey:Yb C (eval kv C.env) (pure (.val (.ref q))))
  (hc:Vd C c) (hq:Xo C.W (.ref q) B k fm) (hB:C.T<=B) (hk:k+1<=C.k) (hs:starEach [arg] C.env=(false,eval arg C.env)::starEach [] C.env:=by rfl) :
  Yb C (eval (.Call (.Name x p) [arg] [⟨some (Z5k "key"),kv,kp⟩] pos) C.env) (do let v<-m;Qn c fm v):=by
 intro hY ζ ρ st s P E ok rel v st' e kk
 refine byC fun hG=>?_
 obtain⟨u,s1,e1,e2⟩:=Z6z e
 refine hG ?_
 clear hG
 show wpAny _ _ (eval (.Name x p) C.env>>=fun f=>callWith pos f [] (backTo pos (starEach [arg] C.env)) (backToKw pos (keywordEach [⟨some (Z5k "key"),kv,kp⟩] C.env))) _ _ _
 refine Z5l (hf hY ζ ρ st s _ E ok rel _ _ rfl fun ζ1 ρ1 h1 tk1 y G1 rel1 r1=>?_)
 change _=_ at r1
 subst r1
 refine callWith_kw ?_ (by rw [hs];rfl) (by rw [hs];rfl)
 refine spliced_more (ha hY ζ1 ρ1 st _ _ E ok rel1 u s1 e1 fun ζ2 ρ2 h2 tk2 z G2 rel2 r2=>spliced_none ?_) hs
 refine kws_cons (hkey hY ζ2 ρ2 s1 _ _ E ok rel2 _ _ rfl fun ζ3 ρ3 h3 tk3 w G3 rel3 r3=>kws_nil ?_)
 change _=_ at r3
 subst r3
 exact Io hc hq hB hk hY ζ3 ρ3 s1 _ P E u z ok rel3 (VR.gr rel2 G3 r2) v st' e2 fun ζ4 ρ4 h4 tk4 b G4 rel4 r4=>kk ζ4 ρ4 h4 tk4 b (((G1.trans G2).trans G3).trans G4) rel4 r4
end Lay
namespace Lay
noncomputable def Z75:M (List V):=pure []
noncomputable def Z74(m1:M V)(m2:M (List V)):M (List V):=do let v<-m1;let vs<-m2;pure (v::vs)
noncomputable def Z7g(m:M (List V)):M V:=do let vs<-m;mkTup vs
noncomputable def Z7h(c:Option Nat)(m:M (List V)):M V:=do let vs<-m;Wl c vs
noncomputable def Z77(g:V->M V)(m:M V):M V:=m>>=g
noncomputable def Z78(g:V->V->M V)(m1 m2:M V):M V:=do let a<-m1;let b<-m2;g a b
noncomputable def Z79(g:List V->M V)(ma:M (List V)):M V:=do let vs<-ma;g vs
noncomputable def Z76(okp:V->St->Bool)(g:List V->M V)(mo:M V)(ma:M (List V)):M V:=do let v<-mo;(fun s=>M.guard (okp v s) s);let vs<-ma;g (v::vs)
noncomputable def X.ife(mt:M Bool)(m1 m2:M V):M V:=do let b<-mt;if b then m1 else m2
noncomputable def X.truth(m:M V):M Bool:=do let v<-m;asBool v
noncomputable def Z7a(g:V->V->M V)(m1 m2:M V):M Bool:=do let a<-m1;let b<-m2;let c<-g a b;asBool c
noncomputable def X.tnot(m:M Bool):M Bool:=do let b<-m;pure (!b)
noncomputable def X.and0:M Bool:=pure true
noncomputable def X.or0:M Bool:=pure false
noncomputable def X.and1(m1 m2:M Bool):M Bool:=do let b<-m1;if b then m2 else pure false
noncomputable def X.or1(m1 m2:M Bool):M Bool:=do let b<-m1;if b then pure true else m2
noncomputable def X.comp(c:Option Nat)(T j:Nat)(mi:M V)(mt:M Bool)(me:M V):M V:=do let v<-mi;M.guard (v.stays T);M.comp c v j mt me
noncomputable def X.dnil:M (List (V×V)):=pure []
noncomputable def X.dcons(m1 m2:M V)(m3:M (List (V×V))):M (List (V×V)):=do let a<-m1;let b<-m2;let r<-m3;pure ((a,b)::r)
noncomputable def X.dictS(n:Nat)(m:M (List (V×V))):M V:=do let vs<-m;mkDict C0 .sdict n vs
noncomputable def X.dictI(n:Nat)(m:M (List (V×V))):M V:=do let vs<-m;mkDict Ev .idict n vs
noncomputable def X.sortedK(c:Option Nat)(fm:FM)(m:M V):M V:=do let v<-m;Qn c fm v
noncomputable def Y.end:M Fl:=pure .next
noncomputable def Z7c(i:Nat)(m:M V):M Fl:=do let v<-m;Z72 i v;pure .next
noncomputable def Y.assignTup(is:List Nat)(m:M V):M Fl:=do let v<-m;M.unpack is v;pure .next
noncomputable def Y.assignDisp(is:List Nat)(m:M (List V)):M Fl:=do let vs<-m;M.guard (decide (vs.length<=100));M.sets is vs;pure .next
noncomputable def Y.assignSwap(is:List Nat)(m:M (List V)):M Fl:=do let vs<-m;M.guard (decide (vs.length<=100));M.sets is vs.reverse;pure .next
noncomputable def Z7d(m mo mi:M V):M Fl:=do let u<-m;let v<-mo;let k<-mi;Du v k u;pure .next
noncomputable def Y.assignAttr(Cl:Addr)(name:Str)(m mo:M V):M Fl:=do let u<-m;let v<-mo;setA Cl name v u;pure .next
noncomputable def Z7f(m:M V):M Fl:=do let v<-m;pure (.ret v)
noncomputable def Z7e(m:M V):M Fl:=do let _<-m;pure .next
noncomputable def Z7b(mt:M Bool)(m1 m2:M Fl):M Fl:=do let b<-mt;if b then m1 else m2
noncomputable def Y.for(B:Nat)(mi:M V)(bind:V->M Unit)(mb:M Fl):M Fl:=do let v<-mi;M.guard (v.stays B);M.forS v bind mb
noncomputable def Y9(Cl:Addr)(name:Str):V->St->Bool:=fun v s=>(K9 v s).any fun p=>decide (p.1=Cl)&&(Y1 p.2 name).isNone
theorem len0{α:Type}{xs:List α}(h:xs.length=0):xs = []:=Z2i h
theorem lenS{α:Type}{n:Nat}{xs:List α}(h:xs.length=n+1) : ∃ a r,xs=a::r/\r.length=n:=by
 cases xs with
 |nil=>injection h
 |cons a r=>exact⟨a,r,rfl,Nat.succ.inj h⟩
theorem len1{α:Type}{xs:List α}(h:xs.length=1) : ∃ a,xs = [a]:=by
 obtain⟨a,r,rfl,h2⟩:=lenS h;rw [len0 h2];exact⟨a,rfl⟩
theorem len2{α:Type}{xs:List α}(h:xs.length=2) : ∃ a b,xs = [a,b]:=by
 obtain⟨a,r,rfl,h2⟩:=lenS h;obtain⟨b,rfl⟩:=len1 h2;exact⟨a,b,rfl⟩
theorem len3{α:Type}{xs:List α}(h:xs.length=3) : ∃ a b c,xs = [a,b,c]:=by
 obtain⟨a,r,rfl,h2⟩:=lenS h;obtain⟨b,c,rfl⟩:=len2 h2;exact⟨a,b,c,rfl⟩
theorem T3{s:Shared}{fd:FuncData}{names:List Str}{xs:List Value}(hl:xs.length=1)(h : ∀ a,bindArgs fd ⟨[a],[]⟩=pure (names.zip [a])):BindsTo s fd ⟨xs,[]⟩ (names.zip xs):=by
 obtain⟨a,rfl⟩:=len1 hl
 exact .of_eq (h a)
theorem Q3{s:Shared}{fd:FuncData}{names:List Str}{xs:List Value}(hl:xs.length=2)(h : ∀ a b,bindArgs fd ⟨[a,b],[]⟩=pure (names.zip [a,b])):BindsTo s fd ⟨xs,[]⟩ (names.zip xs):=by
 refine byC fun hG=>?_
 obtain⟨a,b,rfl⟩:=len2 hl
 refine hG ?_
 clear hG
 exact .of_eq (h a b)
theorem bind3{s:Shared}{fd:FuncData}{names:List Str}{xs:List Value}(hl:xs.length=3)(h : ∀ a b c,bindArgs fd ⟨[a,b,c],[]⟩=pure (names.zip [a,b,c])):BindsTo s fd ⟨xs,[]⟩ (names.zip xs):=by
 refine byC fun hG=>?_
 obtain⟨a,b,c,rfl⟩:=len3 hl
 refine hG ?_
 clear hG
 exact .of_eq (h a b c)
theorem bind4{s:Shared}{fd:FuncData}{names:List Str}{xs:List Value}(hl:xs.length=4)(h : ∀ a b c d,bindArgs fd ⟨[a,b,c,d],[]⟩=pure (names.zip [a,b,c,d])):BindsTo s fd ⟨xs,[]⟩ (names.zip xs):=by
 refine byC fun hG=>?_
 obtain⟨a,r,rfl,h2⟩:=lenS hl
 obtain⟨b,c,d,rfl⟩:=len3 h2
 refine hG ?_
 clear hG
 exact .of_eq (h a b c d)
theorem bind6{s:Shared}{fd:FuncData}{names:List Str}{xs:List Value}(hl:xs.length=6)(h : ∀ a b c d e f,bindArgs fd ⟨[a,b,c,d,e,f],[]⟩=pure (names.zip [a,b,c,d,e,f])):BindsTo s fd ⟨xs,[]⟩ (names.zip xs):=by
 refine byC fun hG=>?_
 obtain⟨a,r,rfl,h2⟩:=lenS hl
 obtain⟨b,r,rfl,h3⟩:=lenS h2
 obtain⟨c,r,rfl,h4⟩:=lenS h3
 obtain⟨d,e,f,rfl⟩:=len3 h4
 refine hG ?_
 clear hG
 exact .of_eq (h a b c d e f)
theorem bindD3{s:Shared}{fd:FuncData}{names:List Str}{xs:List Value}(hl:xs.length=3)(h : ∀ a b c,BindsTo s fd ⟨[a,b,c],[]⟩ (names.zip [a,b,c])):BindsTo s fd ⟨xs,[]⟩ (names.zip xs):=by
 refine byC fun hG=>?_
 obtain⟨a,b,c,rfl⟩:=len3 hl
 refine hG ?_
 clear hG
 exact h a b c
end Lay
namespace Lay
variable{C:Cx}
noncomputable def X.bAnd(m1 m2:M V):M V:=do let v<-m1;let b<-asBool v;if b then m2 else pure (.bool false)
noncomputable def X.bOr(m1 m2:M V):M V:=do let v<-m1;let b<-asBool v;if b then pure (.bool true) else m2
theorem B3{v:V}{s:St}{r:Bool×St}(e:asBool v s=some r):v = .bool r.1/\r.2=s:=by
 cases v<;>first|(injection e;exact⟨rfl,rfl⟩)|injection e
theorem L0{op:BoolOp}{e:PySem.Expr}{pos:Pos}{m:M V}(h:Yb C (eval e C.env) m):Yb C (eval (.BoolOp op [e] pos) C.env) m :=
 fun hY ζ ρ st s P E ok rel a st' e k=>BoolOp_one (h hY ζ ρ st s P E ok rel a st' e k)
theorem Ch{e1 e2:PySem.Expr}{rest:List PySem.Expr}{pos:Pos}{m1 m2:M V}(h1:Yb C (eval e1 C.env) m1)(h2:Yb C (eval (.BoolOp .And (e2::rest) pos) C.env) m2):Yb C (eval (.BoolOp .And (e1::e2::rest) pos) C.env) (X.bAnd m1 m2):=by
 intro hY ζ ρ st s P E ok rel a st' e k
 refine byC fun hG=>?_
 obtain⟨v,s1,e1,e⟩:=Z6z e
 obtain⟨b,s2,e2,e3⟩:=Z6z e
 obtain⟨rfl,rfl⟩:=B3 e2
 refine hG ?_
 clear hG
 refine BoolOp_and (h1 hY ζ ρ st s _ E ok rel _ _ e1 fun ζ1 ρ1 h1' tk1 x G1 rel1 r1=>?_)
 change _=_ at r1
 subst r1
 refine wpAny_truthy_bool ?_
 cases b with
 |true=>exact h2 hY ζ1 ρ1 s2 _ P E ok rel1 a st' e3 fun ζ2 ρ2 h2' tk2 y G2 rel2 r2=>k ζ2 ρ2 h2' tk2 y (G1.trans G2) rel2 r2
 |false=>injection e3;exact k ζ1 ρ1 h1' tk1 _ G1 rel1 rfl
theorem Sim_BOr{e1 e2:PySem.Expr}{rest:List PySem.Expr}{pos:Pos}{m1 m2:M V}(h1:Yb C (eval e1 C.env) m1)(h2:Yb C (eval (.BoolOp .Or (e2::rest) pos) C.env) m2):Yb C (eval (.BoolOp .Or (e1::e2::rest) pos) C.env) (X.bOr m1 m2):=by
 intro hY ζ ρ st s P E ok rel a st' e k
 refine byC fun hG=>?_
 obtain⟨v,s1,e1,e⟩:=Z6z e
 obtain⟨b,s2,e2,e3⟩:=Z6z e
 obtain⟨rfl,rfl⟩:=B3 e2
 refine hG ?_
 clear hG
 refine BoolOp_or (h1 hY ζ ρ st s _ E ok rel _ _ e1 fun ζ1 ρ1 h1' tk1 x G1 rel1 r1=>?_)
 change _=_ at r1
 subst r1
 refine wpAny_truthy_bool ?_
 cases b with
 |false=>exact h2 hY ζ1 ρ1 s2 _ P E ok rel1 a st' e3 fun ζ2 ρ2 h2' tk2 y G2 rel2 r2=>k ζ2 ρ2 h2' tk2 y (G1.trans G2) rel2 r2
 |true=>injection e3;exact k ζ1 ρ1 h1' tk1 _ G1 rel1 rfl
noncomputable def bInt:List V->M V:=one fun v s=>(un V.int v).bind fun _=>some (v,s)
theorem bInt_C:Fv C (.type "int") bInt:=Nh <|by
 intro hY ζ ρ st s P E u x ok rel r v st' e k
 refine byC fun hG=>?_
 obtain⟨i,h,e⟩:=ob e
 injection e
 have r':=r
 rw [Zi h] at r
 obtain⟨t,rfl⟩:=r
 exact hG (call_int_int (k ζ ρ s.heap _ _ (Gr.refl _ _ _ _) rel r'))
noncomputable def E0(n:Nat):List V->M V:=one fun v s=>(K4 v s).bind fun kvs=>if kvs.length<=lim then M.new n (.idict kvs) s else none
theorem Co{n:Nat}(hT:n<C.T)(hB:n<100\/C.B<=n):Fv C (.type "dict") (E0 n):=Nh <|by
 intro hY ζ ρ st s P E u x ok rel r v st' e k
 refine byC fun hG=>?_
 obtain⟨kvs,hv,e⟩:=ob e
 obtain⟨hlen,e⟩:=io e
 obtain⟨hn,e3⟩:=M.new_some e
 injection e3
 obtain⟨a,kys,rfl,hsys,hd,hk⟩:=Ul rel hv r
 refine hG (kt_call_dict hsys hd (by rw [hk.length];exact J3 hlen) fun h' hd' hs=>byC fun hG=>?_)
 have keep : ∀ b o,s.heap.get? b=some o->h'.get? b=some o:=fun b o q=>(hs.2 b (fun q'=>by rw [q',Yo] at q;injection q)).trans (Yd _ _ _ _ q)
 obtain⟨es,ep,ho,he⟩:=Ent.back hd'
 have hle:Le ρ (upd ρ n (some s.heap.objs.size)):=Wh (rel.dom n hn)
 obtain⟨R',G'⟩:=Hy rel keep hn hT hB (O:=.idict kvs) ho ⟨es,ep,kys,rfl,he,hk.mono (Le.refl _) hle.low⟩
 exact hG (k _ _ _ _ _ G' R' (by refine(?_:Exists _);exact⟨_,Z4 _ _ _,rfl⟩))
end Lay
namespace Lay
theorem Ha:typeLookup (.type "tuple") "__reversed__" =pure none:=by rw [typeLookup_type,builtinLookup_eq_fast];kernel_rfl
theorem Nl:isSubtype (.type "tuple") (.type "dict")=pure false:=by rw [isSubtype_type];kernel_rfl
theorem Aj:Slot "reversed" "__init__" "object.__init__" :=
 .of (owner := "object") (n := "__init__") (by rw [typeLookup_type,builtinLookup_eq_fast];kernel_rfl) (by decide +kernel) (by decide +kernel) (by decide +kernel)
  (by first|exact .inl (by decide +kernel)|exact .inr (by decide +kernel)) (by rw [isSubtype_type];kernel_rfl)
theorem rev_next:Slot "reversed" "__next__" "reversed.__next__" :=
 .of (owner := "reversed") (n := "__next__") (by rw [typeLookup_type,builtinLookup_eq_fast];kernel_rfl) (by decide +kernel) (by decide +kernel) (by decide +kernel)
  (by first|exact .inl (by decide +kernel)|exact .inr (by decide +kernel)) (by rw [isSubtype_type];kernel_rfl)
theorem I3:Slot "reversed" "__iter__" "reversed.__iter__" :=
 .of (owner := "reversed") (n := "__iter__") (by rw [typeLookup_type,builtinLookup_eq_fast];kernel_rfl) (by decide +kernel) (by decide +kernel) (by decide +kernel)
  (by first|exact .inl (by decide +kernel)|exact .inr (by decide +kernel)) (by rw [isSubtype_type];kernel_rfl)
theorem rev_hint:Slot "reversed" "__length_hint__" "reversed.__length_hint__" :=
 .of (owner := "reversed") (n := "__length_hint__") (by rw [typeLookup_type,builtinLookup_eq_fast];kernel_rfl) (by decide +kernel) (by decide +kernel) (by decide +kernel)
  (by first|exact .inl (by decide +kernel)|exact .inr (by decide +kernel)) (by rw [isSubtype_type];kernel_rfl)
theorem H8:TypeCalled "reversed" "reversed.__new__" "object.__init__" :=
 ⟨by decide +kernel,F.create_reversed,⟨_,_,F.mro_reversed⟩,F.made_reversed,F.plain_reversed_new,F.sub_reversed_self,Aj⟩
end Lay
namespace Lay
noncomputable def revT(t:Addr)(i:Int):Obj:={cls:=.type "reversed",data:=.fields #[.ref t,rawInt i]}
section
variable{prog:Program}{w:World}{A:Around}{E:Value->Shared->Prop}{s:Shared}
theorem Bs:Manifest.owners.lookup (String.ofList ['d','e','s','r','e','v','e','r'].reverse)=some Manifest.sig_reversed:=by kernel_rfl
theorem Ql(a:Value):argsOk "reversed.__next__" ⟨[a],[]⟩:=by
 unfold argsOk;rw [signature?_of (id := "reversed.__next__") (n := ['_','_','t','x','e','n','_','_']) (o := ['d','e','s','r','e','v','e','r']) (by kernel_rfl) Bs];kernel_rfl
theorem Rd(a:Value):argsOk "reversed.__iter__" ⟨[a],[]⟩:=by
 unfold argsOk;rw [signature?_of (id := "reversed.__iter__") (n := ['_','_','r','e','t','i','_','_']) (o := ['d','e','s','r','e','v','e','r']) (by kernel_rfl) Bs];kernel_rfl
theorem Rc(a:Value):argsOk "reversed.__length_hint__" ⟨[a],[]⟩:=by
 unfold argsOk;rw [signature?_of (id := "reversed.__length_hint__") (n := ['_','_','t','n','i','h','_','h','t','g','n','e','l','_','_']) (o := ['d','e','s','r','e','v','e','r']) (by kernel_rfl) Bs];kernel_rfl
theorem Kw:entryFor table "reversed.__next__" =some Builtin.«reversed.__next__»:=entryFor_of_tree (by kernel_rfl)
theorem T5:entryFor table "reversed.__length_hint__" =some Builtin.«reversed.__length_hint__»:=entryFor_of_tree (by kernel_rfl)
theorem T6:entryFor table "reversed.__iter__" =some Builtin.«dict_keyiterator.__iter__» :=
 entryFor_alias (id' := "dict_keyiterator.__iter__") (by kernel_rfl) (by first|rfl|decide +kernel|(unfold String.splitOn;simp +decide [String.splitOnAux])) (by decide +kernel) (by kernel_rfl)
theorem Ue{I t:Addr}{i:Int}(h:s.heap.get? I=some (revT t i)):s.TypeIs (.ref I) "reversed" :=⟨_,h,rfl⟩
theorem Rx(t:Addr)(ys:Array Value)(hz:(ys.size:Int)<2^63) :
  Meets (Builtin.«reversed.__new__» ⟨[.type "reversed",.ref t],[]⟩) (fun _ R s=>IsTup s.heap t ys/\∀ tk,R (.ok (.ret (.ref s.heap.objs.size))) {s with heap:=s.heap.push (revT t ((ys.size:Int)-1)),toks:=tk}) :=
 .of_wp fun prog w A R s h=>by
  obtain⟨ht,h⟩:=h
  have hT:s.TypeIs (.ref t) "tuple" :=by obtain⟨o,ho,hc,_⟩:=ht;exact⟨o,ho,hc⟩
  unfold Builtin.«reversed.__new__»
  refine Z5l (Z5o (newClass_reversed _) ?_)
  try dsimp only
  refine Z5l (Z5o (a:=()) (by first|rfl|kernel_rfl) ?_)
  refine Z5l (Z5o (a:=()) (by first|rfl|kernel_rfl) ?_)
  try dsimp only
  refine Z5l (wpAny_specialOf hT Ha ?_)
  try dsimp only
  refine Z5l ?_
  show wpAny _ _ (isInstance (.ref t) (.type "dict")>>=_) _ _ _
  refine Z5l (wpAny_isInstance hT Nl ?_)
  rw [if_neg (by decide)]
  refine Z5l (wpAny_specialOf hT PyProof.Rows.slot_tuple_getitem.lookup ?_)
  dsimp only
  rw [if_pos (by decide +kernel)]
  refine Z5p ?_
  rw [if_neg (by decide)]
  refine Z5l (PyProof.Rows.len_tuple ht hz ?_)
  refine Z5l (Z5o (a:=some (ys.size:Int)) rfl ?_)
  try dsimp only
  refine Z5l ?_
  unfold Builtin.SmallTypes.newRecord
  dsimp only
  refine wpAny_newObj_type ?_
  exact Z5p ⟨_,rfl,h _⟩
theorem T4{t:Addr}{ys:Array Value}{Q:Value->Shared->Prop}(ht:IsTup s.heap t ys)(hz:(ys.size:Int)<2^63)
  (h : ∀ tk,Q (.ref s.heap.objs.size) {s with heap:=s.heap.push (revT t ((ys.size:Int)-1)),toks:=tk}):wpAny (model prog w) A (call (.type "reversed") [.ref t]) Q E s :=
 callType_new H8 (by decide) (F.typeCall_reversed_1 _) (F.newCall_reversed_1 _) (fun obj=>F.args_object_init_2 obj _) F.entry_reversed_new
  (Rx t ys hz) ⟨ht,fun tk=>⟨⟨_,Z5i _ rfl,rfl⟩,h tk⟩⟩
theorem Lp{I t:Addr}{i:Int}{Q:Value->Shared->Prop}(hI:s.heap.get? I=some (revT t i))(h:Q (.ref I) s):wpAny (model prog w) A (pyIter (.ref I)) Q E s:=by
 have hT:=Ue (s:=s) hI
 refine wpAny_pyIter_slot hT I3 (Z5m I3 hT T6 ?_ (Rd _))
 show wpAny _ _ (ret (.ref I)) _ _ s
 exact Z5p ⟨_,rfl,"reversed",_,hT,rev_next.lookup,h⟩
theorem Ac{I t:Addr}{i:Nat}{ys:Array Value}{y:Value}{Q:Option Value->Shared->Prop}(hI:s.heap.get? I=some (revT t (i:Int)))(ht:IsTup s.heap t ys)(hb:(i:Int)<2^63)(hy:ys[i]?=some y)
  (h : ∀ h' tk,h'.get? I=some (revT t ((i:Int)-1))->Z5g I s.heap h'->Q (some y) {s with heap:=h',toks:=tk}):wpAny (model prog w) A (pyNext (.ref I)) Q E s:=by
 have hT:=Ue (s:=s) hI
 have hTt:s.TypeIs (.ref t) "tuple" :=by obtain⟨o,ho,hc,_⟩:=ht;exact⟨o,ho,hc⟩
 unfold pyNext
 refine Z5l (wpAny_attempt (wpAny_callSpecial?_slot (name:=Z5k "__next__") hT rev_next (Z5m rev_next hT Kw ?_ (Ql _))))
 unfold Builtin.«reversed.__next__»
 refine Z5l (Z5o (a:=(Value.ref I,[])) rfl ?_)
 try dsimp only
 refine Z5l (wpAny_field hI rfl (x:=.ref t) rfl ?_)
 refine Z5l (wpAny_field hI rfl (x:=rawInt (i:Int)) rfl ?_)
 show wpAny _ _ (if (i:Int)<0 then _ else _) _ _ s
 rw [if_neg (by exact ar161 hb)]
 refine Z5l (wpAny_specialOf hTt PyProof.Rows.slot_tuple_getitem.lookup ?_)
 rw [if_neg (by decide)]
 refine Z5l (wpAny_mkInt ?_)
 refine Z5l (wpAny_attempt ?_)
 have hlt:=(Z5a.mp hy).1
 refine PyProof.Rows.getItem_tuple (j:=i) (x:=y) ht (by exact ar162 hb) hb ?_ hy ?_
 ·unfold seqIndex?
  rw [if_neg (by exact ar161 hb : ¬ ((i:Int)<0)),if_pos (by simp;exact ar163 hlt),Z6v]
 ·dsimp only
  refine Z5l (wpAny_field hI rfl (x:=rawInt (i:Int)) rfl ?_)
  show wpAny _ _ (setField (.ref I) 1 (rawInt ((i:Int)-1))>>=_) _ _ _
  refine Z5l (wpAny_setField_rec (s:={s with toks:=s.toks+1}) hI (by simp) fun h' h1 h2=>?_)
  exact Z5p ⟨y,rfl,Z5p (h h' _ h1 h2)⟩
theorem Nb{I t:Addr}{Q:Option Value->Shared->Prop}(hh:A.handled=none)(hI:s.heap.get? I=some (revT t (-1)))
  (h : ∀ h',Heap.ExtBut I s.heap h'->Q none {s with heap:=h'}):wpAny (model prog w) A (pyNext (.ref I)) Q E s:=by
 have hT:=Ue (s:=s) hI
 unfold pyNext
 refine Z5l (wpAny_attempt (wpAny_callSpecial?_slot (name:=Z5k "__next__") hT rev_next (Z5m rev_next hT Kw ?_ (Ql _))))
 unfold Builtin.«reversed.__next__»
 refine Z5l (Z5o (a:=(Value.ref I,[])) rfl ?_)
 try dsimp only
 refine Z5l (wpAny_field hI rfl (x:=.ref t) rfl ?_)
 refine Z5l (wpAny_field hI rfl (x:=rawInt (-1)) rfl ?_)
 show wpAny _ _ (if (-1:Int)<0 then _ else _) _ _ s
 rw [if_pos (by decide)]
 refine Z5l (wpAny_rule ?_)
 refine Z5l ?_
 show wpAny _ _ (setField (.ref I) 1 (rawInt (-1))>>=_) _ _ _
 refine Z5l (wpAny_setField_rec hI (by simp) fun h1 g1 s1=>?_)
 refine wpAny_setField_rec (s:={s with heap:=h1}) g1 (by simp) fun h2 g2 s2=>?_
 have ext:Heap.ExtBut I s.heap h2:=fun b o hb e=>(s2.2 b hb).trans ((s1.2 b hb).trans e)
 unfold Builtin.SmallTypes.stopIteration
 refine Z5l (Z5l ?_)
 refine Z5l (wpAny_newObj_type ?_)
 refine Z5l (m:=firstArgMember _ _) (Z5o (a:=Value.none) (by first|rfl|(simp only [firstArgMember];rfl)) ?_)
 refine wpAny_newObj_type ?_
 unfold raiseNew
 dsimp only
 refine Z5l (wpAny_handled ?_)
 rw [show A.in1.handled=none from hh]
 refine Z5l (Z5p (wpAny_throw ?_))
 refine Z5l (wpAny_isInstance (T := "StopIteration") (b:=true) ⟨_,Z5i _ rfl,rfl⟩ isSubtype_stop ?_)
 exact Z5p (h _ ((ext.push _).push _))
theorem H9:typeLookup (.type "reversed") "__len__" =pure none:=by rw [typeLookup_type,builtinLookup_eq_fast];kernel_rfl
theorem Td:splitId "reversed.__length_hint__" =some ("reversed","__length_hint__"):=by kernel_rfl
theorem Cw{I t:Addr}{ys:Array Value}{Q:Bool->Shared->Prop}(hI:s.heap.get? I=some (revT t ((ys.size:Int)-1)))(ht:IsTup s.heap t ys)(hz:ys.size<=sizeLine)
  (h : ∀ b tk,Q b {s with toks:=tk}):wpAny (model prog w) A (Builtin.List.listLengthHint (.ref I)) Q E s:=by
 have hT:=Ue (s:=s) hI
 have hz':(ys.size:Int)<2^62:=by rw [sizeLine_eq] at hz;exact ar164 hz
 unfold Builtin.List.listLengthHint
 refine Z5l (wpAny_specialOf hT H9 ?_)
 dsimp only
 rw [if_neg (by show ¬ (false=true);exact Z5t)]
 rw [if_neg (by decide)]
 refine Z5l (wpAny_specialOf hT rev_hint.lookup ?_)
 dsimp only
 rw [Td]
 dsimp only
 refine Z5l (wpAny_isInstance hT F.sub_reversed_self ?_)
 rw [if_neg (by decide)]
 rw [if_neg (by show ¬ (_=true);decide +kernel)]
 refine Z5l (wpAny_rule ?_)
 refine Z5l (Z5o (rev_hint.bind _) ?_)
 dsimp only
 refine Z5l (wpAny_attempt (Z5m rev_hint hT T5 ?_ (Rc _)))
 unfold Builtin.«reversed.__length_hint__»
 refine Z5l (Z5o (a:=Value.ref I) rfl ?_)
 refine Z5l (wpAny_field hI rfl (x:=.ref t) rfl ?_)
 rw [if_neg (show ¬ ((Value.ref t==Value.none)=true) from Z5t)]
 refine Z5l (PyProof.Rows.len_tuple ht (by exact ar165 hz') ?_)
 refine Z5l (Z5o (a:=some (ys.size:Int)) rfl ?_)
 dsimp only
 refine Z5l (wpAny_field (s:={s with toks:=s.toks+1+1}) hI rfl (x:=rawInt ((ys.size:Int)-1)) rfl ?_)
 show wpAny _ _ (if (ys.size:Int)<(ys.size:Int)-1+1 then _ else _) _ _ _
 rw [if_neg (by exact ar166)]
 unfold retInt
 refine Z5l (wpAny_mkInt (Z5p ⟨_,rfl,?_⟩))
 dsimp only
 refine Z5l (Z5o (a:=some ((ys.size:Int)-1+1)) rfl ?_)
 dsimp only
 have q1:Builtin.List.listFitsIndex ((ys.size:Int)-1+1)=true:=by
  unfold Builtin.List.listFitsIndex
  simp only [Z5q,decide_eq_true_eq]
  exact ar167 hz'
 have q2:Builtin.List.listTooLong ((ys.size:Int)-1+1).toNat=false:=by
  unfold Builtin.List.listTooLong
  exact decide_eq_false (by exact ar168 hz hz')
 rw [q1,q2]
 rw [if_neg (by decide),if_neg (by exact ar169 hz'),if_neg (by decide)]
 exact Z5p (h _ _)
theorem Hk{l:Addr}{xs:Array Value}{n:Nat}{Q:Unit->Shared->Prop}(hl:s.heap.get? l=some ⟨.type "list",none,.seq xs n,#[]⟩)(hz:xs.size+1<=sizeLine)
  (h : ∀ h' n',h'.get? l=some ⟨.type "list",none,.seq xs n',#[]⟩->Z5g l s.heap h'->Q () {s with heap:=h'}):wpAny (model prog w) A (Builtin.List.listTouch (.ref l)) Q E s:=by
 unfold Builtin.List.listTouch Builtin.List.listUpdate
 refine Z5l (wpAny_updateSeq hl rfl ?_ (by exact ar8 hz) (by rw [Z5d];exact ar170 hz))
 have g1:=Heap.get?_update_self (Obj.mapSeq (·.push .none)) hl rfl
 refine wpAny_updateSeq (s:={s with heap:=s.heap.update l (Obj.mapSeq (·.push .none))}) g1 rfl ?_ (by rw [Z5d];exact hz) (by rw [Array.pop_push];exact ar171 hz)
 have g2:=Heap.get?_update_self (Obj.mapSeq (·.pop)) g1 rfl
 obtain⟨n',e⟩ : ∃ n',Obj.mapSeq (fun x=>x.pop) (Obj.mapSeq (fun x=>x.push Value.none) {cls:=Value.type "list",data:=Data.seq xs n})={cls:=Value.type "list",data:=Data.seq xs n'}:=by
  simp only [Obj.mapSeq,Array.pop_push];exact⟨_,rfl⟩
 rw [e] at g2
 exact h _ n' g2 ((Z5g.update ..).trans (Z5g.update ..))
end
noncomputable abbrev RevIt(xs ys:Array Value)(j:Nat)(v:Value):Prop:=(j<xs.size->xs[j]?=some v)/\(xs.size<=j->ys[ys.size-1-(j-xs.size)]?=some v)
theorem Walks.revT{prog:Program}{w:World}{A:Around}(hh:A.handled=none)(I t:Addr)(hne:t≠I)(xs ys:Array Value)(hz:ys.size<=sizeLine) :
  Walks prog w A I [I,t] [I] (xs.size+ys.size) (RevIt xs ys) (fun i h=>xs.size<=i/\i<=xs.size+ys.size/\h.get? I=some (revT t ((ys.size:Int)-1-((i-xs.size:Nat):Int)))/\IsTup h t ys) where
 sub:=fun b hb=>by simp at hb;simp [hb]
 frame:=fun _ _ _ x hk=>⟨x.1,x.2.1,hk I (by simp) _ x.2.2.1,let ⟨o,ho,r⟩:=x.2.2.2;⟨o,hk t (by simp) _ ho,r⟩⟩
 item:=fun i s Q E hi x hQ=>by
  refine byC fun hG=>?_
  obtain⟨h1,h2,hI,ht⟩:=x
  refine hG ?_
  clear hG
  rw [sizeLine_eq] at hz
  have e:(ys.size:Int)-1-((i-xs.size:Nat):Int)=((ys.size-1-(i-xs.size):Nat):Int):=by exact ar172 hi h1
  rw [e] at hI
  have hx:ys[ys.size-1-(i-xs.size)]?=some (ys[ys.size-1-(i-xs.size)]'(by exact ar173 e)):=Z58 (by exact ar173 e)
  refine Ac hI ht (by exact ar174 hz hi h1 e) hx fun h' tk a1 a2=>?_
  refine hQ _ h' tk ⟨fun q=>absurd q (Nat.not_lt.mpr h1),fun _=>hx⟩ ⟨by exact ar175 h1,by exact ar176 hi e,?_,?_⟩ fun b o hb eo=>(a2.2 b (fun q=>hb (by simp [q]))).trans eo
  ·rw [a1];congr 2;exact ar177 h1 e
  ·obtain⟨o,ho,r⟩:=ht;exact⟨o,(a2.2 t hne).trans ho,r⟩
 done:=fun s Q E x hQ=>by
  refine byC fun hG=>?_
  obtain⟨h1,h2,hI,ht⟩:=x
  refine hG ?_
  clear hG
  have e:(ys.size:Int)-1-((xs.size+ys.size-xs.size:Nat):Int) = -1:=by exact ar178 h1
  rw [e] at hI
  exact Nb hh hI fun h' he=>hQ h' s.toks fun b o hb eo=>he b o (fun q=>hb (by simp [q])) eo
 self:=fun _ _ _ _ x hQ=>Lp x.2.2.1 hQ
theorem A8{xs ys acc:Array Value}(h:ItemsOf (RevIt xs ys) acc (xs.size+ys.size)):acc.toList=xs.toList++ys.toList.reverse:=by
 refine Z2m fun j=>?_
 have hl:acc.toList.length=xs.size+ys.size:=by simpa using h.1
 by_cases hj:j<xs.size+ys.size
 ·have hj':j<acc.size:=h.1.symm▸hj
  have hv:=h.2 j (acc[j]'hj') (Z58 hj')
  rw [Z5b,Z58 hj']
  by_cases q:j<xs.size
  ·rw [Z2r (by simpa using q),Z5b,hv.1 q]
  ·have q':xs.size<=j:=Z10 q
   rw [Z2s (by simpa using q'),List.getElem?_reverse (by simp;exact ar179 hj q),<-hv.2 q']
   simp
 ·rw [Z2w (by exact ar180 hl hj),Z2w (by simp;exact ar181 hj)]
theorem Iu{prog:Program}{w:World}{A:Around}{E:Value->Shared->Prop}{s:Shared}{l I t:Addr}{xs ys:Array Value}{n:Nat}{Q:Value->Shared->Prop}(hh:A.handled=none)(hl:s.heap.get? l=some ⟨.type "list",none,.seq xs n,#[]⟩)
  (hI:s.heap.get? I=some (revT t ((ys.size:Int)-1))) (ht:IsTup s.heap t ys) (hz:xs.size+ys.size+1<=sizeLine)
  (h : ∀ h' tk zs n',h'.get? l=some ⟨.type "list",none,.seq zs n',#[]⟩->zs.toList=xs.toList++ys.toList.reverse->(∀ b o,b≠l->b≠I->s.heap.get? b=some o->h'.get? b=some o)->Q .none {s with heap:=h',toks:=tk}) :
  wpAny (model prog w) A (call (.builtin "list.extend") [.ref l,.ref I]) Q E s:=by
 have hT:=Ue (s:=s) hI
 have hlI:l≠I:=fun q=>by subst q;rw [hl] at hI;exact absurd (show Value.type "list" =Value.type "reversed" from congrArg Obj.cls (Z54 hI)) (by decide)
 have hlt:l≠t:=fun q=>by subst q;obtain⟨o,ho,hc,_⟩:=ht;rw [hl] at ho;cases ho;exact absurd (show Value.type "list" =Value.type "tuple" from hc) (by decide)
 have htI:t≠I:=fun q=>by subst q;obtain⟨o,ho,hc,_⟩:=ht;rw [hI] at ho;cases ho;exact absurd (show Value.type "reversed" =Value.type "tuple" from hc) (by decide)
 have hTl:s.TypeIs (.ref l) "list" :=⟨_,hl,rfl⟩
 refine wpAny_call (codeAny_call_builtin PySem.F.slot_list_extend.plain PySem.F.entry_list_extend (PySem.F.slot_list_extend.check _ _ _ _ _ _ _ _ hTl (PySem.F.args_list_extend_2 _ _) ?_))
 unfold Builtin.«list.extend»
 refine Z5l (Z5o (a:=(Value.ref l,Value.ref I)) rfl ?_)
 dsimp only
 unfold Builtin.List.listExtendWith
 refine Z5l (wpAny_typeOf hT ?_)
 have hne:Builtin.List.listSameRef (.ref l) (.ref I)=false:=by
  show (l==I)=false
  exact beq_eq_false_iff_ne.mpr hlI
 rw [hne]
 rw [if_neg (by decide)]
 refine Z5l (Lp hI ?_)
 refine Z5l (Z5n (Cw hI ht (by exact ar182 hz) fun b tk=>?_))
 have loop : ∀ h1 n1 tk1,h1.get? l=some ⟨.type "list",none,.seq xs n1,#[]⟩->Z5g l s.heap h1->(Code.builtin "list.extend.loop" ⟨[.ref l,.ref I,.none],[]⟩).quiet=true/\codeAny (model prog w) A (.builtin "list.extend.loop" ⟨[.ref l,.ref I,.none],[]⟩) (wants Q E) {s with heap:=h1,toks:=tk1}:=fun h1 n1 tk1 g1 s1=>by
  refine⟨plainId_quiet F.plain_extend_loop _,?_⟩
  refine codeAny_extend_loopS (Walks.toS (Walks.revT (A:=A.in1) hh I t htI xs ys (by exact ar182 hz))) (by exact ar183 hz) l (by simp [hlI,hlt]) .none (xs.size+ys.size-xs.size) xs.size _ xs n1 rfl (by exact ar184)
   ⟨Z12 _,by exact ar184,?_,?_⟩ g1 ⟨rfl,fun j v e=>⟨fun _=>e,fun q=>absurd (Z5a.mp e).1 (Nat.not_lt.mpr q)⟩⟩ fun s' acc' c' hm g2 hi=>?_
  ·show h1.get? I=_
   rw [s1.2 I (Ne.symm hlI),hI];simp
  ·obtain⟨o,ho,r⟩:=ht;exact⟨o,(s1.2 t (Ne.symm hlt)).trans ho,r⟩
  ·have e:s'={s with heap:=s'.heap,toks:=s'.toks}:=by
    refine byC fun hG=>?_
    obtain⟨a1,a2,a3,a4,a5⟩:=hm
    obtain⟨b1,b2,b3,b4,b5⟩:=s'
    refine hG ?_
    clear hG
    simp only at a2 a3 a4
    subst a2 a3 a4
    rfl
   rw [e]
   exact h s'.heap s'.toks acc' c' g2 (A8 hi) fun b o q1 q2 q3=>hm.heap b o (by simp [q1,q2]) ((s1.2 b q1).trans q3)
 cases b with
 |true =>
  refine wt rfl (Z5l (wpAny_rule ?_))
  exact Z5l (Hk hl (by exact ar185 hz) fun h1 n1 g1 s1=>Z5p (loop h1 n1 _ g1 s1))
 |false=>exact wf rfl (Z5p (loop s.heap n _ hl (Z5g.refl _ _)))
end Lay
namespace Lay
variable{C:Cx}
theorem Ly{y:Str}{q pos':Pos}{e:PySem.Expr}{m:M V}{g:Value}(hg:Yb C (eval (.Name y q) C.env) (pure (.val g)))(hok:CallOk C.W g)(he:Yb C (eval e C.env) m)
  (hs:starEach [e] C.env = [(false,eval e C.env)]) {hY ζ:HM} {ρ:RM} {st st':St} {s:Shared} {P:Value->Shared->Prop} {E:Value->Shared->Prop} {v:V} (ok:C.Ok) (rel:Rel C hY ζ ρ st s.heap) (em:m st=some (v,st'))
  (k : ∀ ζ' ρ' h' tk' x,Gr C.T s.heap ζ ρ h' ζ' ρ'->Rel C hY ζ' ρ' st' h'->VR C.W ζ' ρ' v x->wpAny (model C.W.prog C.W.w) C.A (call g [x]) P E {s with heap:=h',toks:=tk'}) :
  wpAny (model C.W.prog C.W.w) C.A (eval (.Call (.Name y q) [e] [] pos') C.env) P E s:=by
 refine wpAny_Call_NameR (hg hY ζ ρ st s _ E ok rel _ _ rfl fun ζ1 ρ1 h1 tk1 z G1 rel1 r1=>?_)
 change _=_ at r1
 subst r1
 have ht:backTo pos' (starEach [e] C.env)=(false,(backTo pos' (starEach [e] C.env)).head!.2) :: []:=by rw [hs];rfl
 refine hok _ _ _ _ _ _ _ (by rw [hs];rfl) (V2 (.inr ⟨_,_,ht⟩) ?_)
 refine spliced_more (rest := []) (he hY ζ1 ρ1 st _ _ E ok rel1 v st' em fun ζ2 ρ2 h2 tk2 x G2 rel2 r2=>?_) hs
 exact spliced_none ⟨rel2.ok,k ζ2 ρ2 h2 tk2 x (G1.trans G2) rel2 r2⟩
noncomputable def Rv(o v:V):M V:=fun s=>(un V.ref o).bind fun n=>(un V.tup v).bind fun ys=>((s.hp n).bind (un O.list)).bind fun xs =>
 if (xs++ys).length<lim then some (.none,{s with hp:=upd s.hp n (some (.list (xs++ys.reverse)))}) else none
inductive ExtRev(o v:V)(s s':St)(r:V):Prop
 |mk (n:Nat) (xs ys:List V) (ho:o = .ref n) (hv:v = .tup ys) (hn:s.hp n=some (.list xs)) (hl:(xs++ys).length<lim) (hr:r = .none) (hs:s'={s with hp:=upd s.hp n (some (.list (xs++ys.reverse)))})
theorem N9{o v r:V}{s s':St}(e:Rv o v s=some (r,s')):ExtRev o v s s' r:=by
 refine byC fun hG=>?_
 obtain⟨n,h1,e⟩:=ob e
 obtain⟨ys,h2,e⟩:=ob e
 obtain⟨xs,h3,e⟩:=ob e
 obtain⟨h4,e⟩:=io e
 obtain⟨O,h3,h5⟩:=ob h3
 injection e
 exact hG ⟨n,xs,ys,Zi h1,Zi h2,by rw [h3,Zi h5],h4,rfl,rfl⟩
noncomputable def X.extRev(mo me:M V):M V:=do let o<-mo;(fun s=>M.guard (U9 o s) s);let v<-me;Rv o v
theorem Ij{y:Str}{q apos pos pos':Pos}{o e:PySem.Expr}{mo me:M V}(pl:Sem Bool)(hg:Yb C (eval (.Name y q) C.env) (pure (.val (.type "reversed"))))(ho:Yb C (eval o C.env) mo)(he:Yb C (eval e C.env) me)
  (hs:starEach [e] C.env = [(false,eval e C.env)]:=by rfl) (hs2:starEach [.Call (.Name y q) [e] [] pos'] C.env = [(false,eval (.Call (.Name y q) [e] [] pos') C.env)]:=by rfl)
  (hev:eval (.Call (.Attribute o "extend" apos) [.Call (.Name y q) [e] [] pos'] [] pos) C.env=(do
   let ov<-eval o C.env
   standAt apos.atName
   let (f,first)<-holding [ov] (getMethod ov "extend" pl)
   callWith pos f first (backTo pos (starEach [.Call (.Name y q) [e] [] pos'] C.env)) []):=by rfl) :
  Yb C (eval (.Call (.Attribute o "extend" apos) [.Call (.Name y q) [e] [] pos'] [] pos) C.env) (X.extRev mo me):=by
 intro hY ζ ρ st s P E ok rel r st' em kk
 refine byC fun hG=>?_
 obtain⟨u,s1,e1,em⟩:=Z6z em
 obtain⟨_,s2,e2,em⟩:=Z6z em
 obtain⟨hl,hs2'⟩:=Z70 e2
 injection hs2'
 obtain⟨v,s3,e3,em⟩:=Z6z em
 refine hG ?_
 clear hG
 rw [hev]
 refine Z5l (ho hY ζ ρ st s _ E ok rel u _ e1 fun ζ1 ρ1 h1 tk1 x G1 rel1 r1=>Z5l (wpAny_standAt (Z5l (Z5n ?_))))
 refine MethAt.list PySem.F.slot_list_extend PySem.F.type_list_extend hY ζ1 ρ1 s1 _ pl _ E u x ok rel1 r1 hl ?_
 have ht:backTo pos (starEach [.Call (.Name y q) [e] [] pos'] C.env)=(false,(backTo pos (starEach [.Call (.Name y q) [e] [] pos'] C.env)).head!.2) :: []:=by rw [hs2];rfl
 refine(CallOk.builtin (W:=C.W)) _ _ _ _ _ _ _ (by rw [hs2];rfl) (V2 (.inr ⟨_,_,ht⟩) ?_)
 refine spliced_more (rest := []) (Ly hg CallOk.type he hs ok rel1 e3 fun ζ2 ρ2 h2 tk2 z G2 rel2 r2=>?_) hs2
 refine byC fun hG=>?_
 obtain⟨n,xs,ys,rfl,rfl,hn,hlen,rfl,rfl⟩:=N9 em
 obtain⟨t,zs,rfl,htu,hz⟩:=Fj rel2 r2
 refine hG ?_
 clear hG
 have hzl:zs.size=ys.length:=by rw [<-hz.length];simp
 have hll:=J3 (n:=xs.length+ys.length+1) (by simp at hlen;exact ar186 hlen)
 have hsl:=sizeLine_eq
 refine T4 htu (by exact ar187 hzl hll hsl) fun tk3=>spliced_none ⟨rel2.ok.keeps fun b o e=>Z5h _ e,?_⟩
 have r1':=VR.gr rel1 G2 r1
 refine byC fun hG=>?_
 obtain⟨a,ha,rfl⟩:=r1'
 obtain⟨a',ob,h3,h4,xa,⟨c,rfl⟩,h5⟩:=rel2.slot n _ hn
 refine hG ?_
 clear hG
 obtain rfl:a'=a:=Z54 (h3.symm.trans ha)
 have hxl:xa.size=xs.length:=by rw [<-h5.length];simp
 obtain⟨ot,ho1,ho2⟩:=htu
 refine Iu ok.room.handled (Z5h _ h4) (Z5i _ rfl) ⟨ot,Z5h _ ho1,ho2⟩ (by exact ar188 hzl hll hsl hxl) fun h' tk' ws c' g1 g2 g3=>?_
 obtain⟨R',G'⟩:=rel2.setK ha (O:=.list (xs++ys.reverse)) (fun b o q e=>g3 b o q (fun q'=>by rw [q',Yo] at e;injection e) (Z5h _ e)) g1 ⟨ws,⟨c',rfl⟩,by rw [g2];exact h5.append hz.reverse⟩
 exact kk ζ2 ρ2 h' tk' _ ((G1.trans G2).trans G') R' rfl
end Lay
namespace Lay
noncomputable def itr{α:Type}(f:α->α):Nat->α->α
 |0,x=>x
 |n+1,x=>itr f n (f x)
theorem Qc{α:Type}(f:α->α) : ∀ (a b:Nat) (x:α),itr f (a+b) x=itr f b (itr f a x)
 |0,b,x=>by rw [Nat.zero_add];rfl
 |a+1,b,x=>by rw [Z0q];exact Qc f a b (f x)
noncomputable def lcg(m x:Nat):Nat:=(x*5+1)%m
noncomputable def Br(m:Nat):Prop:=m=7\/m=31\/m=127\/m=511
noncomputable def Lb(m:Nat):Nat->Nat->Nat->Nat
 |0,_,acc=>acc
 |n+1,x,acc=>Lb m n (lcg m x) (acc|||2^x)
theorem B4{m j:Nat} : ∀ (n x acc:Nat),(Lb m n x acc).testBit j=true->acc.testBit j=true\/∃ k,k<n/\itr (lcg m) k x=j
 |0,x,acc,h=>.inl h
 |n+1,x,acc,h=>by
  rcases B4 n (lcg m x) _ h with h|⟨k,h1,h2⟩
  ·rw [Z23,Nat.testBit_two_pow,Z5x,decide_eq_true_eq] at h
   exact h.imp id fun e=>⟨0,Z21 _,e⟩
  ·exact .inr ⟨k+1,Nat.succ_lt_succ h1,h2⟩
theorem lcg_all{m:Nat}(hm:Br m){i j:Nat}(hi:i<=m)(hj:j<=m) : ∃ k,k<=m/\itr (lcg (m+1)) k i=j:=by
 have key:Lb (m+1) (m+1) 0 0=2^(m+1)-1/\itr (lcg (m+1)) (m+1) 0=0:=by
  rcases hm with rfl|rfl|rfl|rfl<;>decide +kernel
 have all : ∀ j,j<=m->∃ k,k<=m/\itr (lcg (m+1)) k 0=j:=fun j hj=>by
  have:(Lb (m+1) (m+1) 0 0).testBit j=true:=by rw [key.1,Z24];exact decide_eq_true (by exact ar189 hj)
  rcases B4 _ _ _ this with h|⟨k,h1,h2⟩
  ·simp at h
  ·exact⟨k,by exact ar190 h1,h2⟩
 refine byC fun hG=>?_
 obtain⟨a,ha,rfl⟩:=all i hi
 obtain⟨b,hb,rfl⟩:=all j hj
 refine hG ?_
 clear hG
 by_cases q:a<=b
 ·exact⟨b-a,by exact ar191 hb q,by rw [<-Qc];congr 1;exact ar192 q⟩
 ·exact⟨m+1-a+b,by exact ar193 ha q,by rw [<-Qc,show a+(m+1-a+b)=(m+1)+b by exact ar194 ha,Qc,key.2]⟩
noncomputable abbrev Vj(m:Nat)(p:Nat×Nat):Nat×Nat:=SetTable.leap m p.1 p.2
theorem Ru{m:Nat}(p:Nat×Nat):(Vj m p).1<=m:=Z0z (Z1m _ (Z21 _))
theorem N4{m:Nat} : ∀ (n:Nat) (p:Nat×Nat),p.2<32^n->(itr (Vj m) n p).2=0
 |0,p,h=>by simp at h;exact h
 |n+1,p,h=>N4 n _ (by show p.2/32<32^n;rw [Nat.pow_succ] at h;exact ar195 h)
theorem N5{m:Nat} : ∀ (n i:Nat),itr (Vj m) n (i,0)=(itr (lcg (m+1)) n i,0)
 |0,_=>rfl
 |n+1,i=>by
  have e:Vj m (i,0)=(lcg (m+1) i,0):=by simp [Vj,SetTable.leap,lcg]
  show itr (Vj m) n (Vj m (i,0))=_
  rw [e];exact N5 n _
theorem Z0d{m:Nat} : ∀ (n:Nat) (p:Nat×Nat),p.1<=m->(itr (Vj m) n p).1<=m
 |0,_,h=>h
 |n+1,p,_=>Z0d n _ (Ru p)
theorem Lu{m:Nat}(hm:Br m){p:Nat×Nat}(h1:p.1<=m)(h2:p.2<2^64){j:Nat}(hj:j<=m) : ∃ k,k<=m+13/\(itr (Vj m) k p).1=j:=by
 have h0:(itr (Vj m) 13 p).2=0:=N4 13 p (Z1a h2 (by decide))
 obtain⟨k,hk,e⟩:=lcg_all hm (Z0d 13 p h1) hj
 refine⟨13+k,by exact ar196 hk,?_⟩
 rw [Qc]
 have:itr (Vj m) 13 p=((itr (Vj m) 13 p).1,0):=by rw [<-h0]
 rw [this,N5];exact e
structure TabOk(t:SetTable)(n:Nat):Prop where
 mask:Br t.mask
 size:t.place.size=n
 rise:t.place.toList.Pairwise (· < ·)
 low : ∀ p∈t.place.toList,p<=t.mask
 dum:t.dummies = #[]
 room:n*5<t.mask*3
 plain:t.plain=true
structure GoodP(t:SetTable)(p:SetTable.Probe):Prop where
 dum:p.dummy=none
 lo:p.i<=p.j
 run:p.j+p.more=SetTable.runEnd t.mask p.i
 i:p.i<=t.mask
 pert:p.perturb<2^64
theorem Ug{m i:Nat}(h:i<=m):SetTable.runEnd m i<=m/\SetTable.runEnd m i<=i+9/\i<=SetTable.runEnd m i:=by
 unfold SetTable.runEnd;split<;>(first|exact ar197 (by assumption)|exact ar198 h (by assumption))
theorem GoodP.j{t:SetTable}{p:SetTable.Probe}(g:GoodP t p):p.j<=t.mask:=by
 have:=Ug g.i;have:=g.run;exact ar199 (by assumption) this
theorem GoodP.start{t:SetTable}(h:Int):GoodP t (t.probeStart h):=by
 have hb:SetTable.bits h<2^64:=by
  unfold SetTable.bits
  have:=Z65 h (show (0:Int)<2^64 by decide)
  have:=Z66 h (show (2^64:Int)≠0 by decide)
  exact ar200 (by assumption)
 have hi:SetTable.bits h%(t.mask+1)<=t.mask:=Z0z (Z1m _ (Z21 _))
 have:=Ug hi
 refine⟨rfl,Z12 _,?_,hi,hb⟩
 show SetTable.bits h%(t.mask+1)+(SetTable.runEnd t.mask (SetTable.bits h%(t.mask+1))-SetTable.bits h%(t.mask+1))=SetTable.runEnd t.mask (SetTable.bits h%(t.mask+1))
 exact ar201 this
theorem L5{t:SetTable}{p:SetTable.Probe}(h:0<p.more):t.advance p={p with j:=p.j+1,more:=p.more-1}:=by
 unfold SetTable.advance;rw [if_pos h]
theorem Rb{t:SetTable}{p:SetTable.Probe}(h:p.more=0):t.advance p={p with j:=(Vj t.mask (p.i,p.perturb)).1,more:=SetTable.runEnd t.mask (Vj t.mask (p.i,p.perturb)).1-(Vj t.mask (p.i,p.perturb)).1,i:=(Vj t.mask (p.i,p.perturb)).1,perturb:=p.perturb/32}:=by
 unfold SetTable.advance;rw [if_neg (by exact ar202 h)];rfl
theorem GoodP.next{t:SetTable}{p:SetTable.Probe}(g:GoodP t p):GoodP t (t.advance p):=by
 have:=g.run
 have:=g.lo
 by_cases q:0<p.more
 ·rw [L5 q]
  exact⟨g.dum,by show p.i<=p.j+1;exact ar203 (by assumption) this,by show p.j+1+(p.more-1)=SetTable.runEnd t.mask p.i;exact ar204 (by assumption) q,g.i,g.pert⟩
 ·rw [Rb (by exact ar205 q)]
  have hi:=Ru (m:=t.mask) (p.i,p.perturb)
  have:=Ug hi
  refine⟨g.dum,Z12 _,?_,hi,Z17 (Nat.div_le_self _ _) g.pert⟩
  show (Vj t.mask (p.i,p.perturb)).1+(SetTable.runEnd t.mask (Vj t.mask (p.i,p.perturb)).1-(Vj t.mask (p.i,p.perturb)).1)=SetTable.runEnd t.mask (Vj t.mask (p.i,p.perturb)).1
  exact ar201 this
theorem Mq{t:SetTable} : ∀ (n:Nat) (p:SetTable.Probe),p.more=n->GoodP t p->∃ p',itr t.advance (n+1) p=p'/\GoodP t p'/\p'.j=p'.i/\(p'.i,p'.perturb)=Vj t.mask (p.i,p.perturb)
 |0,p,h,g=>by
  refine⟨_,rfl,g.next,?_,?_⟩
  ·show (t.advance p).j=(t.advance p).i;rw [Rb h]
  ·show ((t.advance p).i,(t.advance p).perturb)=_;rw [Rb h];rfl
 |n+1,p,h,g=>by
  have e:=L5 (t:=t) (p:=p) (by exact ar206 h)
  obtain⟨p',h1,h2,h3,h4⟩:=Mq n (t.advance p) (by rw [e];show p.more-1=n;exact ar207 h) g.next
  exact⟨p',h1,h2,h3,by rw [h4,e]⟩
theorem N6{t:SetTable} : ∀ (k:Nat) (p:SetTable.Probe),GoodP t p->∃ d p',d<=10*(k+1)/\itr t.advance d p=p'/\GoodP t p'/\p'.j=p'.i/\(p'.i,p'.perturb)=itr (Vj t.mask) (k+1) (p.i,p.perturb)
 |0,p,g=>by
  refine byC fun hG=>?_
  obtain⟨p',h1,h2,h3,h4⟩:=Mq p.more p rfl g
  refine hG ?_
  clear hG
  have:=Ug g.i;have:=g.run;have:=g.lo
  exact⟨_,p',by exact ar208 (by assumption) (by assumption) this,h1,h2,h3,h4⟩
 |k+1,p,g=>by
  refine byC fun hG=>?_
  obtain⟨d,p',h0,h1,h2,h3,h4⟩:=N6 k p g
  obtain⟨p2,g1,g2,g3,g4⟩:=Mq p'.more p' rfl h2
  refine hG ?_
  clear hG
  have:=Ug h2.i;have:=h2.run;have:=h2.lo
  refine⟨d+(p'.more+1),p2,by exact ar209 h0 h3 (by assumption) (by assumption),by rw [Qc,h1,g1],g2,g3,?_⟩
  rw [g4,h4]
  exact(Qc (Vj t.mask) (k+1) 1 (p.i,p.perturb)).symm
theorem Ar{t:SetTable}{n j:Nat}(ok:TabOk t n)(h:j∉t.place.toList):t.slot j = .empty:=by
 unfold SetTable.slot
 have h1:(t.place[SetTable.below t.place j]?==some j)=false:=by
  rw [beq_eq_false_iff_ne];intro e
  exact h (Array.mem_toList_iff.mpr (Array.mem_of_getElem? e))
 have h2:SetTable.has t.dummies j=false:=by rw [ok.dum];unfold SetTable.has;simp
 simp only [h1,h2,Z5s,if_false]
theorem Iy{l:List Nat}{m:Nat}(h:l.length<=m) : ∃ j,j<=m/\j∉l:=by
 refine Z5f fun q=>?_
 have hs : ∀ j∈Z4o (m+1),j∈l:=fun j hj=>Z5f fun q'=>q ⟨j,by have:=Z48.mp hj;exact ar190 this,q'⟩
 have:=Z4f (n:=m+1)
 have:=Un this hs
 simp at this
 exact ar210 h this
theorem Pq{t:SetTable}{n:Nat}(ok:TabOk t n){p:SetTable.Probe}(g:GoodP t p) : ∃ d,d<10*SetTable.turns t.mask/\t.slot (itr t.advance d p).j = .empty:=by
 obtain⟨j,hj,hn⟩:=Iy (l:=t.place.toList) (m:=t.mask) (by have:=ok.size;have:=ok.room;simp;exact ar211 (by assumption) this)
 have h1:=Ru (m:=t.mask) (p.i,p.perturb)
 refine byC fun hG=>?_
 obtain⟨k,hk,e⟩:=Lu ok.mask h1 (Z17 (Nat.div_le_self _ _) g.pert) hj
 obtain⟨d,p',h0,h2,h3,h4,h5⟩:=N6 k p g
 refine hG ?_
 clear hG
 refine⟨d,by unfold SetTable.turns;exact ar212 hk h0,?_⟩
 rw [h2,h4]
 have:p'.i=j:=by rw [<-e];exact congrArg Prod.fst h5
 rw [this];exact Ar ok hn
inductive Met(t:SetTable)(f:Nat->Int)(h:Int)(d:Nat):Option SetTable.Met->Prop
 |empty (j:Nat) (hj:j<=t.mask) (hs:t.slot j = .empty):Met t f h d (some (.empty j none))
 |cand (j i d':Nat) (nx:SetTable.Probe) (hs:t.slot j = .live i) (hh:f i=h) (g:GoodP t nx) (hd:d'<d) (he:t.slot (itr t.advance d' nx).j = .empty):Met t f h d (some (.candidate j i nx))
theorem Bu{t:SetTable}{n:Nat}(ok:TabOk t n)(f:Nat->Int)(h:Int) : ∀ (d fuel:Nat) (p:SetTable.Probe),d<fuel->GoodP t p->t.slot (itr t.advance d p).j = .empty->Met t f h d (SetTable.probe.go t f h fuel p)
 |0,fuel+1,p,_,g,he=>by
  refine(?_:Met t f h _ (SetTable.instReprSlot.repr.match_1 (fun _=>Option SetTable.Met) (t.slot p.j) _ _ _))
  have he:t.slot p.j = .empty:=he
  rw [he,g.dum]
  exact .empty _ g.j he
 |d+1,fuel+1,p,hf,g,he=>by
  refine(?_:Met t f h _ (SetTable.instReprSlot.repr.match_1 (fun _=>Option SetTable.Met) (t.slot p.j) _ _ _))
  have ih:=Bu ok f h d fuel (t.advance p) (by exact ar159 hf) g.next he
  have up : ∀ o,Met t f h d o->Met t f h (d+1) o:=fun o m=>by
   cases m with
   |empty j a b=>exact .empty j a b
   |cand j i d' nx a b c e f=>exact .cand j i d' nx a b c (by exact ar213 e) f
  cases q:t.slot p.j with
  |empty=>dsimp only;rw [g.dum];exact .empty _ g.j q
  |dummy =>
   exfalso
   unfold SetTable.slot at q
   have h2:SetTable.has t.dummies p.j=false:=by rw [ok.dum];unfold SetTable.has;simp
   rw [h2] at q
   dsimp only at q
   split at q<;>injection q
  |live i =>
   dsimp only
   by_cases hh:(f i==h)=true
   ·rw [if_pos hh];exact .cand _ i d _ q (eq_of_beq hh) g.next (Z1g d) he
   ·rw [if_neg hh];exact up _ ih
end Lay
namespace Lay
theorem Fz{xs:Array Nat}(hr:xs.toList.Pairwise (· < ·)){a b x y:Nat}(h:a<b)(ha:xs[a]?=some x)(hb:xs[b]?=some y):x<y:=by
 rw [<-Z5b] at ha hb
 refine byC fun hG=>?_
 obtain⟨h1,rfl⟩:=Z2y.mp ha
 obtain⟨h2,rfl⟩:=Z2y.mp hb
 refine hG ?_
 clear hG
 exact List.pairwise_iff_getElem.mp hr a b h1 h2 h
theorem Ri{xs:Array Nat}{j:Nat}(hr:xs.toList.Pairwise (· < ·)) : ∀ (fuel lo hi:Nat),hi-lo<=fuel->lo<=hi->hi<=xs.size->(∀ i y,i<lo->xs[i]?=some y->y<j)->(∀ i y,hi<=i->xs[i]?=some y->j<=y)->
  ∃ r,SetTable.below.go xs j fuel lo hi=r/\r<=xs.size/\(∀ i y,i<r->xs[i]?=some y->y<j)/\(∀ i y,r<=i->xs[i]?=some y->j<=y)
 |0,lo,hi,h,h1,h2,h3,h4=>by
  have:lo=hi:=by exact ar214 h h1
  subst this
  exact⟨lo,rfl,h2,h3,h4⟩
 |fuel+1,lo,hi,h,h1,h2,h3,h4=>by
  refine(?_ : ∃ r,ite (lo<hi) _ _=r/\_)
  by_cases q:lo<hi
  ·rw [if_pos q]
   dsimp only
   obtain⟨z,hz⟩ : ∃ z,xs[(lo+hi)/2]?=some z:=⟨_,Z58 (by exact ar215 h2 q)⟩
   have e:xs.getD ((lo+hi)/2) j=z:=by rw [Z57,hz];rfl
   rw [e]
   by_cases c:z<j
   ·rw [if_pos c]
    refine Ri hr fuel _ hi (by exact ar216 h q) (by exact ar217 q) h2 (fun i y hi' hy=>?_) h4
    by_cases e:i=(lo+hi)/2
    ·subst e;rw [hz] at hy;injection hy;exact c
    ·exact Z1h (Fz hr (by exact ar94 hi' e) hy hz) c
   ·rw [if_neg c]
    refine Ri hr fuel lo _ (by exact ar218 h q) (by exact ar219 q) (by exact ar220 h2 q) h3 fun i y hi1 hy=>?_
    by_cases e:i=(lo+hi)/2
    ·subst e;rw [hz] at hy;injection hy;exact Z10 c
    ·have:=Fz hr (by exact ar89 hi1 e:(lo+hi)/2<i) hz hy
     exact ar221 c this
  ·rw [if_neg q]
   have:lo=hi:=by exact ar117 h1 q
   subst this
   exact⟨lo,rfl,h2,h3,h4⟩
theorem Rh{xs:Array Nat}(hr:xs.toList.Pairwise (· < ·))(j:Nat):SetTable.below xs j<=xs.size/\(∀ i y,i<SetTable.below xs j->xs[i]?=some y->y<j)/\(∀ i y,SetTable.below xs j<=i->xs[i]?=some y->j<=y):=by
 unfold SetTable.below
 refine byC fun hG=>?_
 obtain⟨r,h1,h2,h3,h4⟩:=Ri (j:=j) hr xs.size 0 xs.size (by exact ar222) (Z25 _) (Z12 _) (fun _ _ h=>absurd h (Z1q _)) (fun i y h1 h2=>absurd (Z5a.mp h2).1 (Nat.not_lt.mpr h1))
 refine hG ?_
 clear hG
 rw [h1];exact⟨h2,h3,h4⟩
theorem E5{xs:Array Nat}(hr:xs.toList.Pairwise (· < ·)){i j:Nat}(h:xs[i]?=some j):SetTable.below xs j=i:=by
 obtain⟨h1,h2,h3⟩:=Rh hr j
 rcases Z1i (SetTable.below xs j) i with q|q|q
 ·have hl:=(Z5a.mp h).1
  have hb:xs[SetTable.below xs j]?=some (xs[SetTable.below xs j]'(by exact ar223 h1 q hl)):=Z58 (by exact ar223 h1 q hl)
  have:=h3 _ _ (Z12 _) hb
  have:=Fz hr q hb h
  exact ar224 h1 q hl (by assumption) this
 ·exact q
 ·have:=h2 i j q h;exact ar225 this
theorem Hg{t:SetTable}{n j:Nat}(ok:TabOk t n)(h:t.slot j = .empty):j∉t.place.toList:=by
 intro hm
 obtain⟨i,hi⟩:=Z31 hm
 rw [Z5b] at hi
 unfold SetTable.slot at h
 rw [E5 ok.rise hi] at h
 simp [hi] at h
theorem Mp{l:List Nat}{p j:Nat}(hr:l.Pairwise (· < ·))(h1 : ∀ x∈l.take p,x<j)(h2 : ∀ x∈l.drop p,j<x):(l.take p++j::l.drop p).Pairwise (· < ·):=by
 have hd:=hr
 rw [<-List.take_append_drop p l,Z4h] at hd
 rw [Z4h]
 refine⟨hd.1,List.pairwise_cons.mpr ⟨h2,hd.2.1⟩,fun a ha b hb=>?_⟩
 rcases Z3z.mp hb with rfl|hb
 ·exact h1 a ha
 ·exact hd.2.2 a ha b hb
theorem put_ok{t:SetTable}{n j:Nat}(ok:TabOk t n)(hj:j<=t.mask)(hs:t.slot j = .empty) : ∃ t' p,t.put j=(t',p)/\t'.mask=t.mask/\t'.place.size=n+1/\t'.place.toList.Pairwise (· < ·)/\(∀ q∈t'.place.toList,q<=t.mask)/\t'.dummies = #[]/\t'.plain=t.plain/\t'.led=t.led/\p<=n:=by
 have hn:=Hg ok hs
 have hd:SetTable.has t.dummies j=false:=by rw [ok.dum];unfold SetTable.has;simp
 obtain⟨b1,b2,b3⟩:=Rh ok.rise j
 refine⟨_,_,rfl,rfl,?_,?_,?_,?_,rfl,rfl,by rw [<-ok.size];exact b1⟩
 ·have:=(SetTable.insertAt_perm t.place (SetTable.below t.place j) j).length_eq
  simpa [ok.size] using this
 ·rw [show (SetTable.insertAt t.place (SetTable.below t.place j) j).toList=_ from SetTable.toList_insertAt ..]
  refine Mp ok.rise (fun x hx=>?_) fun x hx=>?_
  ·obtain⟨i,hi⟩:=Z31 hx
   rw [Z33] at hi
   split at hi
   ·exact b2 i x (by assumption) (by rw [<-Z5b];exact hi)
   ·injection hi
  ·obtain⟨i,hi⟩:=Z31 hx
   rw [List.getElem?_drop,Z5b] at hi
   have:=b3 _ x (Z0u _ _) hi
   have hne:x≠j:=fun q=>hn (q▸Z46 hx)
   exact ar226 this hne
 ·intro q hq
  have:=(SetTable.insertAt_perm t.place (SetTable.below t.place j) j).mem_iff.mp hq
  rw [Z5e] at this
  rcases Z3w.mp this with h|h
  ·exact ok.low q h
  ·rw [Z49.mp h];exact hj
 ·show (if SetTable.has t.dummies j=true then _ else t.dummies) = #[]
  rw [hd];exact ok.dum
end Lay
namespace Lay
theorem Pv{m:Nat}{owner:Array (Option Nat)}{j:Nat}(hj:owner[j]?=some none) : ∀ (k fuel i p:Nat),k<fuel->i<=m->(itr (Vj m) k (i,p)).1=j->∃ j',SetTable.layClean.free m owner fuel i p=some j'/\owner[j']?=some none
 |k,fuel+1,i,p,hk,hi,he=>by
  refine(?_ : ∃ j',SetTable.drop.match_1 (fun _=>Option Nat) ((Z4o (SetTable.runEnd m i+1-i)).find? (fun k=>(owner.getD (i+k) (some 0)).isNone)) _ _=some j'/\_)
  cases q:(Z4o (SetTable.runEnd m i+1-i)).find? (fun k=>(owner.getD (i+k) (some 0)).isNone) with
  |some kk =>
   refine⟨i+kk,rfl,?_⟩
   have:=List.find?_some q
   rw [Z57] at this
   cases e:owner[i+kk]? with
   |none=>rw [e] at this;simp at this
   |some o=>rw [e] at this;cases o with
    |none=>rfl
    |some x=>simp at this
  |none =>
   cases k with
   |zero =>
    exfalso
    have he:i=j:=he
    subst he
    have h0:=List.find?_eq_none.mp q 0 (Z48.mpr (by have:=Ug hi;exact ar227 he this))
    rw [Z57,Nat.add_zero,hj] at h0
    exact h0 rfl
   |succ k=>exact Pv hj k fuel _ _ (by exact ar159 hk) (Ru (m:=m) (i,p)) he
theorem Tj : ∀ {l:List (Option Nat)} {j k:Nat},l[j]?=some none->((l.set j (some k)).filterMap id).Perm (k::l.filterMap id)
 | [],j,k,h=>by simp at h
 |a::r,0,k,h=>by
  simp only [Z2u,Option.some.injEq] at h
  subst h
  simp
 |a::r,j+1,k,h=>by
  have ih:=Tj (l:=r) (j:=j) (k:=k) (by simpa using h)
  cases a with
  |none=>simpa using ih
  |some x=>simpa using (ih.cons x).trans (List.Perm.swap k x _)
theorem Bd : ∀ {l:List (Option Nat)},(∀ j:Nat,l[j]?≠some none)->(l.filterMap id).length=l.length
 | [],_=>rfl
 |a::r,h=>by
  cases a with
  |none=>exact absurd rfl (h 0)
  |some x=>simpa using Bd (l:=r) fun j=>by have:=h (j+1);simpa using this
noncomputable def Ht(m:Nat)(o:Option (Array (Option Nat)×Nat))(k:Nat):Prop := ∃ owner,o=some (owner,k)/\owner.size=m+1/\(owner.toList.filterMap id).Perm (Z4o k)
theorem N3{m:Nat}(hm:Br m) : ∀ (l:List Int) (o:Option (Array (Option Nat)×Nat)) (k:Nat),Ht m o k->k+l.length<=m->
  Ht m (l.foldl (fun acc h=>do
   let (owner,k)<-acc
   let j<-SetTable.layClean.free m owner (SetTable.turns m) (SetTable.bits h%(m+1)) (SetTable.bits h)
   pure (owner.setIfInBounds j (some k),k+1)) o) (k+l.length)
 | [],o,k,h,_=>h
 |x::r,o,k,h,hl=>by
  refine byC fun hG=>?_
  obtain⟨owner,rfl,h1,h2⟩:=h
  refine hG ?_
  clear hG
  rw [Z2q,Z3c,<-Nat.add_assoc,Z0q]
  rw [Z3c] at hl
  refine N3 hm r _ (k+1) ?_ (by exact ar228 hl h1)
  have : ∃ j,j<=m/\owner[j]?=some none:=Z5f fun q=>by
   have:=Bd (l:=owner.toList) fun j e=>by
    rw [Z5b] at e
    have:=(Z5a.mp e).1
    exact q ⟨j,by exact ar229 h1 this,e⟩
   rw [h2.length_eq,Z3j] at this
   simp at this
   exact ar230 hl h1 this
  obtain⟨j,hj,hjn⟩:=this
  have hb:SetTable.bits x<2^64:=(GoodP.start (t:=.fresh 0 0 true) x).pert
  have hi:SetTable.bits x%(m+1)<=m:=Z0z (Z1m _ (Z21 _))
  obtain⟨kk,hk,e⟩:=Lu hm (p:=(SetTable.bits x%(m+1),SetTable.bits x)) hi hb hj
  obtain⟨j',e1,e2⟩:=Pv hjn kk (SetTable.turns m) _ _ (by unfold SetTable.turns;exact ar231 h1 hk) hi e
  refine⟨owner.setIfInBounds j' (some k),?_,by simpa using h1,?_⟩
  ·show ((SetTable.layClean.free m owner (SetTable.turns m) (SetTable.bits x%(m+1)) (SetTable.bits x)).bind fun j=>some (owner.setIfInBounds j (some k),k+1))=_
   rw [e1];rfl
  ·rw [Array.toList_setIfInBounds]
   refine(Tj (by rw [Z5b];exact e2)).trans ?_
   rw [List.range_succ]
   exact(h2.cons k).trans (Z4l k _).symm
theorem Dn{t:SetTable}{hs:Array Int}{wanted m:Nat}(hw:SetTable.sizeAbove wanted-1=m)(hm:Br m)(hl:hs.size<=m) : ∃ t' order,t.relaid hs wanted=some (t',order)/\t'.mask=m/\t'.place.size=hs.size/\t'.place.toList.Pairwise (· < ·)/\
  (∀ q∈t'.place.toList,q<=m)/\t'.dummies = #[]/\t'.plain=t.plain/\t'.led=t.led/\order.toList.Perm (Z4o hs.size):=by
 have h0:Ht m (some (Array.replicate (m+1) none,0)) 0:=⟨_,rfl,by simp,by simp⟩
 refine byC fun hG=>?_
 obtain⟨owner,e,h1,h2⟩:=N3 hm hs.toList _ 0 h0 (by simpa using hl)
 refine hG ?_
 clear hG
 rw [Nat.zero_add,Z5c] at e h2
 have hc:SetTable.layClean m hs=some owner:=by
  unfold SetTable.layClean
  rw [<-Array.foldl_toList,e];rfl
 have hsnd:((Z4o (m+1)).filterMap fun j=>(owner.getD j none).map (j,·)).map (·.2)=owner.toList.filterMap id:=by
  rw [List.map_filterMap]
  have hr:owner.toList=(Z4o (m+1)).map fun j=>owner.getD j none:=by
   refine Z2m fun i=>?_
   rw [Z5b,Z30]
   by_cases q:i<m+1
   ·rw [Z32 q,Z58 (by exact ar232 h1 q)]
    simp [Z57,Z58 (by exact ar232 h1 q:i<owner.size)]
   ·rw [Z2w (by simp;exact ar233 h1 q),Z59 (by exact ar234 h1 q)];rfl
  rw [hr,List.filterMap_map]
  congr 1
  funext j
  simp only [Function.comp,Z51,id]
  cases owner.getD j none<;>rfl
 have hlen:((Z4o (m+1)).filterMap fun j=>(owner.getD j none).map (j,·)).length=hs.size:=by
  rw [<-Z3g (f:=(·.2)),hsnd,h2.length_eq,Z3j]
 refine⟨{mask:=m,place:=(((Z4o (m+1)).filterMap fun j=>(owner.getD j none).map (j,·)).map (·.1)).toArray,dummies := #[],finger:=t.finger,led:=t.led,moves:=t.movedTo m,plain:=t.plain},(((Z4o (m+1)).filterMap fun j=>(owner.getD j none).map (j,·)).map (·.2)).toArray,by unfold SetTable.relaid SetTable.laid;rw [hw,hc];rfl,rfl,by simpa using hlen,?_,?_,rfl,rfl,rfl,?_⟩
 ·show (((Z4o (m+1)).filterMap fun j=>(owner.getD j none).map (j,·)).map (·.1)).Pairwise (· < ·)
  rw [Z4i,List.pairwise_filterMap]
  refine List.pairwise_lt_range.imp fun {a b} hab x hx y hy=>?_
  refine byC fun hG=>?_
  obtain⟨_,_,rfl⟩:=Z50.mp hx
  obtain⟨_,_,rfl⟩:=Z50.mp hy
  refine hG ?_
  clear hG
  exact hab
 ·intro q hq
  refine byC fun hG=>?_
  obtain⟨x,hx,rfl⟩:=Z44.mp (show q∈((Z4o (m+1)).filterMap fun j=>(owner.getD j none).map (j,·)).map (·.1) from hq)
  obtain⟨j,hj,he⟩:=List.mem_filterMap.mp hx
  obtain⟨_,_,rfl⟩:=Z50.mp he
  refine hG ?_
  clear hG
  exact Z0z (Z48.mp hj)
 ·show (((Z4o (m+1)).filterMap fun j=>(owner.getD j none).map (j,·)).map (·.2)).Perm _
  rw [hsnd];exact h2
theorem Cv{m n:Nat}(hm:Br m)(h1:n*5<m*3)(h2:m*3<=(n+1)*5)(hn:n<300):Br (SetTable.sizeAbove (SetTable.grown (n+1))-1)/\(n+1)*5<(SetTable.sizeAbove (SetTable.grown (n+1))-1)*3:=by
 have:(m=7/\n=4)\/(m=31/\n=18)\/(m=127/\n=76):=by
  rcases hm with rfl|rfl|rfl|rfl<;>(first|exact ar235 hn h1 h2|exact ar236 hn h1 h2|exact ar237 hn h1 h2|exact ar238 hn h2)
 rcases this with⟨rfl,rfl⟩|⟨rfl,rfl⟩|⟨rfl,rfl⟩
 ·exact⟨.inr (.inl (by decide)),by decide⟩
 ·exact⟨.inr (.inr (.inl (by decide))),by decide⟩
 ·exact⟨.inr (.inr (.inr (by decide))),by decide⟩
end Lay
namespace Lay
theorem TabOk.fits{t:SetTable}{n:Nat}(h:TabOk t n):t.fits n=true:=by
 unfold SetTable.fits SetTable.fill
 have:=h.room
 rw [h.dum,h.size]
 simp only [Array.size_empty,beq_self_eq_true,Z5y,decide_eq_true_eq]
 exact ar239 this
theorem Tp{α:Type}{es:Array α}{order:Array Nat}(h:order.toList.Perm (Z4o es.size)):(order.filterMap (es[·]?)).toList.Perm es.toList:=by
 rw [Array.toList_filterMap]
 have:=h.filterMap (f:=fun i=>es[i]?)
 rwa [filterMap_getElem?_range] at this
inductive Grow(t t1:SetTable)(n:Nat):Prop
 |stay (hf:t1.tooFull=false) (ok:TabOk t1 (n+1)):Grow t t1 n
 |anew (hf:t1.tooFull=true) (hz:SetTable.sizeAbove (SetTable.grown (n+1))<=sizeLine) (ok : ∀ hs:Array Int,hs.size=n+1->∃ t2 order,t1.relaid hs (SetTable.grown (n+1))=some (t2,order)/\TabOk t2 (n+1)/\t2.led=t1.led/\order.toList.Perm (Z4o (n+1))):Grow t t1 n
theorem Hx{t:SetTable}{n j:Nat}(ok:TabOk t n)(hn:n<300)(hj:j<=t.mask)(hs:t.slot j = .empty) : ∃ t1 p,t.put j=(t1,p)/\t1.fits (n+1)=true/\t1.plain=true/\t1.led=t.led/\p<=n/\Grow t t1 n:=by
 refine byC fun hG=>?_
 obtain⟨t1,p,e,h1,h2,h3,h4,h5,h6,h7,h8⟩:=put_ok ok hj hs
 refine hG ?_
 clear hG
 have hfill:t1.fill=n+1:=by unfold SetTable.fill;rw [h2,h5];rfl
 have hm:=ok.mask
 have hroom:=ok.room
 refine⟨t1,p,e,?_,h6.trans ok.plain,h7,h8,?_⟩
 ·unfold SetTable.fits
  rw [hfill,h2,h1]
  simp only [beq_self_eq_true,Z5y,decide_eq_true_eq]
  exact ar240 hn h1 h2 hfill hroom
 ·by_cases q:t1.mask*3<=(n+1)*5
  ·rw [h1] at q
   obtain⟨g1,g2⟩:=Cv hm hroom q hn
   refine .anew (by unfold SetTable.tooFull;rw [hfill,h1];exact decide_eq_true q) ?_ fun hs hl=>?_
   ·rw [sizeLine_eq];rcases g1 with g|g|g|g<;>(first|exact ar241 g|exact ar242 g|exact ar243 g|exact ar244 g)
   ·obtain⟨t2,order,r1,r2,r3,r4,r5,r6,r7,r8,r9⟩:=Dn (t:=t1) (hs:=hs) rfl g1 (by rw [hl];exact ar245 hn h2 hfill g2 hl)
    rw [hl] at r3 r9
    exact⟨t2,order,r1,⟨r2▸g1,r3,r4,r2▸r5,r6,by rw [r2];exact g2,by rw [r7,h6];exact ok.plain⟩,r8,r9⟩
  ·refine .stay (by unfold SetTable.tooFull;rw [hfill];exact decide_eq_false (by exact ar246 h2 hfill q)) ⟨h1▸hm,h2,h3,h1▸h4,h5,by exact ar247 h2 hfill q,h6.trans ok.plain⟩
structure SetHas(w:World)(h:Heap)(S:Addr)(es:Array (Int×Value))(t:SetTable)(n:Nat):Prop where
 obj : ∃ ep,h.get? S=some ⟨.type "set",none,.set es ep t,#[]⟩
 tab:TabOk t n
 size:es.size=n
 led:t.led = !w.params.followText "set-order"
noncomputable def M3(w:World)(h:Heap)(S:Addr)(es:Array (Int×Value))(n:Nat)(x:Int×Value):Prop := ∃ es' t',SetHas w h S es' t' (n+1)/\es'.toList.Perm (x::es.toList)
theorem Ji(es:Array (Int×Value))(p:Nat)(x:Int×Value):(SetTable.insertAt es p x).toList.Perm (x::es.toList):=by
 refine(SetTable.insertAt_perm es p x).trans ?_
 rw [Z5e];exact Z4l x es.toList
section
variable{prog:Program}{w:World}{A:Around}{E:Value->Shared->Prop}{s:Shared}
theorem SetHas.store{h:Heap}{S:Addr}{es es':Array (Int×Value)}{t t':SetTable}{ep:Nat}(ho:h.get? S=some ⟨.type "set",none,.set es ep t,#[]⟩):(h.update S (Obj.putSet es' t')).get? S=some ⟨.type "set",none,.set es' (ep+1) t',#[]⟩/\Z5g S h (h.update S (Obj.putSet es' t')):=by
 have e:=putSet_of (o:=⟨.type "set",none,.set es ep t,#[]⟩) es' t' rfl
 have:=Heap.get?_update_self (Obj.putSet es' t') ho (by rw [e];rfl)
 rw [e] at this
 exact⟨this,Z5g.update ..⟩
theorem El{t:SetTable}{n:Nat}(ok:TabOk t n)(h:Int) : ∃ j,j<=t.mask/\t.slot j = .empty/\t.freeSlot h=some (j,false):=by
 obtain⟨d,hd,he⟩:=Pq ok (GoodP.start (t:=t) h)
 have m:=Bu ok (fun _=>h+1) h d (10*SetTable.turns t.mask) _ hd (GoodP.start (t:=t) h) he
 unfold SetTable.freeSlot SetTable.probe
 generalize SetTable.probe.go t (fun _=>h+1) h (10*SetTable.turns t.mask) (t.probeStart h)=o at m
 cases m with
 |empty j hj hs=>exact⟨j,hj,hs,rfl⟩
 |cand j i d' nx _ hh=>exact absurd hh (Z6k (Int.lt_add_one_of_le (Z6a _)))
theorem lay_new{t t1:SetTable}{es:Array (Int×Value)}{n j p:Nat}{h:Int}{x:Value}(hf:t.freeSlot h=some (j,false))(hp:t.put j=(t1,p))(hfit:t1.fits (n+1)=true)(hz:es.size=n) :
  layNew t es h x=(SetTable.insertAt es p (h,x),t1,false,false):=by
 have hsz:(SetTable.insertAt es p (h,x)).size=n+1:=by
  have:=(Ji es p (h,x)).length_eq
  simpa [hz] using this
 unfold layNew
 rw [hf]
 dsimp only
 rw [hp]
 dsimp only
 unfold SetTable.orStandIn
 rw [hsz,hfit]
 rfl
theorem Do{t1 t2:SetTable}{es:Array (Int×Value)}{n wanted:Nat}{order:Array Nat}(hz:es.size=n+1)(hr:t1.relaid (es.map (·.1)) wanted=some (t2,order))(ok:TabOk t2 (n+1))(ho:order.toList.Perm (Z4o (n+1))) :
  relayAll t1 es wanted=(order.filterMap (es[·]?),t2,false)/\(order.filterMap (es[·]?)).size=n+1/\(order.filterMap (es[·]?)).toList.Perm es.toList:=by
 have hp:=Tp (es:=es) (order:=order) (by rw [hz];exact ho)
 have hs:(order.filterMap (es[·]?)).size=n+1:=by have:=hp.length_eq;rwa [Z5c,Z5c,hz] at this
 refine⟨?_,hs,hp⟩
 unfold relayAll
 rw [hr]
 dsimp only
 have c:coversAll order es.size=true:=by unfold coversAll;rw [hz,List.isPerm_iff];exact ho
 rw [c,hs,ok.fits]
 rfl
theorem add_int{S:Addr}{es:Array (Int×Value)}{t:SetTable}{n:Nat}{k:Int}{u:Tok}{Q:Bool->Shared->Prop}(hs:SetHas w s.heap S es t n)(hn:n<300)(hel:ElemsOf (intKind prog w) es.toList)
  (hnew : ∀ e∈es.toList,(intKind prog w).is k e.2=false)
  (h : ∀ h' tk,Z5g S s.heap h'->M3 w h' S es n ((intKind prog w).hash k,.int k u)->Q true {s with heap:=h',toks:=tk}):wpAny (model prog w) A (setAdd S (.int k u)) Q E s:=by
 refine byC fun hG=>?_
 obtain⟨⟨ep,ho⟩,ok,hz,hled⟩:=hs
 refine hG ?_
 clear hG
 have hfit:t.fits es.size=true:=by rw [hz];exact ok.fits
 refine byC fun hG=>?_
 obtain⟨j,hj,hsl,hfree⟩:=El ok ((intKind prog w).hash k)
 obtain⟨t1,p,hput,f1,pl1,led1,hp1,grow⟩:=Hx ok hn hj hsl
 refine hG ?_
 clear hG
 have hlay:=lay_new (x:=.int k u) hfree hput f1 hz
 have hsz:(SetTable.insertAt es p ((intKind prog w).hash k,Value.int k u)).size=n+1:=by
  have:=(Ji es p ((intKind prog w).hash k,Value.int k u)).length_eq
  simpa [hz] using this
 have hline:n+1<=sizeLine:=by rw [sizeLine_eq];exact ar248 hn hz hsz
 unfold setAdd
 refine Z5n (Z5l ((intKind prog w).pyHash (k:=k) (intKind_is _ _ _ _) ?_))
 unfold setAddHashed setAddHashedIn
 refine Z5n (Z5l (wpAny_setState_of (s:={s with toks:=s.toks+1}) ho rfl hfit ?_))
 dsimp only
 have hb:es.size<scanBound:=by rw [hz,show scanBound=4096 from rfl];exact ar249 hn hz hsz
 rw [byScan_of (knd:=intKind prog w) rfl hb hel]
 refine wt rfl ?_
 unfold setAddByScan
 refine Z5l (Z5l (wpAny_rule (Z5l (wpAny_setScan_of (knd:=intKind prog w) (s:={s with toks:=s.toks+1}) (intKind_is _ _ _ _) ho rfl hfit hel ?_))))
 have hidx:es.toList.findIdx? (fun e=>(intKind prog w).is k e.2)=none:=List.findIdx?_eq_none_iff.mpr fun e he=>hnew e he
 rw [hidx]
 dsimp only
 rw [hlay]
 dsimp only
 refine Z5l (Z5p ?_)
 rw [pl1]
 refine wt rfl ?_
 refine Z5l (Z5o (hashByValue_scannable 8 (x:=.int k u) rfl) ?_)
 rw [show plainKind (.int k u)=true from rfl]
 rw [if_pos rfl]
 obtain⟨g1,sb1⟩:=SetHas.store (es':=SetTable.insertAt es p ((intKind prog w).hash k,.int k u)) (t':=t1) ho
 refine Z5l (wpAny_storeSet_of (s:={s with toks:=s.toks+1}) ho rfl ?_ (by rw [hsz];exact hline))
 cases grow with
 |stay hf ok1 =>
  rw [hf]
  refine wf rfl ?_
  refine Z5p (Z5p (h _ _ sb1 ⟨_,_,⟨⟨_,g1⟩,ok1,hsz,led1.trans hled⟩,Ji ..⟩))
 |anew hf hz2 okr =>
  rw [hf]
  refine wt rfl ?_
  refine byC fun hG=>?_
  obtain⟨t2,order,r1,ok2,led2,po⟩:=okr ((SetTable.insertAt es p ((intKind prog w).hash k,Value.int k u)).map (·.1)) (by simpa using hsz)
  obtain⟨e2,z2,p2⟩:=Do hsz r1 ok2 po
  refine hG ?_
  clear hG
  rw [hsz,e2]
  dsimp only
  refine Z5l (Z5p ?_)
  obtain⟨g2,sb2⟩:=SetHas.store (es':=order.filterMap ((SetTable.insertAt es p ((intKind prog w).hash k,Value.int k u))[·]?)) (t':=t2) g1
  refine Z5l (wpAny_storeSet_of (s:={s with heap:=_,toks:=s.toks+1}) g1 rfl ?_ (by rw [z2];exact hline))
  exact Z5p (Z5p (h _ _ (sb1.trans sb2) ⟨_,_,⟨⟨_,g2⟩,ok2,z2,led2.trans (led1.trans hled)⟩,p2.trans (Ji ..)⟩))
theorem Z0g{t:SetTable}{n d:Nat}{f:Nat->Int}{h:Int}{p:SetTable.Probe}{o:Option SetTable.Met}(ok:TabOk t n)(hd:d<10*SetTable.turns t.mask)(g:GoodP t p)(he:t.slot (itr t.advance d p).j = .empty)(e:t.probe f h p=o):Met t f h d o:=by
 subst e;exact Bu ok f h d _ p hd g he
noncomputable abbrev TupK(prog:Program)(w:World)(h:Heap)(ks:List Int)(v:Value):Prop := ∃ a,v = .ref a/\IsTupleKey (intKind prog w) h ks a
set_option smartUnfolding false in
theorem Pk{ks:List Int}{v:Value}{Q:Bool->Shared->Prop}(hk:TupK prog w s.heap ks v)(h:Q false s):wpAny (model prog w) A (ofAClassStatement (7+1) v) Q E s:=by
 refine byC fun hG=>?_
 obtain⟨a,rfl,hk⟩:=hk
 refine hG ?_
 clear hG
 have hT:=hk.typeIs
 refine byC fun hG=>?_
 obtain⟨o,items,n,ho,_,hd,hi⟩:=hk
 refine hG ?_
 clear hG
 refine Z5l (wpAny_typeOf hT ?_)
 refine wt rfl ?_
 refine Z5l (Z5p ?_)
 refine wf rfl ?_
 refine Z5l (wpAny_seqItems ho hd ?_)
 refine Z5l ?_
 rw [<-Z56]
 refine wpAny_forIn_list _ (fun rest r s'=>r.1=none/\s'=s/\∃ l,ItemsAre (intKind prog w) l rest) _ ?_ ?_ _ _ ⟨rfl,rfl,_,hi⟩
 ·rintro v rest r s' ⟨hr,rfl,l,hl⟩
  cases hl with
  |@cons k _ _ _ h1 h2 =>
   obtain⟨t,rfl⟩:=Kb (W:=⟨prog,w,[],prog,[],fun _=>none,fun _=>none⟩) h1
   refine Z5l (Z5o (a:=false) rfl ?_)
   refine wf rfl ?_
   exact Z5p ⟨rfl,rfl,_,h2⟩
 ·rintro⟨r1,r2⟩ s' ⟨hr,rfl,_⟩
  simp only at hr
  subst hr
  exact Z5p h
theorem Af{ks:List Int}{x:Value}{Q:Bool->Shared->Prop}(hk:TupK prog w s.heap ks x){l:List Value}(hl : ∀ y∈l,∃ ks',TupK prog w s.heap ks' y)(h:Q false s):wpAny (model prog w) A (searchCouldBeSeen x l) Q E s:=by
 unfold searchCouldBeSeen
 refine Z5l ?_
 refine wpAny_forIn_list _ (fun rest r s'=>r.1=none/\s'=s/\∀ y∈rest,∃ ks',TupK prog w s.heap ks' y) _ ?_ ?_ _ _ ⟨rfl,rfl,hl⟩
 ·rintro v rest r s' ⟨hr,rfl,hall⟩
  refine byC fun hG=>?_
  obtain⟨a,rfl,hka⟩:=id hk
  obtain⟨ks',hv⟩:=hall v Z41
  obtain⟨b,rfl,hkb⟩:=id hv
  refine hG ?_
  clear hG
  have fin : ∀ y∈rest,∃ ks',TupK prog w s'.heap ks' y:=fun y hy=>hall y (Z40 _ hy)
  dsimp only
  split
  ·exact Z5p ⟨rfl,rfl,fin⟩
  ·refine Z5l (wpAny_eqIsQuiet_tuple hka ?_)
   refine wf rfl ?_
   refine Z5l (wpAny_eqIsQuiet_tuple hkb ?_)
   refine wf rfl ?_
   refine Z5l (Pk hk ?_)
   refine wf rfl ?_
   refine Z5l (Pk hv ?_)
   refine wf rfl ?_
   exact Z5p ⟨rfl,rfl,fin⟩
 ·rintro⟨r1,r2⟩ s' ⟨hr,rfl,_⟩
  simp only at hr
  subst hr
  exact Z5p h
theorem Dy{t:SetTable}{n:Nat}(ok:TabOk t n):t.gaveWay=false:=by
 unfold SetTable.gaveWay
 rcases ok.mask with e|e|e|e<;>rw [e]<;>rfl
theorem live_at{t:SetTable}{n j i:Nat}(ok:TabOk t n)(h:t.slot j = .live i):i<n:=by
 unfold SetTable.slot at h
 dsimp only at h
 split at h
 ·rename_i q
  injection h
  have:t.place[SetTable.below t.place j]?=some j:=by simpa using q
  rw [<-ok.size];exact(Z5a.mp this).1
 ·split at h<;>injection h
theorem if_seen{α:Type}{M:Model}{b:Bool}{m:Sem Bool}{X R:Sem α}{Q:α->Shared->Prop}(hm:wpAny M A m (fun c s'=>c=false/\s'=s) E s)(hR:wpAny M A R Q E s):wpAny M A (if b=true then (m>>=fun c=>if c=true then X else R) else R) Q E s:=by
 cases b with
 |false=>exact hR
 |true =>
  refine Z5l (wpAny_mono hm (fun c s' h=>?_) fun _ _ e=>e)
  refine byC fun hG=>?_
  obtain⟨rfl,rfl⟩:=h
  refine hG ?_
  clear hG
  exact hR
theorem Hd{S:Addr}{es:Array (Int×Value)}{t:SetTable}{n:Nat}{ks:List Int}{x:Value}{h:Int}{ep:Nat}{Q:SetFound->Shared->Prop}(hu:A.units<cLine)(ho:s.heap.get? S=some ⟨.type "set",none,.set es ep t,#[]⟩)(ok:TabOk t n)(hz:es.size=n)(hk:TupK prog w s.heap ks x)
  (hel : ∀ e∈es.toList,∃ ks',TupK prog w s.heap ks' e.2/\ks'≠ks) (hQ : ∀ j,j<=t.mask->t.slot j = .empty->Q (.free j false) s) :
  ∀ (d fuel:Nat) (stand:Option SetTable.Probe),d<fuel->d<10*SetTable.turns t.mask->GoodP t (stand.getD (t.probeStart h))->t.slot (itr t.advance d (stand.getD (t.probeStart h))).j = .empty->
  wpAny (model prog w) A (setSearchFrom S x h true fuel stand) Q E s:=by
 intro d
 induction d using Z1t with
 |ind d ih =>
 intro fuel stand hf hd g he
 cases fuel with
 |zero=>exact absurd hf (Z1q _)
 |succ fuel =>
 have hfit:t.fits es.size=true:=by rw [hz];exact ok.fits
 refine Z5l (wpAny_setState_of ho rfl hfit ?_)
 dsimp only
 rw [Dy ok]
 refine wf rfl ?_
 generalize hm:SetTable.probe t _ _ _=o
 cases o with
 |some met =>
  have m:=Z0g ok hd g he hm
  cases m with
  |empty j hj hs=>exact Z5p (hQ j hj hs)
  |cand j i d' nx hs hh g' hd' he' =>
   have hi:=live_at ok hs
   have hi':es[i]?=some (es[i]'(by exact ar51 hz hi)):=Z58 (by exact ar51 hz hi)
   refine byC fun hG=>?_
   obtain⟨ks',hv,hne⟩:=hel (es[i]'(by exact ar51 hz hi)) (Array.mem_toList_iff.mpr (Array.getElem_mem _))
   obtain⟨a,rfl,hka⟩:=id hk
   obtain⟨b,hvb,hkb⟩:=hv
   refine hG ?_
   clear hG
   dsimp only
   refine if_seen (Af hk (fun y hy=>?_) ⟨rfl,rfl⟩) ?_
   ·obtain⟨e,he1,rfl⟩:=Z44.mp hy
    obtain⟨k2,h2,_⟩:=hel e (by simp at he1;exact Array.mem_toList_iff.mpr he1.1)
    exact⟨k2,h2⟩
   rw [hi']
   dsimp only
   rw [hvb]
   refine Z5l (Z5n (wpAny_eqBool_tuple hu hkb hka ?_))
   rw [decide_eq_false hne]
   refine Z5l (wpAny_setState_of ho rfl hfit ?_)
   refine wf (Bool.and_false _) ?_
   rw [show t.sameMemory t.moves t.mask=some true by unfold SetTable.sameMemory;simp]
   dsimp only
   rw [if_pos rfl,hs]
   dsimp only
   rw [hi']
   dsimp only
   rw [hvb]
   refine Z5l ?_
   unfold isSame
   dsimp only
   rw [if_pos (by simp)]
   refine Z5p ?_
   refine Z5l (Z5p ?_)
   refine wf rfl ?_
   exact ih d' hd' fuel (some nx) (by exact ar250 hf hd') (by exact ar251 hd hd') g' he'
 |none=>cases Z0g ok hd g he hm
theorem Cp{ks:List Int}{x:Value}{Q:Bool->Shared->Prop}(hk:TupK prog w s.heap ks x)(h:Q true s):wpAny (model prog w) A (hashByValue 8 x) Q E s:=by
 refine byC fun hG=>?_
 obtain⟨a,rfl,hk⟩:=hk
 refine hG ?_
 clear hG
 have hT:=hk.typeIs
 refine byC fun hG=>?_
 obtain⟨o,items,n,ho,_,hd,hi⟩:=hk
 refine hG ?_
 clear hG
 unfold hashByValue
 refine Z5l (wpAny_specialOf hT F.slot_tuple_hash.lookup ?_)
 dsimp only
 refine Z5l (wpAny_seqItems ho hd ?_)
 dsimp only [Option.getD]
 refine Z5l ?_
 rw [<-Z56]
 refine wpAny_forIn_list _ (fun rest r s'=>r.1=none/\s'=s/\∃ l,ItemsAre (intKind prog w) l rest) _ ?_ ?_ _ _ ⟨rfl,rfl,_,hi⟩
 ·rintro v rest r s' ⟨hr,rfl,l,hl⟩
  cases hl with
  |@cons k _ _ _ h1 h2 =>
   obtain⟨t,rfl⟩:=Kb (W:=⟨prog,w,[],prog,[],fun _=>none,fun _=>none⟩) h1
   refine Z5l (Z5o (hashByValue_scannable 7 (x:=.int k t) rfl) ?_)
   rw [show plainKind (.int k t)=true from rfl]
   refine wf rfl ?_
   exact Z5p ⟨rfl,rfl,_,h2⟩
 ·rintro⟨r1,r2⟩ s' ⟨hr,rfl,_⟩
  simp only at hr
  subst hr
  exact Z5p h
theorem add_tup{S:Addr}{es:Array (Int×Value)}{t:SetTable}{n:Nat}{ks:List Int}{x:Value}{Q:Bool->Shared->Prop}(hu:A.units<cLine)(hs:SetHas w s.heap S es t n)(hn:n<300)(hk:TupK prog w s.heap ks x)
  (hel : ∀ e∈es.toList,∃ ks',TupK prog w s.heap ks' e.2/\ks'≠ks)
  (h : ∀ h' tk hh,Z5g S s.heap h'->M3 w h' S es n (hh,x)->Q true {s with heap:=h',toks:=tk}):wpAny (model prog w) A (setAdd S x) Q E s:=by
 refine byC fun hG=>?_
 obtain⟨⟨ep,ho⟩,ok,hz,hled⟩:=hs
 obtain⟨a,rfl,hka⟩:=id hk
 refine hG ?_
 clear hG
 have hfit:t.fits es.size=true:=by rw [hz];exact ok.fits
 have hline:n+1<=sizeLine:=by rw [sizeLine_eq];exact ar252 hn hz
 unfold setAdd
 refine Z5n (Z5l (wpAny_pyHash_tuple hu hka ?_))
 generalize tupleKeyHash (intKind prog w) ks=hh
 generalize s.toks+(ks.length+1)=tk
 obtain⟨d,hd,he⟩:=Pq ok (GoodP.start (t:=t) hh)
 unfold setAddHashed setAddHashedIn
 refine Z5n (Z5l (wpAny_setState_of (s:={s with toks:=tk}) ho rfl hfit ?_))
 dsimp only
 rw [show byScan (Value.ref a) es=false by unfold byScan;rfl]
 refine wf rfl ?_
 refine Z5l ?_
 unfold setSearch
 have hturn:10*SetTable.turns t.mask<=5260:=by unfold SetTable.turns;rcases ok.mask with e|e|e|e<;>(first|exact ar253 e|exact ar254 e|exact ar255 e|exact ar256 e)
 refine Hd (s:={s with toks:=tk}) (ks:=ks) hu ho ok hz hk hel (fun j hj hsl=>?_) d 100000 none (by exact ar257 hd hturn) hd (GoodP.start hh) he
 refine byC fun hG=>?_
 obtain⟨t1,p,hput,f1,pl1,led1,hp1,grow⟩:=Hx ok hn hj hsl
 refine hG ?_
 clear hG
 have hsz:(SetTable.insertAt es p (hh,Value.ref a)).size=n+1:=by
  have:=(Ji es p (hh,Value.ref a)).length_eq
  simpa [hz] using this
 dsimp only
 refine Z5l (wpAny_setState_of (s:={s with toks:=tk}) ho rfl hfit ?_)
 dsimp only
 rw [hput]
 dsimp only
 rw [pl1]
 refine wt rfl ?_
 refine Z5l (Cp (s:={s with toks:=tk}) hk ?_)
 rw [if_pos rfl]
 obtain⟨g1,sb1⟩:=SetHas.store (es':=SetTable.insertAt es p (hh,.ref a)) (t':=t1) ho
 refine Z5l (wpAny_storeSet_of (s:={s with toks:=tk}) ho rfl ?_ (by rw [hsz];exact hline))
 cases grow with
 |stay hf ok1 =>
  rw [hf]
  refine wf rfl ?_
  exact Z5p (h _ _ hh sb1 ⟨_,_,⟨⟨_,g1⟩,ok1,hsz,led1.trans hled⟩,Ji ..⟩)
 |anew hf hz2 okr =>
  rw [hf]
  refine wt rfl ?_
  refine byC fun hG=>?_
  obtain⟨t2,order,r1,ok2,led2,po⟩:=okr ((SetTable.insertAt es p (hh,Value.ref a)).map (·.1)) (by simpa using hsz)
  refine hG ?_
  clear hG
  have hp2:=Tp (es:=SetTable.insertAt es p (hh,Value.ref a)) (order:=order) (by rw [hsz];exact po)
  have hz3:(order.filterMap ((SetTable.insertAt es p (hh,Value.ref a))[·]?)).size=n+1:=by have:=hp2.length_eq;rwa [Z5c,Z5c,hsz] at this
  refine Z5l ?_
  unfold setRelay
  refine Z5l (wpAny_setState_of (s:={s with heap:=_,toks:=tk}) g1 rfl (by rw [hsz];exact f1) ?_)
  dsimp only
  rw [hz,if_neg (by exact ar258 hz2)]
  rw [r1]
  refine Z5l ?_
  show wpAny _ _ (if ((order.filterMap ((SetTable.insertAt es p (hh,Value.ref a))[·]?)).size !=(SetTable.insertAt es p (hh,Value.ref a)).size)=true then _ else _) _ _ _
  rw [hz3,hsz]
  rw [if_neg (by simp)]
  refine Z5p ?_
  dsimp only
  obtain⟨g2,sb2⟩:=SetHas.store (es':=order.filterMap ((SetTable.insertAt es p (hh,Value.ref a))[·]?)) (t':=t2) g1
  refine wpAny_storeSet_of (s:={s with heap:=_,toks:=tk}) g1 rfl ?_ (by rw [hz3];exact hline)
  exact Z5p (h _ _ hh (sb1.trans sb2) ⟨_,_,⟨⟨_,g2⟩,ok2,hz3,led2.trans (led1.trans hled)⟩,hp2.trans (Ji ..)⟩)
end
end Lay
namespace Lay
section
variable{prog:Program}{w:World}{A:Around}{E:Value->Shared->Prop}{s:Shared}
theorem Ao{R:Result->Shared->Prop}{I l S:Addr}{items:Array Value}(hh:A.handled=none)(hSI:S≠I)(hSl:S≠l)(hlI:l≠I)(Inv:Nat->Heap->Prop)
  (frame : ∀ i h h',Inv i h->(∀ b o,b≠I->h.get? b=some o->h'.get? b=some o)->Inv i h')
  (step : ∀ i v (s:Shared) (Q:Bool->Shared->Prop) (E:Value->Shared->Prop),items[i]?=some v->Inv i s.heap->(∀ b h' tk,Z5g S s.heap h'->Inv (i+1) h'->Q b {s with heap:=h',toks:=tk})->wpAny (model prog w) A.in1 (setAdd S v) Q E s) :
  ∀ (k i:Nat) (s:Shared),items.size-i=k->i<=items.size->s.heap.IsListIter I l i->s.heap.IsList l items->Inv i s.heap->
  (∀ h' tk,Inv items.size h'->(∀ b o,b≠S->b≠I->s.heap.get? b=some o->h'.get? b=some o)->R (.ok (.ret .none)) {s with heap:=h',toks:=tk})->
  codeAny (model prog w) A (.builtin "set.update.loop" ⟨[.ref S,.ref I],[]⟩) R s:=by
 intro k
 induction k with
 |zero =>
  intro i s hk hi hit hl inv hR
  have:i=items.size:=by exact ar148 hk hi
  subst this
  refine codeAny_builtin F.entry_set_update_loop ?_
  rw [Around.under_plainId F.plain_set_update_loop _]
  show wpAny _ A.in1 (pyNext (.ref I)>>=_) _ _ s
  refine Z5l (wpAny_pyNext_list_end hh hit hl (by simp) fun h' he=>?_)
  show wpAny _ A.in1 (ret Value.none) _ _ _
  exact Z5p (hR h' s.toks (frame _ _ _ inv fun b o q e=>he b o q e) fun b o _ q e=>he b o q e)
 |succ k ih =>
  intro i s hk hi hit hl inv hR
  refine codeAny_builtin F.entry_set_update_loop ?_
  rw [Around.under_plainId F.plain_set_update_loop _]
  show wpAny _ A.in1 (pyNext (.ref I)>>=_) _ _ s
  have hx:items[i]?=some (items[i]'(by exact ar149 hk hi)):=Z58 (by exact ar149 hk hi)
  refine Z5l (wpAny_pyNext_list_item hit hl hx fun h1 hit1 hs1=>?_)
  dsimp only
  refine Z5l (Z5n (step i _ _ _ _ hx (frame _ _ _ inv fun b o q e=>(hs1.2 b q).trans e) fun b h2 tk2 hs2 inv2=>?_))
  refine Z5p ⟨plainId_quiet F.plain_set_update_loop _,ih (i+1) _ (by exact ar259 hk hi) (by exact ar260 hk hi) (hit1.at fun o e=>(hs2.2 I (Ne.symm hSI)).trans e) ((hl.at fun o e=>(hs1.2 l hlI).trans e).at fun o e=>(hs2.2 l (Ne.symm hSl)).trans e) inv2 fun h' tk a1 a2=>?_⟩
  exact hR h' tk a1 fun b o q1 q2 e=>a2 b o q1 q2 ((hs2.2 b q1).trans ((hs1.2 b q2).trans e))
theorem Pl(a:Value){Q₁:Value->Shared->Prop}
  (h:Q₁ (.ref s.heap.objs.size) {s with heap:=s.heap.push {cls:=.type "set",dict:=none,data:=.set #[] 0 (.fresh 0 0 (!w.params.followText "set-order"))}}) :
  codeAny (model prog w) A (.call (.builtin "set.__new__") ⟨[.type "set",a],[]⟩) (wants Q₁ E) s:=by
 refine codeAny_of_tree ?_
 show wpAny _ A.in1 (do checkBuiltinCall "set.__new__" ⟨[.type "set",a],[]⟩;again (.builtin "set.__new__" ⟨[.type "set",a],[]⟩)) _ _ s
 refine Z5l (Z5o (F.newCall_set_1 a) (Z5p ⟨plainId_quiet F.plain_set_new _,codeAny_builtin F.entry_set_new ?_⟩))
 rw [Around.under_plainId F.plain_set_new _]
 unfold Builtin.«set.__new__» Builtin.Frozenset.newClass
 have hsub:=sub_set_self
 refine byC fun hG=>?_
 obtain⟨hp,g,d,tk,os⟩:=s
 refine hG ?_
 clear hG
 dsimp only
 wp_walk
 refine wpAny_askSetting (Z5p ?_)
 dsimp only
 refine Z5l (wpAny_alloc (Z5p ?_))
 exact Z5p h
theorem Ld{l:Addr}{items:Array Value}{Q:Value->Shared->Prop}(hh:A.handled=none)(hl:s.heap.IsList l items)(Inv:Nat->Heap->Prop)
  (first : ∀ h',(∀ b o,s.heap.get? b=some o->h'.get? b=some o)->h'.get? s.heap.objs.size=some {cls:=.type "set",dict:=none,data:=.set #[] 0 (.fresh 0 0 (!w.params.followText "set-order"))}->Inv 0 h')
  (frame : ∀ I i h h',s.heap.objs.size<I->Inv i h->(∀ b o,b≠I->h.get? b=some o->h'.get? b=some o)->Inv i h')
  (step : ∀ i v (A':Around) (s1:Shared) (Q:Bool->Shared->Prop) (E:Value->Shared->Prop),A'.units<=A.units+100->items[i]?=some v->Inv i s1.heap->(∀ b h' tk,Z5g s.heap.objs.size s1.heap h'->Inv (i+1) h'->Q b {s1 with heap:=h',toks:=tk})->wpAny (model prog w) A' (setAdd s.heap.objs.size v) Q E s1)
  (h : ∀ h' tk,Inv items.size h'->(∀ b o,s.heap.get? b=some o->h'.get? b=some o)->Q (.ref s.heap.objs.size) {s with heap:=h',toks:=tk}) :
  wpAny (model prog w) A (call (.type "set") [.ref l]) Q E s:=by
 obtain⟨c,tl,hmro⟩:=F.called_set.mro
 have hmade:=F.called_set.made
 have hsub:=F.called_set.sub
 refine wpAny_call (codeAny_of_tree ?_)
 show wpAny _ _ (callAny (.type "set") _) _ _ _
 refine Z5p ⟨Code.quiet_builtin _ (by decide +kernel),codeAny_builtin F.entry_type_call ?_⟩
 rw [Around.under_plain (weight_type_call_type "set" [.ref l] []) rfl]
 have h1:=F.called_set.notType
 have h2:=F.called_set.canCreate
 have hct:=F.typeCall_set_1 (.ref l)
 repeat (any_goals (first|assumption|wp_step))
 generalize hled:(!w.params.followText "set-order")=led at first
 refine codeAny_mono (Pl (.ref l) (E:=E) (Q₁:=fun obj s₁=>obj = .ref s.heap.objs.size/\s₁={s with heap:=s.heap.push {cls:=.type "set",dict:=none,data:=.set #[] 0 (.fresh 0 0 led)}}) ⟨rfl,by rw [hled]⟩) fun r s₁ hr=>?_
 cases r with
 |error e=>exact hr
 |ok fl =>
  cases fl with
  |ret obj =>
   refine byC fun hG=>?_
   obtain⟨rfl,rfl⟩:=hr
   refine hG ?_
   clear hG
   have hS:(s.heap.push {cls:=.type "set",dict:=none,data:=.set #[] 0 (.fresh 0 0 led)}).get? s.heap.objs.size=some {cls:=.type "set",dict:=none,data:=.set #[] 0 (.fresh 0 0 led)}:=Z5i _ rfl
   have hT:Shared.TypeIs {s with heap:=s.heap.push {cls:=.type "set",dict:=none,data:=.set #[] 0 (.fresh 0 0 led)}} (.ref s.heap.objs.size) "set" :=⟨_,hS,rfl⟩
   have hli:=F.called_set.init.lookup
   have hbi:=F.called_set.init.bind (.ref s.heap.objs.size)
   repeat (any_goals (first|assumption|wp_step))
   refine codeAny_mono (codeAny_call_builtin (R:=wants (fun r s₂=>r = .none/\∃ h' tk,s₂={s with heap:=h',toks:=tk}/\Inv items.size h'/\(∀ b o,s.heap.get? b=some o->h'.get? b=some o)) E) F.called_set.init.plain F.entry_set_init (check_set_init_1 hT ?_)) fun r₂ s₂ hr₂=>?_
   ·obtain⟨ol,hol,hcl,nl,hdl⟩:=hl
    refine byC fun hG=>?_
    obtain⟨ocls,odict,odata,oslots⟩:=ol
    refine hG ?_
    clear hG
    dsimp only at hcl hdl
    subst hcl;subst hdl
    have hol':(s.heap.push {cls:=.type "set",dict:=none,data:=.set #[] 0 (.fresh 0 0 led)}).get? l=some {cls:=.type "list",dict:=odict,data:=.seq items nl,slots:=oslots}:=Z5h _ hol
    have hsls:=F.sub_list_set
    have hslf:=F.sub_list_frozenset
    have hne:(Value.type "list" ==Value.type "dict")=false:=by decide
    have hl1:(s.heap.push {cls:=.type "set",dict:=none,data:=.set #[] 0 (.fresh 0 0 led)}).IsList l items:=⟨_,hol',rfl,nl,rfl⟩
    unfold Builtin.«set.__init__» noKeywords Builtin.Frozenset.updateFrom
    generalize hPI:pyIter=PI
    wp_walk
    subst hPI
    refine wpAny_pyIter_list hl1 ?_
    refine Z5l (wpAny_runValue ?_)
    have hlS:l<s.heap.objs.size:=Z5j hol
    have hSI:s.heap.objs.size<(s.heap.push {cls:=.type "set",dict:=none,data:=.set #[] 0 (.fresh 0 0 led)}).objs.size:=by rw [Heap.size_push];exact Z1g _
    have hpush : ∀ b o,s.heap.get? b=some o->((s.heap.push {cls:=.type "set",dict:=none,data:=.set #[] 0 (.fresh 0 0 led)}).push {cls:=.type "list_iterator",data:=.fields #[.ref l,.int 0 0]}).get? b=some o:=fun b o e=>Z5h _ (Z5h _ e)
    refine Ao (A:=A.in1.in1) (I:=(s.heap.push {cls:=.type "set",dict:=none,data:=.set #[] 0 (.fresh 0 0 led)}).objs.size) (l:=l) (S:=s.heap.objs.size) (items:=items) hh (Z1o hSI) (Z1n hlS) (Z1o (Z1h hlS hSI)) Inv (fun i h h' a b=>frame _ i h h' hSI a b)
     (fun i v s1 Q E a b c=>step i v _ s1 Q E (by show A.units+1+1+1<=A.units+100;exact ar261) a b c) (items.size-0) 0 _ rfl (Z25 _) ?it ?ls ?fi fun h' tk a1 a2=>?_
    case it=>exact⟨_,Z5i _ rfl,rfl,rfl⟩
    case ls=>exact hl1.push _
    case fi=>exact first _ hpush (Z5h _ hS)
    show wpAny _ _ _ _ _ _
    refine Z5p ?_
    show wpAny _ _ (ret Value.none) _ _ _
    refine Z5p ⟨rfl,h',tk,rfl,a1,fun b o e=>?_⟩
    have hb:=Z5j e
    exact a2 b o (Z1o hb) (Z1o (Z1h hb hSI)) (hpush b o e)
   ·cases r₂ with
    |error e=>exact hr₂
    |ok fl₂ =>
     cases fl₂ with
     |ret r =>
      refine byC fun hG=>?_
      obtain⟨rfl,h',tk,rfl,hi,hk'⟩:=hr₂
      refine hG ?_
      clear hG
      repeat (any_goals (first|assumption|wp_step))
      exact h _ _ hi hk'
     |_=>exact hr₂.elim
  |_=>exact hr.elim
end
end Lay
namespace Lay
theorem Ti{α:Type} : ∀ {l:List α} {i:Nat} (h:i<l.length),(l[i]::l.eraseIdx i).Perm l
 |a::r,0,_=>.refl _
 |a::r,i+1,h=>(List.Perm.swap a (r[i]'(by simpa using h)) (r.eraseIdx i)).trans ((Ti (l:=r) (i:=i) (by simpa using h)).cons a)
theorem Di{α:Type}(next:Nat->Nat) : ∀ (fuel k:Nat) (left:List α) (out:Array α),left.length<=fuel->(pickOrder.go next fuel k left out).toList.Perm (out.toList++left)
 |0,k,left,out,h=>by
  have:left = []:=Z2i (by exact ar262 h)
  subst this
  exact(Z29 _).symm▸ .refl _
 |fuel+1,k,left,out,h=>by
  refine(?_:(pickOrder.go.match_1 (fun _=>Array α) (left[next k%left.length]?) _ _).toList.Perm _)
  cases q:left[next k%left.length]? with
  |none =>
   have:left.length<=next k%left.length:=Z2x.mp q
   have h0:left.length=0:=by
    rcases Nat.eq_zero_or_pos left.length with e|e
    ·exact e
    ·have:=Z1m (next k) e;exact ar263 (by assumption) this
   have:left = []:=Z2i h0
   subst this
   simp
  |some x =>
   obtain⟨hi,rfl⟩:=Z2y.mp q
   have hl:(left.eraseIdx (next k%left.length)).length<=fuel:=by rw [List.length_eraseIdx];split<;>(first|exact ar264 h hi|exact ar265 hi (by assumption))
   refine(Di next fuel (k+1) _ _ hl).trans ?_
   rw [Z5e,Z28]
   refine List.Perm.append_left _ ?_
   rw [List.singleton_append]
   exact Ti hi
theorem Dj{α:Type}(next:Nat->Nat)(xs:Array α):(pickOrder next xs).toList.Perm xs.toList:=by
 unfold pickOrder
 have:=Di next xs.size 0 xs.toList #[] (by simp)
 simpa using this
noncomputable def Ky(w:World)(S:Addr)(ep:Nat)(es:Array (Int×Value)):List Value:=((if w.params.followText "set-order" then pickOrder (w.params.setOrder S ep) es else es).toList).map (·.2)
theorem setSeq_perm{w:World}{S:Addr}{ep:Nat}{es:Array (Int×Value)}:(Ky w S ep es).Perm (es.toList.map (·.2)):=by
 unfold Ky
 split
 ·exact(Dj ..).map _
 ·exact .refl _
noncomputable def Ge(w:World)(t:SetTable)(i:Nat):Nat:=if w.params.followText "set-order" then 0 else if i=0 then 0 else (t.place.getD (i-1) 0)+1
noncomputable abbrev setO(es:Array (Int×Value))(ep:Nat)(t:SetTable):Obj:=⟨.type "set",none,.set es ep t,#[]⟩
section
variable{prog:Program}{w:World}{A:Around}{E:Value->Shared->Prop}{s:Shared}{S I:Addr}{es:Array (Int×Value)}{t:SetTable}{ep n:Nat}
theorem Rf{Q:Bool->Shared->Prop}(h:Q (w.params.followText "set-order") s):wpAny (model prog w) A setsByText Q E s:=by
 unfold setsByText
 exact Z5l (wpAny_askSetting (Z5p h))
theorem Ip{xs:Array Nat}(hr:xs.toList.Pairwise (· < ·)){i:Nat}(hi:i<=xs.size):SetTable.below xs (if i=0 then 0 else xs.getD (i-1) 0+1)=i:=by
 obtain⟨h1,h2,h3⟩:=Rh hr (if i=0 then 0 else xs.getD (i-1) 0+1)
 by_cases q:i=0
 ·rw [if_pos q] at h1 h2 h3 ⊢
  rw [q]
  refine Z0s fun e=>?_
  have:=h2 0 _ e (Z58 (by exact ar266 h1 e))
  exact ar267 h1 e this
 ·rw [if_neg q] at h1 h2 h3 ⊢
  have hg:xs[i-1]?=some (xs[i-1]'(by exact Cm hi q)):=Z58 (by exact Cm hi q)
  have e:xs.getD (i-1) 0=xs[i-1]'(by exact Cm hi q):=by rw [Z57,hg];rfl
  rw [e] at h1 h2 h3 ⊢
  generalize xs[i-1]'(by exact Cm hi q)=y at *
  refine Z0v ?_ ?_
  ·refine Z10 fun c=>?_
   have hg2:xs[i]?=some (xs[i]'(by exact ar269 hi h1 c)):=Z58 (by exact ar269 hi h1 c)
   have a:=h2 i _ c hg2
   have b:=Fz hr (by exact ar270 hi q h1 c:i-1<i) hg hg2
   exact ar271 hi h1 c a b
  ·refine Z10 fun c=>?_
   have:=h3 (i-1) y (by exact ar272 c) hg
   exact ar273 this
theorem I6(ho:s.heap.get? S=some (setO es ep t))(ok:TabOk t n)(hz:es.size=n)(hled:t.led = !w.params.followText "set-order"){i:Nat}(hi:i<=n){Q:Option (Value×Nat)->Shared->Prop}
  (h:Q ((Ky w S ep es)[i]?.map fun v=>(v,Ge w t (i+1))) s):wpAny (model prog w) A (setNext S (Ge w t i) i ep) Q E s:=by
 have hfit:t.fits es.size=true:=by rw [hz];exact ok.fits
 unfold setNext
 refine Z5l (wpAny_setState_of ho rfl hfit ?_)
 dsimp only
 refine Z5l (Rf ?_)
 unfold Ky Ge at *
 cases q:w.params.followText "set-order" with
 |true =>
  rw [q] at h hled
  refine wt rfl (wf (bne_self_eq_false' _) (Z5l ?_))
  unfold setWalk
  refine Z5l (wpAny_setState_of ho rfl hfit ?_)
  dsimp only
  refine Z5l (Rf ?_)
  rw [q]
  refine wt rfl ?_
  refine Z5l (wpAny_askSetting (Z5p (Z5p ?_)))
  rw [Z30,Z5b,Z51] at h
  exact h
 |false =>
  rw [q] at h hled
  refine wf rfl ?_
  rw [if_neg Z5t]
  rw [if_neg Z5t,if_neg Z5t] at h
  have hb:=Ip ok.rise (i:=i) (by rw [ok.size];exact hi)
  rw [if_neg (by show ¬ ((!t.plain&&decide (es.size>1))=true);rw [ok.plain];simp)]
  refine Z5l ?_
  show wpAny _ _ (if (!t.led && !es.isEmpty)=true then _ else _) _ _ _
  rw [hled]
  refine wf rfl ?_
  refine Z5p (Z5p ?_)
  rw [hb]
  rw [Z30,Z5b] at h
  by_cases c:i<n
  ·have e1:es[i]?=some (es[i]'(by exact ar274 hz hb c)):=Z58 (by exact ar274 hz hb c)
   have e2:t.place[i]?=some (t.place[i]'(by have:=ok.size;exact ar275 hb c this)):=Z58 (by have:=ok.size;exact ar275 hb c this)
   rw [e1,e2]
   rw [e1,if_neg (by exact ar276 hb),Nat.add_sub_cancel,Z57,e2] at h
   exact h
  ·rw [Z59 (by exact ar277 hz hi hb c)] at h ⊢
   exact h
end
noncomputable def Dv(S:Addr)(slot i n ep:Nat):Obj:={cls:=.type "set_iterator",data:=.fields #[rawInt slot,rawInt i,.ref S,rawInt n,rawInt ep]}
theorem sit_next:Slot "set_iterator" "__next__" "set_iterator.__next__" :=
 .of (owner := "set_iterator") (n := "__next__") (by rw [typeLookup_type,builtinLookup_eq_fast];kernel_rfl) (by decide +kernel) (by decide +kernel) (by decide +kernel)
  (by first|exact .inl (by decide +kernel)|exact .inr (by decide +kernel)) (by rw [isSubtype_type];kernel_rfl)
theorem I7:Slot "set_iterator" "__iter__" "set_iterator.__iter__" :=
 .of (owner := "set_iterator") (n := "__iter__") (by rw [typeLookup_type,builtinLookup_eq_fast];kernel_rfl) (by decide +kernel) (by decide +kernel) (by decide +kernel)
  (by first|exact .inl (by decide +kernel)|exact .inr (by decide +kernel)) (by rw [isSubtype_type];kernel_rfl)
theorem Nj:Manifest.owners.lookup (String.ofList ['r','o','t','a','r','e','t','i','_','t','e','s'].reverse)=some Manifest.sig_set_iterator:=by kernel_rfl
theorem Qm(a:Value):argsOk "set_iterator.__next__" ⟨[a],[]⟩:=by
 unfold argsOk;rw [signature?_of (id := "set_iterator.__next__") (n := ['_','_','t','x','e','n','_','_']) (o := ['r','o','t','a','r','e','t','i','_','t','e','s']) (by kernel_rfl) Nj];kernel_rfl
theorem Re(a:Value):argsOk "set_iterator.__iter__" ⟨[a],[]⟩:=by
 unfold argsOk;rw [signature?_of (id := "set_iterator.__iter__") (n := ['_','_','r','e','t','i','_','_']) (o := ['r','o','t','a','r','e','t','i','_','t','e','s']) (by kernel_rfl) Nj];kernel_rfl
theorem Kx:entryFor table "set_iterator.__next__" =some Builtin.«set_iterator.__next__»:=entryFor_of_tree (by kernel_rfl)
theorem T8:entryFor table "set_iterator.__iter__" =some Builtin.«dict_keyiterator.__iter__» :=
 entryFor_alias (id' := "dict_keyiterator.__iter__") (by kernel_rfl) (by first|rfl|decide +kernel|(unfold String.splitOn;simp +decide [String.splitOnAux])) (by decide +kernel) (by kernel_rfl)
theorem T7:entryFor table "set.__iter__" =some Builtin.«frozenset.__iter__» :=
 entryFor_alias (id' := "frozenset.__iter__") (by kernel_rfl) rfl (by decide +kernel) (by kernel_rfl)
section
variable{prog:Program}{w:World}{A:Around}{E:Value->Shared->Prop}{s:Shared}{S I:Addr}{es:Array (Int×Value)}{t:SetTable}{ep n:Nat}
theorem A0(ho:s.heap.get? S=some (setO es ep t))(ok:TabOk t n)(hz:es.size=n){Q:Value->Shared->Prop}(h:Q (.ref s.heap.objs.size) {s with heap:=s.heap.push (Dv S 0 0 n ep)}):wpAny (model prog w) A (pyIter (.ref S)) Q E s:=by
 have hT:s.TypeIs (.ref S) "set" :=⟨_,ho,rfl⟩
 have hfit:t.fits es.size=true:=by rw [hz];exact ok.fits
 refine wpAny_pyIter_slot hT F.slot_set_iter (Z5m F.slot_set_iter hT T7 ?_ (F.args_set_iter_1 _))
 unfold Builtin.«frozenset.__iter__»
 refine Z5l (Z5o (a:=S) rfl ?_)
 unfold Builtin.Frozenset.sizeOf
 refine Z5l (Z5l (wpAny_setEntries_of ho rfl hfit (Z5p ?_)))
 refine Z5l ?_
 unfold setDrawn
 refine Z5l (wpAny_setState_of ho rfl hfit ?_)
 dsimp only
 refine Z5l (Rf (Z5p ?_))
 rw [if_neg (by show ¬ ((!w.params.followText "set-order" && (!t.plain&&decide (es.size>1)))=true);rw [ok.plain];simp)]
 refine Z5l (Z5p ?_)
 refine Z5l (wpAny_setEpoch_of ho rfl hfit ?_)
 unfold newFields
 refine Z5l (wpAny_newObj_type (Z5p ⟨_,rfl,"set_iterator",_,⟨_,Z5i _ rfl,rfl⟩,sit_next.lookup,?_⟩))
 rw [hz];exact h
theorem Ad(ho:s.heap.get? S=some (setO es ep t))(ok:TabOk t n)(hz:es.size=n)(hled:t.led = !w.params.followText "set-order"){i:Nat}(hi:i<=n){v:Value}(hI:s.heap.get? I=some (Dv S (Ge w t i) i n ep))(hv:(Ky w S ep es)[i]?=some v){Q:Option Value->Shared->Prop}
  (h : ∀ h',h'.get? I=some (Dv S (Ge w t (i+1)) (i+1) n ep)->Z5g I s.heap h'->Q (some v) {s with heap:=h'}):wpAny (model prog w) A (pyNext (.ref I)) Q E s:=by
 have hT:s.TypeIs (.ref I) "set_iterator" :=⟨_,hI,rfl⟩
 have hfit:t.fits es.size=true:=by rw [hz];exact ok.fits
 unfold pyNext
 refine Z5l (wpAny_attempt (wpAny_callSpecial?_slot (name:=Z5k "__next__") hT sit_next (Z5m sit_next hT Kx ?_ (Qm _))))
 unfold Builtin.«set_iterator.__next__»
 refine Z5l (Z5o (a:=(Value.ref I,[])) rfl ?_)
 dsimp only
 refine Z5l (wpAny_fieldsOf hI rfl ?_)
 dsimp only [rawInt]
 refine Z5l (wpAny_setEntries_of ho rfl hfit ?_)
 rw [if_neg (by simp [hz])]
 dsimp only [Z6v]
 refine Z5l (I6 ho ok hz hled hi ?_)
 rw [hv]
 dsimp only [Z4z]
 refine Z5l (wpAny_setField_rec hI (by simp) fun h1 g1 s1=>?_)
 refine Z5l (wpAny_setField_rec (s:={s with heap:=h1}) g1 (by simp) fun h2 g2 s2=>?_)
 refine Z5p ⟨v,rfl,Z5p (h h2 ?_ (s1.trans s2))⟩
 rw [g2];rfl
theorem end_set(hh:A.handled=none)(ho:s.heap.get? S=some (setO es ep t))(ok:TabOk t n)(hz:es.size=n)(hled:t.led = !w.params.followText "set-order")(hI:s.heap.get? I=some (Dv S (Ge w t n) n n ep)){Q:Option Value->Shared->Prop}
  (h : ∀ h',Heap.ExtBut I s.heap h'->Q none {s with heap:=h'}):wpAny (model prog w) A (pyNext (.ref I)) Q E s:=by
 have hT:s.TypeIs (.ref I) "set_iterator" :=⟨_,hI,rfl⟩
 have hfit:t.fits es.size=true:=by rw [hz];exact ok.fits
 unfold pyNext
 refine Z5l (wpAny_attempt (wpAny_callSpecial?_slot (name:=Z5k "__next__") hT sit_next (Z5m sit_next hT Kx ?_ (Qm _))))
 unfold Builtin.«set_iterator.__next__»
 refine Z5l (Z5o (a:=(Value.ref I,[])) rfl ?_)
 dsimp only
 refine Z5l (wpAny_fieldsOf hI rfl ?_)
 dsimp only [rawInt]
 refine Z5l (wpAny_setEntries_of ho rfl hfit ?_)
 rw [if_neg (by simp [hz])]
 dsimp only [Z6v]
 refine Z5l (I6 ho ok hz hled (Z12 _) ?_)
 have hn:(Ky w S ep es)[n]?=none:=by
  rw [Z2x,(setSeq_perm (w:=w) (S:=S) (ep:=ep) (es:=es)).length_eq]
  simp [hz]
 rw [hn]
 dsimp only [Z4z]
 refine Z5l (wpAny_setField_rec hI (by simp) fun h1 g1 s1=>?_)
 have ext:Heap.ExtBut I s.heap h1:=fun b o hb e=>(s1.2 b hb).trans e
 refine Z5l ?_
 refine Z5l (wpAny_newObj_type ?_)
 refine Z5l (m:=firstArgMember _ _) (Z5o (a:=Value.none) (by first|rfl|(simp only [firstArgMember];rfl)) ?_)
 refine wpAny_newObj_type ?_
 unfold raiseNew
 dsimp only
 refine Z5l (wpAny_handled ?_)
 rw [show A.in1.handled=none from hh]
 refine Z5l (Z5p (wpAny_throw ?_))
 refine Z5l (wpAny_isInstance (T := "StopIteration") (b:=true) ⟨_,Z5i _ rfl,rfl⟩ isSubtype_stop ?_)
 exact Z5p (h _ ((ext.push _).push _))
theorem Cy(hT:s.TypeIs (.ref S) "set"){Q:Bool->Shared->Prop}(h:Q false s):wpAny (model prog w) A (Builtin.List.listLengthHint (.ref S)) Q E s:=by
 unfold Builtin.List.listLengthHint
 refine Z5l (wpAny_specialOf hT PySem.F.slot_set_len.lookup ?_)
 generalize hid:("set.__len__" :String)=id0
 wp_delta
 rw [show splitId id0=some ("set","__len__") from by subst hid;decide +kernel]
 subst hid
 refine Z5l (wpAny_isInstance (T := "set") (b:=true) hT (by rw [isSubtype_type];kernel_rfl) ?_)
 refine wpAny_ite_split (fun hab=>absurd hab (by decide)) (fun _=>?_)
 refine wpAny_ite_split (fun _=>?_) (fun hab=>absurd (by decide +kernel) hab)
 refine Z5l (wpAny_typeOf hT ?_)
 exact Z5p h
theorem set_src(ok:TabOk t n)(hz:es.size=n)(hled:t.led = !w.params.followText "set-order"):KdlSrc prog w "set" S S n (fun i v=>(Ky w S ep es)[i]?=some v) (fun h=>h.get? S=some (setO es ep t)) where
 type:=fun _ ho=>⟨_,ho,rfl⟩
 there:=fun _ ho=>⟨Z5j ho,Z5j ho⟩
 keep:=fun _ _ ho hk=>hk S (.inl rfl) _ ho
 notList:=by decide
 notTuple:=by decide
 hint:=fun _ _ _ _ ho hq=>Cy ⟨_,ho,rfl⟩ hq
 iter:=fun A s hh ho=>⟨_,fun i h=>i<=n/\h.get? s.heap.objs.size=some (Dv S (Ge w t i) i n ep)/\h.get? S=some (setO es ep t),(fun _ _ hq=>A0 ho ok hz hq),{
   sub:=fun b hb=>by simp at hb;simp [hb]
   frame:=fun _ _ _ st hk=>⟨st.1,hk _ (by simp) _ st.2.1,hk S (by simp) _ st.2.2⟩
   item:=fun i s' Q E hi st hQ=>by
    have hl:i<(Ky w S ep es).length:=by rw [(setSeq_perm (w:=w) (S:=S) (ep:=ep) (es:=es)).length_eq];simp [hz];exact hi
    have hne:S≠s.heap.objs.size:=Z1o (Z5j ho)
    exact Ad st.2.2 ok hz hled st.1 st.2.1 (Z2v hl) fun h' a b=>hQ _ h' s'.toks (Z2v hl) ⟨hi,a,(b.2 S hne).trans st.2.2⟩ fun b' o hb e=>(b.2 b' (fun q=>hb (by simp [q]))).trans e
   done:=fun s' Q E st hQ=>end_set hh st.2.2 ok hz hled st.2.1 fun h' a=>hQ h' s'.toks fun b o hb e=>a b o (fun q=>hb (by simp [q])) e
   self:=fun _ s' Q E st hQ=>by
    have hT:s'.TypeIs (.ref s.heap.objs.size) "set_iterator" :=⟨_,st.2.1,rfl⟩
    refine wpAny_pyIter_slot hT I7 (Z5m I7 hT T8 ?_ (Re _))
    show wpAny _ _ (ret (.ref s.heap.objs.size)) _ _ s'
    exact Z5p ⟨_,rfl,"set_iterator",_,hT,sit_next.lookup,hQ⟩},⟨Z25 _,by rw [show Ge w t 0=0 by unfold Ge;split<;>rfl];exact Z5i _ rfl,Z5h _ ho⟩⟩
end
end Lay
namespace Lay
variable{C:Cx}
theorem L3{x y:Str}{p q pos pos':Pos}{e:PySem.Expr}{m:M V}{f g:Value}{gm:V->M V}(hf:Yb C (eval (.Name x p) C.env) (pure (.val f)))(hg:Yb C (eval (.Name y q) C.env) (pure (.val g)))(hokf:CallOk C.W f)(hokg:CallOk C.W g)
  (he:Yb C (eval e C.env) m) (hs:starEach [e] C.env = [(false,eval e C.env)]) (hs2:starEach [.Call (.Name y q) [e] [] pos'] C.env = [(false,eval (.Call (.Name y q) [e] [] pos') C.env)])
  (hc : ∀ (hY ζ:HM) (ρ:RM) (st:St) (s:Shared) (P:Value->Shared->Prop) (E:Value->Shared->Prop) (v:V) (xv:Value),C.Ok->Rel C hY ζ ρ st s.heap->VR C.W ζ ρ v xv->∀ r st',gm v st=some (r,st')->
   Kont C C.T hY s ζ ρ (VR C.W) P r st'->wpAny (model C.W.prog C.W.w) C.A (call g [xv]) (fun z s1=>C.W.Ok s1.heap/\wpAny (model C.W.prog C.W.w) C.A (call f [z]) P E s1) E s) :
  Yb C (eval (.Call (.Name x p) [.Call (.Name y q) [e] [] pos'] [] pos) C.env) (m>>=gm):=by
 intro hY ζ ρ st s P E ok rel r st' em k
 refine byC fun hG=>?_
 obtain⟨v,s1,e1,e2⟩:=Z6z em
 refine hG ?_
 clear hG
 refine wpAny_Call_NameR (hf hY ζ ρ st s _ E ok rel _ _ rfl fun ζ1 ρ1 h1 tk1 z G1 rel1 r1=>?_)
 change _=_ at r1
 subst r1
 have ht:backTo pos (starEach [.Call (.Name y q) [e] [] pos'] C.env)=(false,(backTo pos (starEach [.Call (.Name y q) [e] [] pos'] C.env)).head!.2) :: []:=by rw [hs2];rfl
 refine hokf _ _ _ _ _ _ _ (by rw [hs2];rfl) (V2 (.inr ⟨_,_,ht⟩) ?_)
 refine spliced_more (rest := []) (Ly hg hokg he hs ok rel1 e1 fun ζ2 ρ2 h2 tk2 xv G2 rel2 r2=>?_) hs2
 refine wpAny_mono (hc hY ζ2 ρ2 s1 _ P E v xv ok rel2 r2 r st' e2 fun ζ3 ρ3 h3 tk3 z G3 rel3 r3=>k ζ3 ρ3 h3 tk3 z ((G1.trans G2).trans G3) rel3 r3) (fun z s' h=>spliced_none h) fun _ _ e=>e
theorem En(led:Bool):TabOk (.fresh 0 0 led) 0:=⟨.inl rfl,rfl,.nil,fun p hp=>by simp [SetTable.fresh] at hp,rfl,by show 0*5<7*3;decide,rfl⟩
theorem SetHas.at{w:World}{h h':Heap}{S:Addr}{es:Array (Int×Value)}{t:SetTable}{n:Nat}(x:SetHas w h S es t n)(e : ∀ o,h.get? S=some o->h'.get? S=some o):SetHas w h' S es t n :=
 let ⟨⟨ep,ho⟩,a,b,c⟩:=x;⟨⟨ep,e _ ho⟩,a,b,c⟩
theorem Nr{α:Type}{l:List α}{i:Nat}{a:α}(h:l[i]?=some a):l.take (i+1)=l.take i ++ [a]:=by rw [Z4s,h];rfl
section
variable{prog:Program}{w:World}{A:Around}{E:Value->Shared->Prop}{s:Shared}
structure SetOfL(w:World)(hY h:Heap)(S:Addr)(es:Array (Int×Value))(t:SetTable)(vs:List Value):Prop where
 has:SetHas w h S es t vs.length
 perm:(es.toList.map (·.2)).Perm vs
 old : ∀ b o,hY.get? b=some o->h.get? b=some o
theorem SetOfL.first{hY h:Heap}{S:Addr}(k : ∀ b o,hY.get? b=some o->h.get? b=some o)(ho:h.get? S=some {cls:=.type "set",dict:=none,data:=.set #[] 0 (.fresh 0 0 (!w.params.followText "set-order"))}):SetOfL w hY h S #[] (.fresh 0 0 (!w.params.followText "set-order")) [] :=
 ⟨⟨⟨0,ho⟩,En _,rfl,rfl⟩,.refl _,k⟩
theorem SetOfL.more{hY h h':Heap}{S:Addr}{es:Array (Int×Value)}{t:SetTable}{vs:List Value}{x:Int×Value}(o:SetOfL w hY h S es t vs)(hS:hY.get? S=none)(sb:Z5g S h h')(m:M3 w h' S es vs.length x) : ∃ es' t',SetOfL w hY h' S es' t' (vs ++ [x.2])/\es'.toList.Perm (x::es.toList):=by
 refine byC fun hG=>?_
 obtain⟨es',t',h1,h2⟩:=m
 refine hG ?_
 clear hG
 refine⟨es',t',⟨by rw [Z3b];exact h1,?_,fun b ob e=>(sb.2 b (fun q=>by rw [q,hS] at e;injection e)).trans (o.old b ob e)⟩,h2⟩
 have:=h2.map (·.2)
 rw [Z3s] at this
 exact this.trans ((o.perm.cons x.2).trans (Z4l x.2 vs).symm)
theorem Ew{ys:List Value}{l:List Int}(h:IntsAre ys l) : ∀ {i:Nat} {v:Value},ys[i]?=some v->∃ k u,v = .int k u/\l[i]?=some k:=by
 induction h with
 |nil=>intro i v e;simp at e
 |cons n t hr ih =>
  intro i v e
  cases i with
  |zero=>simp at e;exact⟨n,t,e.symm,rfl⟩
  |succ i=>simp only [Z2t] at e;exact ih e
theorem IntsAre.map_eq{ys:List Value}{l:List Int}(h:IntsAre ys l){i j:Nat}{v:Value}{k:Int}{u:Tok}(hv:ys[i]?=some v)(hj:l[j]?=some k)(hk:l.Nodup)(hij:i≠j)(e:v = .int k u):False:=by
 refine byC fun hG=>?_
 obtain⟨k',u',rfl,h1⟩:=Ew h hv
 injection e
 refine hG ?_
 clear hG
 exact hij ((Z2z (Z2y.mp h1).1 hk).mp (h1.trans hj.symm))
theorem I5{l:Addr}{items:Array Value}{ns:List Int}{Q:Value->Shared->Prop}(hh:A.handled=none)(hl:s.heap.IsList l items)(hi:IntsAre items.toList ns)(hnd:ns.Nodup)(hn:ns.length<=300)
  (h : ∀ h' tk es t,SetOfL w s.heap h' s.heap.objs.size es t items.toList->Q (.ref s.heap.objs.size) {s with heap:=h',toks:=tk}):wpAny (model prog w) A (call (.type "set") [.ref l]) Q E s:=by
 have hlen:items.size=ns.length:=by have:=hi.length;simpa using this
 refine Ld hh hl (fun i h' => ∃ es t,SetOfL w s.heap h' s.heap.objs.size es t (items.toList.take i)/\ElemsOf (intKind prog w) es.toList) (fun h' a b=>⟨_,_,.first a b,fun e he=>by simp at he⟩)
  (fun I i h1 h2 hI x k=>?_) (fun i v A' s1 Q E hu hv x k=>?_) (fun h' tk x _=>?_)
 ·obtain⟨es,t,a,b⟩:=x
  exact⟨es,t,⟨a.has.at fun o e=>k _ o (Z1o hI) e,a.perm,fun b o e=>k b o (Z1o (Z1h (Z5j e) hI)) (a.old b o e)⟩,b⟩
 rotate_left
 ·obtain⟨es,t,a,b⟩:=x
  exact h h' tk es t (by rw [Z4u (by simp)] at a;exact a)
 obtain⟨es,t,a,b⟩:=x
 rw [<-Z5b] at hv
 refine byC fun hG=>?_
 obtain⟨kk,u,rfl,hk⟩:=Ew hi hv
 refine hG ?_
 clear hG
 have hlt:=(Z2y.mp hk).1
 have htl:(items.toList.take i).length=i:=by rw [Z3m];simp;exact ar278 hlen hlt
 have h2:=a.has
 rw [htl] at h2
 refine add_int h2 (by exact ar279 hn hlen hlt htl) b (fun e he=>?_) fun h' tk sb m=>?_
 ·refine Bool.eq_false_iff.mpr fun q=>?_
  obtain⟨u',e'⟩:=Kb (W:=⟨prog,w,[],prog,[],fun _=>none,fun _=>none⟩) q
  have hm:=a.perm.mem_iff.mp (Z44.mpr ⟨e,he,rfl⟩)
  obtain⟨j,hj⟩:=Z31 hm
  rw [Z33] at hj
  split at hj
  ·exact IntsAre.map_eq hi hj hk hnd (by exact ar280 htl (by assumption)) e'
  ·injection hj
 ·rw [<-htl] at m
  refine byC fun hG=>?_
  obtain⟨es',t',o',p'⟩:=a.more (Yo _) sb m
  refine hG ?_
  clear hG
  refine k _ _ _ sb ⟨es',t',by rw [Nr hv];exact o',fun e he=>?_⟩
  rcases Z3z.mp (p'.mem_iff.mp he) with rfl|q
  ·exact⟨⟨kk,intKind_is _ _ _ _,rfl⟩,rfl⟩
  ·exact b e q
noncomputable def TupsAre(prog:Program)(w:World)(h:Heap):List (List Int)->List Value->Prop
 | [],ys=>ys = []
 |k::ks,ys => ∃ y r,ys=y::r/\TupK prog w h k y/\TupsAre prog w h ks r
theorem TupsAre.at{h:Heap} : ∀ {ls:List (List Int)} {ys:List Value},TupsAre prog w h ls ys->∀ {i:Nat} {v:Value},ys[i]?=some v->∃ k,ls[i]?=some k/\TupK prog w h k v
 | [],_,e,i,v,hv=>by change _=_ at e;subst e;simp at hv
 |k::ks,_,hH,i,v,hv=>by
  refine byC fun hG=>?_
  obtain⟨y,r,rfl,h1,h2⟩:=hH
  refine hG ?_
  clear hG
  cases i with
  |zero=>simp at hv;subst hv;exact⟨k,rfl,h1⟩
  |succ i=>simp only [Z2t] at hv ⊢;exact h2.at hv
theorem TupsAre.length{h:Heap} : ∀ {ls:List (List Int)} {ys:List Value},TupsAre prog w h ls ys->ls.length=ys.length
 | [],_,e=>by change _=_ at e;subst e;rfl
 |k::ks,_,hH=>by obtain⟨y,r,rfl,h1,h2⟩:=hH;simp [h2.length]
theorem TupK.keep{h h':Heap}{k:List Int}{v:Value}(x:TupK prog w h k v)(e : ∀ b o,h.get? b=some o->h'.get? b=some o):TupK prog w h' k v:=by
 refine byC fun hG=>?_
 obtain⟨a,rfl,o,items,n,ho,r⟩:=x
 refine hG ?_
 clear hG
 exact⟨a,rfl,o,items,n,e _ _ ho,r⟩
theorem Ap{l:Addr}{items:Array Value}{ls:List (List Int)}{Q:Value->Shared->Prop}(hh:A.handled=none)(hu:A.units+100<cLine)(hl:s.heap.IsList l items)(hi:TupsAre prog w s.heap ls items.toList)(hnd:ls.Nodup)(hn:ls.length<=300)
  (h : ∀ h' tk es t,SetOfL w s.heap h' s.heap.objs.size es t items.toList->Q (.ref s.heap.objs.size) {s with heap:=h',toks:=tk}):wpAny (model prog w) A (call (.type "set") [.ref l]) Q E s:=by
 have hlen:items.size=ls.length:=by have:=hi.length;simpa using this.symm
 refine Ld hh hl (fun i h' => ∃ es t,SetOfL w s.heap h' s.heap.objs.size es t (items.toList.take i)) (fun h' a b=>⟨_,_,.first a b⟩)
  (fun I i h1 h2 hI x k=>?_) (fun i v A' s1 Q E hu' hv x k=>?_) (fun h' tk x _=>?_)
 ·obtain⟨es,t,a⟩:=x
  exact⟨es,t,⟨a.has.at fun o e=>k _ o (Z1o hI) e,a.perm,fun b o e=>k b o (Z1o (Z1h (Z5j e) hI)) (a.old b o e)⟩⟩
 rotate_left
 ·obtain⟨es,t,a⟩:=x
  exact h h' tk es t (by rw [Z4u (by simp)] at a;exact a)
 obtain⟨es,t,a⟩:=x
 rw [<-Z5b] at hv
 obtain⟨kk,hk,hkv⟩:=hi.at hv
 have hlt:=(Z2y.mp hk).1
 have htl:(items.toList.take i).length=i:=by rw [Z3m];simp;exact ar278 hlen hlt
 have h2:=a.has
 rw [htl] at h2
 refine add_tup (ks:=kk) (by exact ar281 hu hu') h2 (by exact ar279 hn hlen hlt htl) (hkv.keep a.old) (fun e he=>?_) fun h' tk hh' sb m=>?_
 ·have hm:=a.perm.mem_iff.mp (Z44.mpr ⟨e,he,rfl⟩)
  obtain⟨j,hj⟩:=Z31 hm
  rw [Z33] at hj
  split at hj
  ·obtain⟨k',h3,h4⟩:=hi.at hj
   refine⟨k',h4.keep a.old,fun q=>?_⟩
   subst q
   have:=(Z2z (Z2y.mp h3).1 hnd).mp (h3.trans hk.symm)
   exact ar282 htl (by assumption) this
  ·injection hj
 ·rw [<-htl] at m
  refine byC fun hG=>?_
  obtain⟨es',t',o',p'⟩:=a.more (Yo _) sb m
  refine hG ?_
  clear hG
  exact k _ _ _ sb ⟨es',t',by rw [Nr hv];exact o'⟩
end
noncomputable def J0(r:List Int):V:=.tup (r.map V.int)
noncomputable def Ia:List V->Option (List (List Int)):=un (Z3p J0)
theorem Aw{ζ:HM}{ρ:RM}{h:Heap}(hz:Le ζ h.get?){vs:List V}{ls:List (List Int)}{ys:List Value}(e:Ia vs=some ls)(r:VRs C.W ζ ρ vs ys):TupsAre C.W.prog C.W.w h ls ys:=by
 rw [Zi e] at r
 clear e
 induction ls generalizing ys with
 |nil=>exact r
 |cons l ls ih =>
  refine byC fun hG=>?_
  obtain⟨y,r',rfl,_,⟨a,o,zs,rfl,h1,⟨hc,n,hd⟩,h2⟩,r2⟩:=r
  exact hG ⟨_,_,rfl,⟨a,rfl,o,zs,n,hz _ _ h1,hc,hd,Pz h2⟩,ih r2⟩
noncomputable def M8(v:V):M V:=fun s=>(Wv v s).bind fun xs=>((Uc xs).bind fun l=>if l.Nodup/\l.length<=300 then some (.int l.length,s) else none).or
 ((Ia xs).bind fun ls=>if ls.Nodup/\ls.length<=300 then some (.int ls.length,s) else none)
noncomputable def X.lenSet(m:M V):M V:=m>>=M8
inductive LenSet(v:V)(s:St)(r:V×St):Prop
 |mk (xs:List V) (hx:Wv v s=some xs) (hl:xs.length<=300) (h:(∃ l,Uc xs=some l/\l.Nodup)\/∃ ls,Ia xs=some ls/\ls.Nodup) (hr:r=(.int xs.length,s))
theorem Gm{vs:List V}{ls:List (List Int)}(e:Ia vs=some ls):ls.length=vs.length:=by rw [Zi e,Z3g]
theorem Pg{v:V}{s:St}{r:V×St}(e:M8 v s=some r):LenSet v s r:=by
 refine byC fun hG=>?_
 obtain⟨xs,hx,e⟩:=ob e
 rcases oro e with e|e
 ·obtain⟨l,hl,e⟩:=ob e
  obtain⟨hc,e⟩:=io e
  injection e with e
  have:=Vi hl
  exact hG ⟨xs,hx,this▸hc.2,.inl ⟨l,hl,hc.1⟩,by rw [<-e,this]⟩
 ·obtain⟨l,hl,e⟩:=ob e
  obtain⟨hc,e⟩:=io e
  injection e with e
  have:=Gm hl
  exact hG ⟨xs,hx,this▸hc.2,.inr ⟨l,hl,hc.1⟩,by rw [<-e,this]⟩
theorem Ik{x y:Str}{p q pos pos':Pos}{e:PySem.Expr}{m:M V}(hf:Yb C (eval (.Name x p) C.env) (pure (.val (.builtin "len"))))(hg:Yb C (eval (.Name y q) C.env) (pure (.val (.type "set"))))(he:Yb C (eval e C.env) m)
  (hs:starEach [e] C.env = [(false,eval e C.env)]:=by rfl) (hs2:starEach [.Call (.Name y q) [e] [] pos'] C.env = [(false,eval (.Call (.Name y q) [e] [] pos') C.env)]:=by rfl) :
  Yb C (eval (.Call (.Name x p) [.Call (.Name y q) [e] [] pos'] [] pos) C.env) (X.lenSet m):=by
 refine L3 hf hg CallOk.builtin CallOk.type he hs hs2 fun hY ζ ρ st s P E v xv ok rel r w st' e k=>?_
 refine byC fun hG=>?_
 obtain⟨xs,hx,hl,h,hr⟩:=Pg e
 injection hr
 obtain⟨a,ys,rfl,h1,hz⟩:=Jw rel hx r
 refine hG ?_
 clear hG
 have hlen:ys.size=xs.length:=by rw [<-hz.length];simp
 have fin : ∀ h' tk es t,SetOfL C.W.w s.heap h' s.heap.objs.size es t ys.toList->C.W.Ok h'/\wpAny (model C.W.prog C.W.w) C.A (call (.builtin "len") [.ref s.heap.objs.size]) P E {s with heap:=h',toks:=tk}:=fun h' tk es t o=>by
  refine byC fun hG=>?_
  obtain⟨R',G'⟩:=rel.keepAll o.old
  obtain⟨⟨ep,ho⟩,tab,hsz,_⟩:=o.has
  refine hG ?_
  clear hG
  refine⟨R'.ok,call_len_set ho ⟨rfl,rfl,rfl⟩ rfl (by rw [hsz];exact tab.fits) (by rw [hsz];simp;exact ar283 hl hlen) ?_⟩
  exact k ζ ρ h' _ _ G' R' (by refine(?_:Exists _);exact⟨_,by rw [hsz,Z5c,hlen]⟩)
 rcases h with⟨l,q1,q2⟩|⟨ls,q1,q2⟩
 ·exact I5 ok.room.handled h1 (Qw q1 hz) q2 (by rw [Vi q1];exact hl) fin
 ·exact Ap ok.room.handled (by have:=ok.room.units;exact ar284 this) h1 (Aw rel.frozen q1 hz) q2 (by rw [Gm q1];exact hl) fin
end Lay
namespace Lay
variable{C:Cx}
theorem Hi{a b:List Int}(h:a.Perm b):Gj a=Gj b:=U5 ((Uh a).trans h) (Fi a)
theorem Mt{c:Option Nat}(hc:Vd C c){hY ζ:HM}{ρ:RM}{st st':St}{s:Shared}{P:Value->Shared->Prop}{E:Value->Shared->Prop}{v:V}{x:Value}{ns:List Int}(rel:Rel C hY ζ ρ st s.heap)(h64:ns.length<64)
  (hcol : ∀ {Q:List Value->Shared->Prop},(∀ h1 tk vs ms,(∀ b o,s.heap.get? b=some o->h1.get? b=some o)->IntsAre vs ms->ms.Perm ns->Q vs {s with heap:=h1,toks:=tk})->wpAny (model C.W.prog C.W.w) C.A.in1 (collect x) Q E s)
  (e:Wl c ((Gj ns).map .int) st=some (v,st'))
  (k : ∀ ζ' ρ' h' tk' b,Gr C.T s.heap ζ ρ h' ζ' ρ'->Rel C hY ζ' ρ' st' h'->VR C.W ζ' ρ' v b->P b {s with heap:=h',toks:=tk'}):wpAny (model C.W.prog C.W.w) C.A (call (.builtin "sorted") [x]) P E s:=by
 refine Calls.call_function_entry kind_sorted plain_sorted entry_sorted (args_sorted1 _) ?_
 unfold Builtin.«sorted»
 refine Z5l (m:=checkCount "sorted" 1 1 _) (Z5p ?_)
 refine Z5l (hcol fun h1 tk1 vs ms hk hI hp=>?_)
 have hvl:vs.length=ns.length:=by rw [hI.length,hp.length_eq]
 refine Z5l (wpAny_newList ?_ (by rw [hvl,sizeLine_eq];exact ar285 h64 hvl))
 have hoL:(h1.push (seqObj "list" vs.toArray 0)).get? h1.objs.size=some (seqObj "list" vs.toArray 0):=Z5i _ rfl
 refine Z5l (Z5n (Z5m slot_list_sort ⟨_,hoL,rfl⟩ entry_list_sort (list_sort_tree hoL hI (by rw [hvl];exact h64) fun out ns' a1 a2 a3=>⟨_,rfl,?_⟩) (args_list_sort _)))
 refine Z5p ⟨_,rfl,?_⟩
 obtain rfl:=U5 a2 a3
 rw [Hi hp] at a1
 refine byC fun hG=>?_
 obtain⟨⟨n',ho'⟩,hk'⟩:=Gk (vs:=vs) (out:=out) hoL
 obtain⟨R1,G1⟩:=rel.keepAll hk
 obtain⟨ζ',ρ',G',R',V'⟩:=Uo (ys:=out) R1 hc e (Kk a1) (Z12 _) (fun b o q=>hk' b o (Z1o (Z5j q)) (Yd _ _ _ _ q)) ho'
 refine hG ?_
 clear hG
 exact k _ _ _ _ _ (G1.trans G') R' V'
noncomputable def Tf(c:Option Nat)(v:V):M V:=fun s=>(Wv v s).bind fun xs=>(Uc xs).bind fun l=>if l.Nodup/\l.length<64 then Wl c ((Gj l).map .int) s else none
noncomputable def X.sortedSet(c:Option Nat)(m:M V):M V:=m>>=Tf c
theorem Ex : ∀ {xs ys:List Value},xs.Perm ys->∀ {l:List Int},IntsAre xs l->∃ m,IntsAre ys m/\m.Perm l:=by
 intro xs ys h
 induction h with
 |nil=>intro l hl;exact⟨l,hl,.refl _⟩
 |cons x _ ih=>intro l hl;cases hl with|cons n t hr=>obtain⟨m,a,b⟩:=ih hr;exact⟨n::m,.cons n t a,b.cons n⟩
 |swap x y l'=>intro l hl;cases hl with|cons n t hr=>cases hr with|cons n' t' hr'=>exact⟨n'::n::_,.cons n' t' (.cons n t hr'),.swap ..⟩
 |trans _ _ ih1 ih2=>intro l hl;obtain⟨m,a,b⟩:=ih1 hl;obtain⟨m',a',b'⟩:=ih2 a;exact⟨m',a',b'.trans b⟩
theorem R6{x y:Str}{p q pos pos':Pos}{e:PySem.Expr}{m:M V}{c:Option Nat}(hf:Yb C (eval (.Name x p) C.env) (pure (.val (.builtin "sorted"))))(hg:Yb C (eval (.Name y q) C.env) (pure (.val (.type "set"))))(hc:Vd C c)(he:Yb C (eval e C.env) m)
  (hs:starEach [e] C.env = [(false,eval e C.env)]:=by rfl) (hs2:starEach [.Call (.Name y q) [e] [] pos'] C.env = [(false,eval (.Call (.Name y q) [e] [] pos') C.env)]:=by rfl) :
  Yb C (eval (.Call (.Name x p) [.Call (.Name y q) [e] [] pos'] [] pos) C.env) (X.sortedSet c m):=by
 refine L3 hf hg CallOk.builtin CallOk.type he hs hs2 fun hY ζ ρ st s P E v xv ok rel r w st' e k=>?_
 refine byC fun hG=>?_
 obtain⟨xs,hx,e⟩:=ob e
 obtain⟨l,q1,e⟩:=ob e
 obtain⟨hn,e⟩:=io e
 obtain⟨a,ys,rfl,h1,hz⟩:=Jw rel hx r
 refine hG ?_
 clear hG
 have hlen:ys.size=xs.length:=by rw [<-hz.length];simp
 have hll:=Vi q1
 refine I5 ok.room.handled h1 (Qw q1 hz) hn.1 (by(first|lia|omega)) fun h' tk es t o=>?_
 refine byC fun hG=>?_
 obtain⟨R',G'⟩:=rel.keepAll o.old
 obtain⟨⟨ep,ho⟩,tab,hsz,hled⟩:=o.has
 refine hG ?_
 clear hG
 refine⟨R'.ok,Mt hc (s:={s with heap:=h',toks:=tk}) R' (ns:=l) hn.2 (fun {Q} hQ=>?_) e fun ζ2 ρ2 h2 tk2 b G2 rel2 r2=>k ζ2 ρ2 h2 tk2 b (G'.trans G2) rel2 r2⟩
 refine B5 (set_src tab hsz hled) ok.room.handled ho (by rw [sizeLine_eq];simp;(first|lia|omega)) fun h2 tk2 acc hk hi=>?_
 have hacc:acc.toList=Ky C.W.w s.heap.objs.size ep es:=by
  have hl2:(Ky C.W.w s.heap.objs.size ep es).length=ys.toList.length:=by rw [setSeq_perm.length_eq,o.perm.length_eq]
  refine Z2m fun i=>?_
  by_cases c:i<acc.size
  ·rw [Z5b,Z58 c,hi.2 i _ (Z58 c)]
  ·rw [Z2w (by simp;exact ar81 c),Z2w (by rw [hl2,<-hi.1];exact ar81 c)]
 obtain⟨ms,m1,m2⟩:=Ex (setSeq_perm.trans o.perm).symm (Qw q1 hz)
 rw [hacc]
 exact hQ h2 tk2 _ ms hk m1 m2
end Lay
namespace Lay
section
variable{prog:Program}{w:World}{A:Around}{E:Value->Shared->Prop}{s:Shared}
theorem Cr{it t:Addr}{i:Nat}{ys:Array Value}{y:Value}{Q:Value->Shared->Prop}(hit:IsTupIter s.heap it t i)(ht:IsTup s.heap t ys)(hy:ys[i]?=some y)
  (h : ∀ h',IsTupIter h' it t (i+1)->Z5g it s.heap h'->Q y {s with heap:=h'}):wpAny (model prog w) A (Builtin.SmallTypes.nextOf (.ref it)) Q E s:=by
 have hT:=hit.typeIs
 refine byC fun hG=>?_
 obtain⟨o,ho,hc,hd⟩:=hit
 obtain⟨ot,hot,_,n,hdt⟩:=ht
 refine hG ?_
 clear hG
 unfold Builtin.SmallTypes.nextOf
 refine Z5l (wpAny_callSpecial?_slot (name:=Z5k "__next__") hT F.slot_tuple_iterator_next (Z5m F.slot_tuple_iterator_next hT F.entry_tuple_iterator_next ?_ (F.args_tuple_iterator_next_1 _)))
 refine Z5l (Z5o (a:=(Value.ref it,[])) rfl ?_)
 dsimp only
 refine Z5l (wpAny_field ho hd (x:=.ref t) rfl ?_)
 rw [if_neg (show ¬ ((Value.ref t==Value.none)=true) from Z5t)]
 refine Z5l (wpAny_field ho hd (x:=.int i 0) rfl ?_)
 dsimp only
 refine Z5l (wpAny_seqItems hot hdt ?_)
 simp only [Z6v,hy]
 refine Z5l (wpAny_setField ho hd (by simp) (Z5p ⟨y,rfl,Z5p (h _ ⟨_,Heap.get?_update_self _ ho (Obj.isFreed_of_fields (Obj.data_mapFields hd _)),(Obj.cls_mapFields ..).trans hc,?_⟩ (Z5g.update ..))⟩))
 rw [Obj.data_mapFields hd];simp [rawInt]
end
end Lay
namespace Lay
variable{C:Cx}
theorem Rel.addKs{hY ζ:HM}{ρ:RM}{st:St}{h:Heap}(R:Rel C hY ζ ρ st h)(κ:HM)(hκ : ∀ a o,κ a=some o->h.get? a=some o)(off : ∀ a,κ a≠none->Off C hY ζ ρ a):Rel C (fun a=>(κ a).or (hY a)) ζ ρ st h/\Le hY (fun a=>(κ a).or (hY a)):=by
 have no : ∀ a,κ a=none->((κ a).or (hY a))=hY a:=fun a e=>by rw [e];rfl
 have le:Le hY (fun a=>(κ a).or (hY a)):=fun a o e=>by
  cases q:κ a with
  |none=>show ((κ a).or (hY a))=_;rw [no a q];exact e
  |some o'=>have:=(off a (by rw [q];exact Z53 _)).k;rw [this] at e;injection e
 refine⟨⟨⟨R.ok,fun a o e=>?_,R.frozen,R.fcls,R.slot,R.dom,R.inj,R.offz,fun n a e=>?_,fun h' q=>R.good h' (le.trans q),R.sysr,R.sysz⟩,R.fresh,R.mid,R.var,R.plok,fun i pl e=>⟨(R.ploff i pl e).1,?_,(R.ploff i pl e).2.2⟩,R.plinj⟩,le⟩
 ·cases q:κ a with
  |none=>exact R.kept a o (by rw [<-no a q];exact e)
  |some o'=>have e:((κ a).or (hY a))=some o:=e;rw [q] at e;injection e;exact hκ a _ q
 ·show ((κ a).or (hY a))=none
  cases q:κ a with
  |none=>exact R.offk n a e
  |some o'=>exact absurd e ((off a (by rw [q];exact Z53 _)).r n)
 ·show ((κ pl.addr).or (hY pl.addr))=none
  cases q:κ pl.addr with
  |none=>exact(R.ploff i pl e).2.1
  |some o'=>exact absurd rfl ((off pl.addr (by rw [q];exact Z53 _)).p i pl e)
end Lay
namespace Lay
variable{C:Cx}
theorem X9{x:Str}{pos:Pos}{i:Int}{t:Tok}(e:nsIn C.W.K mainGlobals x=some (some (.int i t)))(hx:C.env.kindOf x=some .globalImplicit)(hd:(x==("__debug__" :Str))=false:=by decide):Yb C (eval (.Name x pos) C.env) (pure (.int i)):=by
 intro hY ζ ρ st s P E ok rel a st' e' kk
 injection e'
 exact Calls.Name_function_global ok.kind hx (Calls.loadGlobal_global (by rw [ok.glob];exact rel.ok.2.g) (mg_of rel.ok.1 rel.ok.2.g e) (kk ζ ρ s.heap s.toks _ (Gr.refl _ _ _ _) rel ⟨t,rfl⟩)) hd
noncomputable def vCol(l:List Int)(v:V):M V:=fun s=>(un V.int v).bind fun k=>He k (l.map .int) s
theorem Pd{x:Str}{p1 pos:Pos}{a:Addr}{o:Obj}{ys:Array Value}{n:Nat}{l:List Int}{slice:PySem.Expr}{m:M V}(e:nsIn C.W.K mainGlobals x=some (some (.ref a)))(ho:C.W.K.lookup a=some o)(hc:o.cls = .type "tuple")(hd:o.data = .seq ys n)
  (hl:IntsAre ys.toList l) (h2:Yb C (eval slice C.env) m) (hx:C.env.kindOf x=some .globalImplicit) (hdb:(x==("__debug__" :Str))=false:=by decide)
  (hs : ∀ o i,subscripted slice false o i=operate [o,i] (getItem o i):=by intro _ _;with_unfolding_all rfl) :
  Yb C (eval (.Subscript (.Name x p1) slice pos) C.env) (do let b<-m;vCol l b):=by
 intro hY ζ ρ st s P E ok rel r st' e' k
 refine byC fun hG=>?_
 obtain⟨b,s2,e2,e3⟩:=Z6z e'
 obtain⟨i,hi,e3⟩:=ob e3
 obtain⟨hb,j,hj,hu,hs2⟩:=F9 e3
 refine hG (Subscript_ (Xr e hx hdb hY ζ ρ st s _ E ok rel _ _ rfl fun ζ1 ρ1 h1 tk1 y G1 rel1 r1=>?_))
 change _=_ at r1
 subst r1
 refine h2 hY ζ1 ρ1 st _ _ E ok rel1 b s2 e2 fun ζ2 ρ2 h2' tk2 z G2 rel2 r2=>?_
 rw [Zi hi] at r2
 obtain⟨t,rfl⟩:=r2
 have hT:IsTup h2' a ys:=⟨o,rel2.ok.1 a o ho,hc,n,hd⟩
 have hy:VRs C.W ζ2 ρ2 (l.map .int) ys.toList:=Kk hl
 obtain⟨w,hw,_,hr⟩:=hy.get j r hu
 have hln:ys.size=(l.map V.int).length:=by rw [<-hy.length];exact(Z5c ..).symm
 rw [show s2=st' from hs2.symm] at rel2
 exact tail_any (T := "tuple") ⟨o,rel2.ok.1 a o ho,hc⟩ slot_tuple_getitem.lookup (getItem_tuple hT hb.1 hb.2 (by rw [hln];exact hj) (by rw [<-Z5b];exact hw) (k ζ2 ρ2 h2' _ w (G1.trans G2) rel2 hr)) (hs _ _)
noncomputable def Qb(v:V)(s:St):Bool:=(K4 v s).isSome
theorem MethAt.dict{name:Str}{id:String}(slot:Slot "dict" name id)(hty:typeOf (.builtin id)=pure (.type "method_descriptor")):MethAt C name (.builtin id) (fun v s=>Qb v s=true):=by
 intro hY ζ ρ st s pl P E v x ok rel r hv k
 refine byC fun hG=>?_
 obtain⟨kvs,hx⟩:=Option.isSome_iff_exists.mp hv
 obtain⟨a,kys,rfl,_,hd,_⟩:=Ul rel hx r
 exact hG (getMethod_builtin hd.typeIs PySem.F.plainAttrs_dict slot hty hd.mapOf.noDict k)
noncomputable def v3(p:V×V×V):List V := [p.1,p.2.1,p.2.2]
noncomputable def Dd(vs:List V):M V:=fun s=>(un v3 vs).bind fun p=>(un V.int p.2.1).bind fun k=>(K4 p.1 s).bind fun kvs=>some ((Y1 kvs k).getD p.2.2,s)
theorem Na:Fv C (.builtin "dict.get") Dd:=by
 intro hY ζ ρ st s P E vs xs ok rel ra v st' e k
 refine byC fun hG=>?_
 obtain⟨⟨w,u,d⟩,q1,e⟩:=ob e
 obtain⟨i,q2,e⟩:=ob e
 obtain⟨kvs,q3,e⟩:=ob e
 rw [Zi (f:=v3) q1] at ra
 obtain⟨x,_,rfl,rw',y,_,rfl,ru,z,_,rfl,rd,rfl⟩:=ra
 rw [show u = .int i from Zi q2] at ru
 obtain⟨t,rfl⟩:=ru
 obtain⟨a,kys,rfl,hsys,hd,hk⟩:=Ul rel q3 rw'
 have h3:=hk.get i
 injection e
 refine hG (call_meetsIn PySem.F.slot_dict_get hd.typeIs PySem.F.entry_dict_get (PySem.F.args_dict_get_3 _ _ _) (meets_dict_get_default _ a (Wi i t) hsys z) ⟨_,hd.mapOf,k ζ ρ s.heap _ _ (Gr.refl _ _ _ _) rel ?_⟩)
 cases q:Y1 kvs i with
 |none=>rw [q] at h3;rw [h3];exact rd
 |some u=>rw [q] at h3;obtain⟨_,y,h4,h5⟩:=h3;rw [h4];exact h5
noncomputable def Df(vs:List V):M V:=fun s=>(un v3 vs).bind fun p=>(un V.int p.2.1).bind fun k=>(un V.ref p.1).bind fun n=>((s.hp n).bind (un O.idict)).bind fun kvs =>
 if p.2.2.low=true/\kvs.length<lim then (Y1 kvs k).elim (some (p.2.2,{s with hp:=upd s.hp n (some (.idict (Y6 kvs k p.2.2)))})) fun u=>some (u,s) else none
theorem mSetD_C:Fv C (.builtin "dict.setdefault") Df:=by
 intro hY ζ ρ st s P E vs xs ok rel ra v st' e k
 refine byC fun hG=>?_
 obtain⟨⟨w,u,d⟩,q1,e⟩:=ob e
 obtain⟨i,q2,e⟩:=ob e
 obtain⟨n,q3,e⟩:=ob e
 obtain⟨kvs,q4,e⟩:=ob e
 obtain⟨hg,e⟩:=io e
 obtain⟨O,q,q5⟩:=ob q4
 rw [Zi q5] at q
 rw [Zi (f:=v3) q1] at ra
 obtain⟨x,_,rfl,rw',y,_,rfl,ru,z,_,rfl,rd,rfl⟩:=ra
 rw [show u = .int i from Zi q2] at ru
 obtain⟨t,rfl⟩:=ru
 rw [show w = .ref n from Zi q3] at rw'
 obtain⟨ad,hn,rfl⟩:=rw'
 have hsys:(ad==sysModules)=false:=beq_eq_false_iff_ne.mpr fun q=>rel.sysr n (q▸hn)
 obtain⟨a',o,h1,h2,es,n',kys,rfl,h3,hk⟩:=rel.slot n _ q
 obtain rfl:ad=a':=Z54 (hn.symm.trans h1)
 have hd:=h3.dictOf h2
 have hv:=hk.get i
 refine hG (call_meetsIn PySem.F.slot_dict_setdefault hd.typeIs PySem.F.entry_dict_setdefault (PySem.F.args_dict_setdefault_3 _ _ _) (kt_meets_setdefault _ ad (Wi i t) hsys z)
  ⟨kys,hd,by rw [hk.length];exact J3 (Z0y hg.2),fun w hw=>?_,fun hno h' hd' hs=>?_⟩)
 ·cases q:Y1 kvs i with
  |none=>rw [q] at hv;rw [hv] at hw;cases hw
  |some u =>
   rw [q] at hv e
   obtain⟨_,y,h4,h5⟩:=hv
   rw [h4] at hw
   cases hw
   cases e
   exact k ζ ρ s.heap _ _ (Gr.refl _ _ _ _) rel h5
 ·cases q:Y1 kvs i with
  |some u=>rw [q] at hv;obtain⟨_,y,h4,h5⟩:=hv;rw [h4] at hno;cases hno
  |none =>
   rw [q] at e
   cases e
   obtain⟨R',G'⟩:=Rj (mk:=.idict) (fun _ _ h=>h) rel hn hk hg.1 rd hd' hs
   exact k ζ ρ h' _ _ G' R' (VR.gr rel G' rd)
end Lay
namespace Lay
variable{C:Cx}
noncomputable def Bw(n:Nat)(w:V)(loc:Nat->Option V):Nat->Option V:=fun i=>(loc i).bind fun v=>@V.casesOn (fun _=>Option V) v (some v) (fun _=>some v) (fun _=>some v) (fun _=>some v) (fun _=>some v) (fun _=>some v) (fun _=>some v) (fun m=>if m=n then some w else some (.ref m)) (fun _=>some v) (fun _ _ _=>some v)
theorem Ts{n:Nat}{w:V}{loc:Nat->Option V}{i:Nat}{v:V}(h:Bw n w loc i=some v):(loc i=some v/\v≠ .ref n)\/(loc i=some (.ref n)/\v=w):=by
 obtain⟨u,q,h⟩:=ob h
 cases u with
 |ref m =>
  by_cases hn:m=n
  ·subst hn;exact .inr ⟨q,(Z54 ((if_pos rfl).symm.trans h)).symm⟩
  ·obtain rfl:V.ref m=v:=Z54 ((if_neg hn).symm.trans h)
   exact .inl ⟨q,fun e=>hn (V.ref.inj e)⟩
 |_=>cases h;exact .inl ⟨q,fun e=>Z7i e⟩
theorem VR.off{W:Wd}{ζ ζ':HM}{ρ ρ':RM}{n:Nat}(hz:Le ζ ζ')(hr : ∀ m a,m≠n->ρ m=some a->ρ' m=some a){v:V}{x:Value}(hv:v≠ .ref n)(low:Ko ρ ρ')(h:VR W ζ ρ v x):VR W ζ' ρ' v x:=by
 cases v with
 |ref m=>obtain⟨a,h1,h2⟩:=h;exact⟨a,hr m a (fun q=>hv (by rw [q])) h1,h2⟩
 |_=>exact VR.lowMono hz low _ _ rfl h
theorem Rel.freeze{hY ζ:HM}{ρ:RM}{st:St}{h:Heap}(R:Rel C hY ζ ρ st h){n:Nat}{kvs:List (Int×V)}(e:st.hp n=some (.idict kvs))(hB:C.B<=n)(b100:100<=C.B) :
  ∃ ζ',Rel C hY ζ' (upd ρ n none) ⟨Bw n (.dct kvs) st.loc,upd st.hp n none⟩ h/\Gr C.B h ζ ρ h ζ' (upd ρ n none):=by
 refine byC fun hG=>?_
 obtain⟨a,o,h1,h2,es,m,kys,rfl,h3,h4⟩:=R.slot n _ e
 refine hG ?_
 clear hG
 have dn : ∀ m a,upd ρ n none m=some a->m≠n/\ρ m=some a:=fun m a e=>by
  by_cases q:m=n
  ·subst q;rw [Z4] at e;injection e
  ·rw [Z5 _ _ q] at e;exact⟨q,e⟩
 have up : ∀ m a,m≠n->ρ m=some a->upd ρ n none m=some a:=fun m a q e=>by rw [Z5 _ _ q];exact e
 have low:Ko ρ (upd ρ n none):=fun m a hm e=>up m a (Z1o (Z1a hm (Z16 b100 hB))) e
 have le:Le ζ (upd ζ a (some (Gq es m))):=Wh (R.offz n a h1)
 have hz : ∀ b o,upd ζ a (some (Gq es m)) b=some o->ζ b=some o\/(b=a/\h.get? b=some o):=fun b o q=>by
  by_cases p:b=a
  ·subst p;rw [Z4] at q;injection q;exact .inr ⟨rfl,h2⟩
  ·rw [Z5 _ _ p] at q;exact .inl q
 have hno : ∀ b,b≠a->ζ b=none->upd ζ a (some (Gq es m)) b=none:=fun b q e=>by rw [Z5 _ _ q];exact e
 refine⟨upd ζ a (some (Gq es m)),⟨⟨R.ok,R.kept,fun b o q=>(hz b o q).elim (R.frozen b o) fun q=>q.2,fun _ _ _=>trivial,fun k O e'=>?_,fun k e'=>?_,fun k k' b q q'=>R.inj k k' b (dn _ _ q).2 (dn _ _ q').2,fun k b q=>hno b (fun p=>(dn _ _ q).1 (R.inj k n b (dn _ _ q).2 (p▸h1))) (R.offz k b (dn _ _ q).2),fun k b q=>R.offk k b (dn _ _ q).2,R.good,fun k q=>R.sysr k (dn _ _ q).2,hno _ (fun p=>R.sysr n (p▸h1)) R.sysz⟩,
  fun k hk=>?_,fun k k1 k2 k3=>?_,fun i v q=>?_,R.plok,fun i pl q=>⟨hno _ (fun p=>(R.ploff i pl q).2.2 n (p▸h1)) (R.ploff i pl q).1,(R.ploff i pl q).2.1,fun k q'=>(R.ploff i pl q).2.2 k (dn _ _ q').2⟩,R.plinj⟩,
  ⟨le,fun k b hk q=>up k b (Z1o (Z1a hk hB)) q,fun b o q=>(hz b o q).elim .inl fun q=>.inr (.inr ⟨n,hB,by rw [q.1];exact h1⟩),fun k b q=>.inl (dn _ _ q).2,fun _ q=>q⟩⟩
 ·by_cases q:k=n
  ·subst q;have e':upd st.hp k none k=some O:=e';rw [Z4] at e';injection e'
  ·have e':upd st.hp n none k=some O:=e'
   rw [Z5 _ _ q] at e'
   obtain⟨b,o,g1,g2,g3⟩:=R.slot k O e'
   exact⟨b,o,up k b q g1,g2,g3.mono le low⟩
 ·by_cases q:k=n
  ·subst q;exact Z4 _ _ _
  ·have e':upd st.hp n none k=none:=e'
   rw [Z5 _ _ q] at e' ⊢;exact R.dom k e'
 ·show upd st.hp n none k=none
  by_cases q:k=n
  ·subst q;exact Z4 _ _ _
  ·rw [Z5 _ _ q];exact R.fresh k hk
 ·refine R.mid k k1 k2 fun q=>k3 ?_
  show upd st.hp n none k=none
  by_cases q':k=n
  ·subst q';exact Z4 _ _ _
  ·rw [Z5 _ _ q'];exact q
 ·rcases Ts q with⟨e1,e2⟩|⟨e1,rfl⟩
  ·obtain⟨pl,x,g1,g2,g3⟩:=R.var i v e1
   exact⟨pl,x,g1,g2,VR.off le up e2 low g3⟩
  ·obtain⟨pl,x,g1,g2,b,g3,rfl⟩:=R.var i _ e1
   obtain rfl:a=b:=Z54 (h1.symm.trans g3)
   refine⟨pl,_,g1,g2,?_⟩
   exact⟨a,es,m,kys,rfl,Z4 _ _ _,h3,VRk_p.mp (h4.mono le low)⟩
noncomputable def M.freeze(n:Nat):M Unit:=fun s=>((s.hp n).bind (un O.idict)).bind fun kvs=>some ((),⟨Bw n (.dct kvs) s.loc,upd s.hp n none⟩)
theorem Il{t:Sem Flow}{m:M Fl}(n:Nat)(h:Qi C t m)(hn:C.B<=n):Qi C t (do M.freeze n;m):=by
 intro hY ζ ρ st s P E ok rel a st' e k
 refine byC fun hG=>?_
 obtain⟨_,s1,e1,e2⟩:=Z6z e
 obtain⟨kvs,q,e1⟩:=ob e1
 obtain⟨O,q,q2⟩:=ob q
 rw [Zi q2] at q
 injection e1
 obtain⟨ζ',R',G'⟩:=rel.freeze q hn ok.b100
 refine hG ?_
 clear hG
 exact h hY ζ' _ _ s P E ok R' a st' e2 fun ζ2 ρ2 h2 tk2 b G2 rel2 r2=>k ζ2 ρ2 h2 tk2 b (G'.trans G2) rel2 r2
theorem Rel.move{hY ζ:HM}{ρ:RM}{st:St}{h:Heap}(R:Rel C hY ζ ρ st h){n n':Nat}{O:O}(e:st.hp n'=some O)(hne:n≠n')(hf:st.hp n=none)(hB:C.B<=n)(hB':C.B<=n')(hT:n<C.T)(b100:100<=C.B) :
  ∃ ρ',Rel C hY ζ ρ' ⟨Bw n' (.ref n) st.loc,upd (upd st.hp n' none) n (some O)⟩ h/\Gr C.B h ζ ρ h ζ ρ':=by
 refine byC fun hG=>?_
 obtain⟨a,o,h1,h2,h3⟩:=R.slot n' _ e
 refine hG ?_
 clear hG
 have rn:ρ n=none:=R.dom n hf
 have dn : ∀ m b,upd (upd ρ n' none) n (some a) m=some b->(m=n/\b=a)\/(m≠n/\m≠n'/\ρ m=some b):=fun m b e=>by
  by_cases q:m=n
  ·subst q;rw [Z4] at e;injection e;exact .inl ⟨rfl,rfl⟩
  ·rw [Z5 _ _ q] at e
   by_cases q':m=n'
   ·subst q';rw [Z4] at e;injection e
   ·rw [Z5 _ _ q'] at e;exact .inr ⟨q,q',e⟩
 have dn' : ∀ m b,upd (upd ρ n' none) n (some a) m=some b->∃ m',ρ m'=some b:=fun m b e=>(dn m b e).elim (fun q=>⟨n',q.2▸h1⟩) fun q=>⟨m,q.2.2⟩
 have up : ∀ m b,m≠n'->ρ m=some b->upd (upd ρ n' none) n (some a) m=some b:=fun m b q e=>by
  have q':m≠n:=fun q'=>by rw [q',rn] at e;injection e
  rw [Z5 _ _ q',Z5 _ _ q];exact e
 have low:Ko ρ (upd (upd ρ n' none) n (some a)):=fun m b hm e=>up m b (Z1o (Z1a hm (Z16 b100 hB'))) e
 refine⟨_,⟨⟨R.ok,R.kept,R.frozen,R.fcls,fun k O' e'=>?_,fun k e'=>?_,fun k k' b q q'=>?_,fun k b q=>?_,fun k b q=>?_,R.good,fun k q=>?_,R.sysz⟩,
  fun k hk=>?_,fun k k1 k2 k3=>?_,fun i v q=>?_,R.plok,fun i pl q=>⟨(R.ploff i pl q).1,(R.ploff i pl q).2.1,fun k q'=>?_⟩,R.plinj⟩,
  ⟨Le.refl _,fun k b hk q=>up k b (Z1o (Z1a hk hB')) q,fun b o q=>.inl q,fun k b q=>(dn k b q).elim (fun q=>.inr (.inr ⟨n',hB',q.2▸h1⟩)) fun q=>.inl q.2.2,fun _ q=>q⟩⟩
 ·have e':upd (upd st.hp n' none) n (some O) k=some O':=e'
  by_cases q:k=n
  ·subst q;rw [Z4] at e';injection e';exact⟨a,o,Z4 _ _ _,h2,h3.mono (Le.refl _) low⟩
  ·rw [Z5 _ _ q] at e'
   by_cases q':k=n'
   ·subst q';rw [Z4] at e';injection e'
   ·rw [Z5 _ _ q'] at e'
    obtain⟨b,o,g1,g2,g3⟩:=R.slot k O' e'
    exact⟨b,o,up k b q' g1,g2,g3.mono (Le.refl _) low⟩
 ·have e':upd (upd st.hp n' none) n (some O) k=none:=e'
  by_cases q:k=n
  ·subst q;rw [Z4] at e';injection e'
  ·rw [Z5 _ _ q] at e' ⊢
   by_cases q':k=n'
   ·subst q';exact Z4 _ _ _
   ·rw [Z5 _ _ q'] at e' ⊢;exact R.dom k e'
 ·rcases dn k b q with⟨rfl,rfl⟩|⟨q1,q2,q3⟩
  ·rcases dn k' b q' with⟨q4,_⟩|⟨q4,q5,q6⟩
   ·exact q4.symm
   ·exact absurd (R.inj k' n' b q6 h1) q5
  ·rcases dn k' b q' with⟨q4,rfl⟩|⟨q4,q5,q6⟩
   ·exact absurd (R.inj k n' b q3 h1) q2
   ·exact R.inj k k' b q3 q6
 ·obtain⟨m,q⟩:=dn' k b q;exact R.offz m b q
 ·obtain⟨m,q⟩:=dn' k b q;exact R.offk m b q
 ·obtain⟨m,q⟩:=dn' k _ q;exact R.sysr m q
 ·show upd (upd st.hp n' none) n (some O) k=none
  rw [Z5 _ _ (Z1n (Z1a hT hk))]
  by_cases q:k=n'
  ·subst q;exact Z4 _ _ _
  ·rw [Z5 _ _ q];exact R.fresh k hk
 ·refine R.mid k k1 k2 fun q=>k3 ?_
  show upd (upd st.hp n' none) n (some O) k=none
  rw [Z5 _ _ (Z1o (Z1a k2 hB)),Z5 _ _ (Z1o (Z1a k2 hB'))];exact q
 ·rcases Ts q with⟨e1,e2⟩|⟨e1,rfl⟩
  ·obtain⟨pl,x,g1,g2,g3⟩:=R.var i v e1
   exact⟨pl,x,g1,g2,VR.off (Le.refl _) up e2 low g3⟩
  ·obtain⟨pl,x,g1,g2,b,g3,rfl⟩:=R.var i _ e1
   obtain rfl:a=b:=Z54 (h1.symm.trans g3)
   exact⟨pl,_,g1,g2,a,Z4 _ _ _,rfl⟩
 ·obtain⟨m,q⟩:=dn' k _ q';exact(R.ploff i pl ‹_›).2.2 m q
noncomputable def M.move(n n':Nat):M Unit:=fun s=>(s.hp n').bind fun O=>some ((),⟨Bw n' (.ref n) (Kj n s.loc),upd (upd (upd s.hp n none) n' none) n (some O)⟩)
theorem Cj{t:Sem Flow}{m:M Fl}(n n':Nat)(h:Qi C t m)(hne:n≠n')(hn:C.B<=n)(hn':C.B<=n')(hT:n<C.T):Qi C t (do M.move n n';m):=by
 intro hY ζ ρ st s P E ok rel a st' e k
 refine byC fun hG=>?_
 obtain⟨_,s1,e1,e2⟩:=Z6z e
 obtain⟨O,q,e1⟩:=ob e1
 injection e1
 obtain⟨R1,G1⟩:=rel.kill n hn ok.b100
 have q1:upd st.hp n none n'=some O:=by rw [Z5 _ _ hne.symm];exact q
 obtain⟨ρ',R',G'⟩:=Rel.move R1 (n:=n) (n':=n') q1 hne (Z4 _ _ _) hn hn' hT ok.b100
 refine hG ?_
 clear hG
 exact h hY ζ ρ' _ s P E ok R' a st' e2 fun ζ2 ρ2 h2 tk2 b G2 rel2 r2=>k ζ2 ρ2 h2 tk2 b ((G1.trans G').trans G2) rel2 r2
noncomputable def M.setsg:List (V->M Unit)->List V->M Unit
 | [],[]=>pure ()
 |b::bs,v::vs=>do b v;M.setsg bs vs
 |_,_=>M.fail
inductive Cg(C:Cx):List (Value->Sem Unit)->List (V->M Unit)->Prop
 |nil:Cg C [] []
 |cons {t:Value->Sem Unit} {b:V->M Unit} {ts:List (Value->Sem Unit)} {bs:List (V->M Unit)} (h:Pb C C.T (VR C.W) t b (fun _ _ _ _=>True)) (r:Cg C ts bs):Cg C (t::ts) (b::bs)
theorem Pe{ts:List (Value->Sem Unit)}{bs:List (V->M Unit)}(h:Cg C ts bs):Pb C C.T (VRa C.W) (fun xs=>assignInOrder ts xs) (M.setsg bs) (fun _ _ _ _=>True):=by
 induction h with
 |nil =>
  intro hY ζ ρ st s P E vs xs ok rel r a st' e k
  cases vs with
  |nil=>injection e;change _=_ at r;subst r;exact wpAny_assignInOrder_none (k ζ ρ s.heap s.toks _ (Gr.refl _ _ _ _) rel trivial)
  |cons _ _=>injection e
 |cons h1 _ ih =>
  intro hY ζ ρ st s P E vs xs ok rel r a st' e k
  cases vs with
  |nil=>injection e
  |cons v vs =>
   refine byC fun hG=>?_
   obtain⟨x,xs',rfl,r1,r2⟩:=r
   obtain⟨_,s1,e1,e2⟩:=Z6z e
   refine hG ?_
   clear hG
   refine wpAny_assignInOrder_more (h1 hY ζ ρ st s _ E v x ok rel r1 _ s1 e1 fun ζ1 ρ1 h1' tk1 _ G1 rel1 _=>?_)
   exact ih hY ζ1 ρ1 s1 _ P E vs xs' ok rel1 (r2.gr rel G1) a st' e2 fun ζ2 ρ2 h2 tk2 b G2 rel2 r2=>k ζ2 ρ2 h2 tk2 b (G1.trans G2) rel2 r2
theorem SimA.sub{o i:PySem.Expr}{p:Pos}{mo mi:M V}(ho:Yb C (eval o C.env) mo)(hi:Yb C (eval i C.env) mi):SimA C (.Subscript o i p) (fun u=>do let v<-mo;let k<-mi;Du v k u):=by
 intro hY ζ ρ st s P E u y ok rel ru a st' e k
 refine byC fun hG=>?_
 obtain⟨v,s2,e2,e⟩:=Z6z e
 obtain⟨i',s3,e3,e4⟩:=Z6z e
 refine hG ?_
 clear hG
 show wpAny _ _ (assign (.Subscript o i p) C.env y) _ _ _
 rw [arm_assign_Subscript]
 refine Z5l (Z5n (ho hY ζ ρ st s _ E ok rel v s2 e2 fun ζ2 ρ2 h2 tk2 x G2 rel2 r2=>?_))
 refine Z5l (Z5n (hi hY ζ2 ρ2 s2 _ _ E ok rel2 i' s3 e3 fun ζ3 ρ3 h3 tk3 z G3 rel3 r3=>?_))
 refine Z5l (wpAny_standAt (Z5l (Z5n ?_)))
 exact Z0j hY ζ3 ρ3 s3 _ _ E u v i' y x z ok rel3 (VR.gr rel2 G3 (VR.gr rel G2 ru)) (VR.gr rel2 G3 r2) r3 _ _ e4 fun ζ4 ρ4 h4 tk4 G4 rel4=>wpAny_release (k ζ4 ρ4 h4 tk4 _ ((G2.trans G3).trans G4) rel4 trivial)
theorem Ty{t1 t2 v1 v2:PySem.Expr}{k k':Nat}{tpos vpos pos:Pos}{m1 m2:M V}{b1 b2:V->M Unit}(h1:Yb C (eval v1 C.env) m1)(h2:Yb C (eval v2 C.env) m2)(ha:SimA C t1 b1)(hb:SimA C t2 b2)
  (hst:assignEach [t1,t2] C.env = [(false,fun y=>assign t1 C.env y),(false,fun y=>assign t2 C.env y)]:=by rfl)
  (ha1:starEach [v1,v2] C.env=(false,eval v1 C.env)::starEach [v2] C.env:=by rfl) (ha2:starEach [v2] C.env=(false,eval v2 C.env)::starEach [] C.env:=by rfl)
  (hs:swapsWithSole [.Tuple [t1,t2] k tpos] (.Tuple [v1,v2] k' vpos) pos.line C.env=pure false:=by rfl) (hw:swappedStores [.Tuple [t1,t2] k tpos] (.Tuple [v1,v2] k' vpos) C.env=pure none:=by rfl) :
  Qi C (exec (.Assign [.Tuple [t1,t2] k tpos] (.Tuple [v1,v2] k' vpos) pos) C.env) (do let u<-m1;let w<-m2;b1 u;b2 w;pure .next):=by
 intro hY ζ ρ st s P E ok rel a st' e kk
 refine byC fun hG=>?_
 obtain⟨u,s1,e1,e⟩:=Z6z e
 obtain⟨w,s2,e2,e⟩:=Z6z e
 obtain⟨x1,s3,e3,e⟩:=Z6z e
 obtain⟨x2,s4,e4,e5⟩:=Z6z e
 injection e5
 refine hG ?_
 clear hG
 refine Assign_Tuple (wpAny_Tuple_spliced (Z3 h1 (Z3 h2 Zf ha2) ha1 hY ζ ρ st s _ E ok rel [u,w] s2 ?_ fun ζ1 ρ1 h1 tk1 ys G1 rel1 r1=>⟨J3 (n:=ys.length) (by rw [r1.length];exact Z0w rfl),?_⟩)) hs hw
 ·show ((m1>>=fun v=>(m2>>=fun w=>(Pure.pure []:M (List V))>>=fun r=>Pure.pure (w::r))>>=fun vs=>Pure.pure (v::vs)):M (List V)) st=_
  rw [M.bind_eq,e1]
  show (((m2>>=fun w=>(Pure.pure []:M (List V))>>=fun r=>Pure.pure (w::r))>>=fun vs=>Pure.pure (u::vs)):M (List V)) s1=_
  rw [M.bind_eq,M.bind_eq,e2]
  rfl
 have R2:=rel1.push {cls:=.type "tuple",data:=.seq ys.toArray}
 have G2:Gr C.T h1 ζ1 ρ1 _ ζ1 ρ1:=Gr.push h1 {cls:=.type "tuple",data:=.seq ys.toArray}
 have ht:IsTup (h1.push {cls:=.type "tuple",data:=.seq ys.toArray}) h1.objs.size ys.toArray:=⟨_,Z5i h1 rfl,rfl,0,rfl⟩
 rw [arm_assign_Tuple]
 refine Z5l (wpAny_standAt ?_)
 rw [hst]
 have hn:2=ys.toArray.size:=by rw [Z4r,r1.length];rfl
 unfold unpack
 dsimp only [List.findIdx?,List.findIdx?.go,Z3a]
 rw [show (0+1+1:Nat)=ys.toArray.size from hn]
 refine Z5l (Z5n (unpackItems_tuple ok.room.handled ht fun h' he=>?_))
 obtain⟨R3,G3⟩:=R2.newer he
 refine Pe (.cons ha (.cons hb .nil)) hY ζ1 ρ1 s2 _ _ E [u,w] ys ok R3 r1 () st' ?_ fun ζ2 ρ2 h2 tk2 b G4 rel2 r2=>kk ζ2 ρ2 h2 tk2 _ ((((G1.trans G2).trans G3).trans G4).weak ok.bt) rel2 rfl
 show ((b1 u>>=fun _=>b2 w>>=fun _=>(Pure.pure ():M Unit)):M Unit) s2=_
 rw [M.bind_eq,e3]
 show ((b2 w>>=fun _=>(Pure.pure ():M Unit)):M Unit) s3=_
 rw [M.bind_eq,e4]
 rfl
end Lay
namespace Lay
section
variable{prog:Program}{w:World}{A:Around}{E:Value->Shared->Prop}{s:Shared}
theorem Pp{it t:Addr}{i:Nat}{ys:Array Value}{Q:Value->Shared->Prop}(hh:A.handled=none)(hit:IsTupIter s.heap it t i)(ht:IsTup s.heap t ys)(hy:ys[i]?=none)
  (hE : ∀ h' e,Heap.ExtBut it s.heap h'->(∃ o,h'.get? e=some o/\o.cls = .type "StopIteration")->E (.ref e) {s with heap:=h'}):wpAny (model prog w) A (Builtin.SmallTypes.nextOf (.ref it)) Q E s:=by
 have hT:=hit.typeIs
 refine byC fun hG=>?_
 obtain⟨o,ho,hc,hd⟩:=hit
 obtain⟨ot,hot,_,n,hdt⟩:=ht
 refine hG ?_
 clear hG
 unfold Builtin.SmallTypes.nextOf
 refine Z5l (wpAny_callSpecial?_slot (name:=Z5k "__next__") hT F.slot_tuple_iterator_next (Z5m F.slot_tuple_iterator_next hT F.entry_tuple_iterator_next ?_ (F.args_tuple_iterator_next_1 _)))
 refine Z5l (Z5o (a:=(Value.ref it,[])) rfl ?_)
 dsimp only
 refine Z5l (wpAny_field ho hd (x:=.ref t) rfl ?_)
 rw [if_neg (show ¬ ((Value.ref t==Value.none)=true) from Z5t)]
 refine Z5l (wpAny_field ho hd (x:=.int i 0) rfl ?_)
 dsimp only
 refine Z5l (wpAny_seqItems hot hdt ?_)
 dsimp only [Z6v]
 rw [hy]
 dsimp only
 refine Z5l (wpAny_rule (Z5l (wpAny_setField ho hd (by simp) ?_)))
 show wpAny _ _ (newExc (.type "StopIteration") []>>=_) _ _ _
 refine Z5l ?_
 refine Z5l (wpAny_newObj_type ?_)
 refine Z5l (m:=firstArgMember _ _) (Z5o (a:=Value.none) (by first|rfl|(simp only [firstArgMember];rfl)) ?_)
 refine wpAny_newObj_type ?_
 unfold raiseNew
 dsimp only
 refine Z5l (wpAny_handled ?_)
 rw [show A.in1.handled=none from hh]
 refine Z5l (Z5p (wpAny_throw ?_))
 exact hE _ _ (((Z5g.update ..).extBut.push _).push _) ⟨_,Z5i _ rfl,rfl⟩
theorem Tc(t:Addr)(ys:Array Value) :
  Meets (Builtin.«enumerate.__new__» ⟨[.type "enumerate",.ref t],[]⟩) (fun _ R s=>IsTup s.heap t ys/\
   R (.ok (.ret (.ref (s.heap.push {cls:=.type "tuple_iterator",data:=.fields #[.ref t,.int 0 0]}).objs.size)))
    {s with heap:=(s.heap.push {cls:=.type "tuple_iterator",data:=.fields #[.ref t,.int 0 0]}).push {cls:=.type "enumerate",data:=.fields #[.none,.bool false,.ref s.heap.objs.size,rawInt 0,.none,.none]}}) :=
 .of_wp fun prog w A R s h=>by
  obtain⟨hp,g,d,tk,os⟩:=s;obtain⟨hT,h⟩:=h
  have hsub:=sub_enumerate
  obtain⟨o,ho,hc,n,hd⟩:=id hT
  obtain⟨cl,dct,dt,sl⟩:=o
  replace hc:cl = .type "tuple" :=hc
  replace hd:dt = .seq ys n:=hd
  subst hc hd
  have hT':IsTup (Shared.heap ⟨hp,g,d,tk,os⟩) t ys:=hT
  unfold Builtin.«enumerate.__new__»
  generalize hPI:pyIter=PI
  wp_walk using AutoSeq1.wpAny_loadPart' ho
  refine wpAny_stack_any fun st=>Z5p ?_
  split
  ·rename_i c _ _ _ _ _
   cases (c==Value.type "enumerate")
   ·wp_walk using AutoSeq1.wpAny_loadPart' ho
    subst hPI
    refine wpAny_pyIter_tuple hT' ?_
    wp_walk using AutoSeq1.wpAny_loadPart' ho
    exact⟨_,rfl,h⟩
   ·wp_walk using AutoSeq1.wpAny_loadPart' ho
    subst hPI
    refine wpAny_pyIter_tuple hT' ?_
    wp_walk using AutoSeq1.wpAny_loadPart' ho
    exact⟨_,rfl,h⟩
  ·wp_walk using AutoSeq1.wpAny_loadPart' ho
   subst hPI
   refine wpAny_pyIter_tuple hT' ?_
   wp_walk using AutoSeq1.wpAny_loadPart' ho
   exact⟨_,rfl,h⟩
structure EnSrc(prog:Program)(w:World)(c:Addr)(oc:Obj)(ys:Array Value)(J:Nat->Obj->Prop):Prop where
 make : ∀ (A:Around) (s:Shared) (Q E:Value->Shared->Prop),s.heap.get? c=some oc->(∀ h',IsEnum h' (s.heap.objs.size+1) s.heap.objs.size 0 .none->(∃ o,h'.get? s.heap.objs.size=some o/\J 0 o)->h'.objs.size=s.heap.objs.size+2->
  (∀ b o,s.heap.get? b=some o->h'.get? b=some o)->Q (.ref (s.heap.objs.size+1)) {s with heap:=h'})->wpAny (model prog w) A (call (.type "enumerate") [.ref c]) Q E s
 draws : ∀ (A:Around) (it:Addr),A.handled=none->c≠it->Draws prog w A it [it,c] ys.size (fun i v=>ys[i]?=some v) (fun i h=>(∃ o,h.get? it=some o/\J i o)/\h.get? c=some oc)
theorem EnSrc.list{c:Addr}{oc:Obj}{ys:Array Value}(hc:LstIs oc ys):EnSrc prog w c oc ys (fun i o=>o.cls = .type "list_iterator" /\o.data = .fields #[.ref c,.int i 0]) where
 make:=fun A s Q E ho h=>call_enumerate_list ⟨oc,ho,hc.cls,hc.data⟩ fun h' a b z k=>h h' a b z k
 draws:=fun A it hh hne=>{
  live:=fun i h hst=>⟨_,hst.1.choose_spec.1⟩
  frame:=fun i h h' hst k=>⟨let ⟨o,ho,r⟩:=hst.1;⟨o,k it (.head _) o ho,r⟩,k c (.tail _ (.head _)) oc hst.2⟩
  item:=fun i s Q E hi hst hQ=>wpAny_nextOf_list_item hst.1 ⟨oc,hst.2,hc.cls,hc.data⟩ (Z58 hi) fun h' a b=>hQ _ h' s.toks (Z58 hi) ⟨a,(b.2 c hne).trans hst.2⟩ b
  done:=fun s Q E hst hE=>wpAny_nextOf_list_end hh hst.1 ⟨oc,hst.2,hc.cls,hc.data⟩ (by simp) hE}
theorem EnSrc.tup{c:Addr}{oc:Obj}{ys:Array Value}(hc:Hw oc ys):EnSrc prog w c oc ys (fun i o=>o.cls = .type "tuple_iterator" /\o.data = .fields #[.ref c,.int i 0]) where
 make:=fun A s Q E ho h=>by
  refine callType_new F.called_enumerate (by decide) (F.typeCall_enumerate_1 _) (F.newCall_enumerate_1 _) (fun obj=>F.args_object_init_2 obj _) F.entry_enumerate_new (Tc c ys) ⟨⟨oc,ho,hc.1,hc.2⟩,?_⟩
  have hz:(s.heap.push {cls:=.type "tuple_iterator",data:=.fields #[.ref c,.int 0 0]}).objs.size=s.heap.objs.size+1:=Heap.size_push ..
  show _/\_
  rw [hz]
  have he:=Z5i (s.heap.push {cls:=.type "tuple_iterator",data:=.fields #[.ref c,.int 0 0]})
   (o:={cls:=.type "enumerate",data:=.fields #[.none,.bool false,.ref s.heap.objs.size,rawInt 0,.none,.none]}) rfl
  rw [hz] at he
  exact⟨⟨_,he,rfl⟩,h _ he ⟨_,Z5h _ (Z5i _ rfl),rfl,rfl⟩ (by rw [Heap.size_push,hz]) fun b o x=>Z5h _ (Z5h _ x)⟩
 draws:=fun A it hh hne=>{
  live:=fun i h hst=>⟨_,hst.1.choose_spec.1⟩
  frame:=fun i h h' hst k=>⟨let ⟨o,ho,r⟩:=hst.1;⟨o,k it (.head _) o ho,r⟩,k c (.tail _ (.head _)) oc hst.2⟩
  item:=fun i s Q E hi hst hQ=>Cr hst.1 ⟨oc,hst.2,hc.1,hc.2⟩ (Z58 hi) fun h' a b=>hQ _ h' s.toks (Z58 hi) ⟨a,(b.2 c hne).trans hst.2⟩ b
  done:=fun s Q E hst hE=>Pp hh hst.1 ⟨oc,hst.2,hc.1,hc.2⟩ (by simp) hE}
end
variable{C:Cx}
noncomputable def fixV(v:V):Option (List V):=(un V.tup v).or (un V.lst v)
inductive FixAt(C:Cx)(ζ:HM)(ρ:RM)(xs:List V)(x:Value):Prop
 |mk (c:Addr) (oc:Obj) (ys:Array Value) (J:Nat->Obj->Prop) (hx:x = .ref c) (hz:ζ c=some oc) (src:EnSrc C.W.prog C.W.w c oc ys J) (h:VRs C.W ζ ρ xs ys.toList)
theorem fixV_at{ζ:HM}{ρ:RM}{v:V}{x:Value}{xs:List V}(e:fixV v=some xs)(r:VR C.W ζ ρ v x):FixAt C ζ ρ xs x:=by
 rcases oro e with e|e
 ·rw [Zi e] at r
  obtain⟨a,o,ys,rfl,h1,h2,h3⟩:=r
  exact⟨a,o,ys,_,rfl,h1,.tup h2,h3⟩
 ·rw [Zi e] at r
  obtain⟨a,o,ys,rfl,h1,h2,h3⟩:=r
  exact⟨a,o,ys,_,rfl,h1,.list h2,h3⟩
noncomputable def Mb(xs:List V):List V:=xs.mapIdx fun k x=>V.tup [.int k,x]
theorem B9{xs:List V}{i:Nat}:(Mb xs)[i]?=(xs[i]?).map fun x=>V.tup [.int i,x]:=List.getElem?_mapIdx
noncomputable def M.forE(v:V)(bind:V->M Unit)(body:M Fl):M Fl:=fun s=>(fixV v).bind fun xs=>M.forN (fun _=>some (Mb xs)) bind body (xs.length+1) 0 s
noncomputable def Y.forEnum(m:M V)(i j:Nat)(mb:M Fl):M Fl:=do let v<-m;M.forE v (M.unpack [i,j]) mb
inductive EnI(C:Cx)(hY ζ:HM)(ρ:RM)(s:Shared)(c b:Addr)(oc:Obj)(ys:Array Value)(J:Nat->Obj->Prop)(xs:List V)(bind:V->M Unit)(mb:M Fl)(r:Fl×St)(n:Nat)(s':Shared):Prop
 |mk (ζ2:HM) (ρ2:RM) (st2:St) (h2:Heap) (tk2:Tok) (i:Nat) (old:Value) (e:s'={s with heap:=h2,toks:=tk2}) (G:Gr C.B s.heap ζ ρ h2 ζ2 ρ2) (rel:Rel C hY ζ2 ρ2 st2 h2) (hz:ζ2 c=some oc) (hx:VRs C.W ζ2 ρ2 xs ys.toList)
   (he:IsEnum h2 (b+1) b i old) (hit : ∃ o,h2.get? b=some o/\J i o) (off : ∀ a,b<=a->a<=b+1->Off C hY ζ2 ρ2 a) (hi:i<=xs.length) (e1:M.forN (fun _=>some (Mb xs)) bind mb n i st2=some r)
theorem Li{h:Heap}{b:Addr}{it:Addr}{i:Int}{old:Value}{J:Obj->Prop}(he:IsEnum h (b+1) it i old)(hit : ∃ o,h.get? b=some o/\J o) : ∀ a,b<=a->a<=b+1->h.get? a≠none:=fun a h1 h2=>by
 rcases Z1d h2 with q|rfl
 ·obtain rfl:a=b:=Z0v (Z0z q) h1
  obtain⟨o,ho,_⟩:=hit
  rw [ho];exact Z53 _
 ·rw [show h.get? (b+1)=_ from he];exact Z53 _
theorem Q1{z a b:Str}{zp ap bp tp pos pos':Pos}{i j k:Nat}{e1:PySem.Expr}{body:List Stmt}{m1:M V}{mb:M Fl}(hz:Yb C (eval (.Name z zp) C.env) (pure (.val (.type "enumerate"))))(h1:Yb C (eval e1 C.env) m1)
  (ha:M4 C a i) (hb:M4 C b j) (hbody:Qi C (execs body C.env) mb)
  (hs1:starEach [e1] C.env=(false,eval e1 C.env)::starEach [] C.env:=by rfl)
  (hf : ∀ x,foldedSetIterable (.Call (.Name z zp) [e1] [] pos') C.env x=pure x:=by intro _;rfl) :
  Qi C (exec (.For (.Tuple [.Name a ap,.Name b bp] k tp) (.Call (.Name z zp) [e1] [] pos') body [] pos) C.env) (Y.forEnum m1 i j mb):=by
 have hA:SimA C (.Tuple [.Name a ap,.Name b bp] k tp) (M.unpack [i,j]):=SimA.tuple (.cons (SimSts.name ha) (.cons (SimSts.name hb) .nil))
 intro hY ζ ρ st s P E ok rel r st' e kk
 refine byC fun hG=>?_
 obtain⟨v1,s1,e1',e⟩:=Z6z e
 obtain⟨xs,hv1,e5⟩:=ob e
 refine hG ?_
 clear hG
 refine wpAny_For (wpAny_Call_NameR (hz hY ζ ρ st s _ E ok rel _ _ rfl fun ζ1 ρ1 h1' tk1 y G1 rel1 r1=>?_)) hf
 change _=_ at r1
 subst r1
 have ht1:TreesOk (backTo pos' (starEach [e1] C.env)):=by rw [hs1];exact .cons .nil
 refine CallOk.type (W:=C.W) _ _ _ _ _ _ _ ht1.1 (V2 ht1.2 (Z3 h1 Zf hs1 hY ζ1 ρ1 st _ _ E ok rel1 [v1] s1 ?_ fun ζ2 ρ2 h2' tk2 vs G2 rel2 r2=>⟨rel2.ok,?_⟩))
 ·show ((m1>>=fun v=>(Pure.pure []:M (List V))>>=fun vs=>Pure.pure (v::vs)):M (List V)) st=_
  rw [M.bind_eq,e1']
  rfl
 refine byC fun hG=>?_
 obtain⟨xl,_,rfl,rx,rfl⟩:=r2
 obtain⟨c,oc,ys,J,rfl,hzc,src,hxs⟩:=fixV_at hv1 rx
 refine hG ?_
 clear hG
 have hcl:c<h2'.objs.size:=Z5j (rel2.frozen _ _ hzc)
 refine src.make _ _ _ _ (rel2.frozen _ _ hzc) fun h3 he hit hsz k3=>?_
 refine wpAny_pyIter_enum he ?_
 have G12:=G1.trans G2
 obtain⟨rel3,G3⟩:=rel2.keepAll k3
 have hnone : ∀ a,h2'.objs.size<=a->h2'.get? a=none:=fun a q=>by
  cases w:h2'.get? a with
  |none=>rfl
  |some o=>exact absurd (Z5j w) (Nat.not_lt.mpr q)
 refine codeAny_forLoop_any (EnI C hY ζ ρ s c h2'.objs.size oc ys J xs (M.unpack [i,j]) mb (r,st')) (fun n s' hI=>?_) (xs.length+1) ⟨ζ2,ρ2,s1,h3,_,0,.none,rfl,(G12.trans G3).weak ok.bt,rel3,hzc,hxs,he,hit,fun a q _=>rel2.offNew (hnone a q),Z25 _,e5⟩
 generalize hbq:h2'.objs.size=bb at *
 refine byC fun hG=>?_
 obtain⟨ζ4,ρ4,st4,h4,tk4,c',old,rfl,G4,rel4,hz4,hx4,he4,hit4,off4,hi4,e6⟩:=hI
 refine hG ?_
 clear hG
 have hlen:ys.size=xs.length:=by rw [<-hx4.length];exact(Z5c ..).symm
 have hcb:c≠bb:=Z1o hcl
 have D:=src.draws C.A.in1 bb ok.room.handled hcb
 cases n with
 |zero=>injection e6
 |succ n =>
  ·change Z4x ((Mb xs)[c']?) _ _=_ at e6
   cases hc:xs[c']? with
   |none =>
    rw [B9,hc] at e6
    injection e6
    have hcn:c'=ys.size:=by
     have a1:=Z2x.mp hc
     exact(Z0v hi4 a1).trans hlen.symm
    refine wpAny_pyNext_enum_endD D he4 (hcn▸⟨hit4,rel4.frozen _ _ hz4⟩) fun h5 k5=>?_
    have rel5:Rel C hY ζ4 ρ4 st' h5:=rel4.off (fun a=>bb<=a/\a<=bb+1) (fun a o hb q=>k5 a o (fun q'=>hb (by subst q';exact⟨Z12 _,Z14 _⟩)) q) (fun a q=>let o:=off4 a q.1 q.2;⟨o.z,o.k,o.r⟩) (fun i pl q q'=>(off4 _ q'.1 q'.2).p i pl q rfl)
    refine wpAny_execs_nil (kk ζ4 ρ4 h5 tk4 _ ⟨G4.zl,G4.rl,G4.zn,G4.rn,fun a q=>?_⟩ rel5 rfl)
    have q':=G4.dm a q
    cases w:h4.get? a with
    |none=>exact absurd w q'
    |some o =>
     have ha1 : ¬ (bb<=a):=fun hle=>by
      have:=G12.dm a q
      rw [hnone a hle] at this
      exact this rfl
     rw [k5 a o (fun q=>ha1 (Z0x q.symm)) w];exact Z53 _
   |some u =>
    rw [B9,hc] at e6
    dsimp only [Z4y,Z52] at e6
    have hlt:c'<xs.length:=(Z2y.mp hc).1
    refine byC fun hG=>?_
    obtain⟨xx,hxx,lx,rxx⟩:=hx4.get c' u hc
    refine hG ?_
    clear hG
    rw [Z5b] at hxx
    refine wpAny_pyNext_enum_itemD D he4 ⟨hit4,rel4.frozen _ _ hz4⟩ (hlen▸hlt) (Nat.succ_ne_self bb) (fun q=>?_) fun x h5 tk5 hx5 heo hst5 hT5 hsz5 k5=>?_
    ·rcases Z3z.mp q with q|q
     ·exact Nat.succ_ne_self bb q
     ·exact Z1o (Z1f hcl) (Z49.mp q).symm
    obtain rfl:xx=x:=Z54 (hxx.symm.trans hx5)
    refine wpAny_letOwnedTupleGo_enum heo fun h6 he6 s6=>?_
    have hbl:bb+1<h4.objs.size:=Z5j he4
    have hT4:=rel4.offNew (Yo h4)
    have hTo:h4.objs.size≠bb+1:=Z1n hbl
    have gT:h6.get? h4.objs.size=some {cls:=.type "tuple",data:=.seq #[.int c' tk5,xx]}:=(s6.2 _ hTo).trans hT5
    have k6 : ∀ a o,¬ (bb<=a/\a<=bb+1)->h4.get? a=some o->h6.get? a=some o:=fun a o hb q=>(s6.2 a (fun q'=>hb (by subst q';exact⟨Z14 _,Z12 _⟩))).trans (k5 a o (fun q'=>hb (by subst q';exact⟨Z14 _,Z12 _⟩)) (fun q'=>hb (by subst q';exact⟨Z12 _,Z14 _⟩)) q)
    have hit6 : ∃ o,h6.get? bb=some o/\J (c'+1) o:=by
     obtain⟨o,ho,r⟩:=hst5.1
     exact⟨o,(s6.2 bb (Z1o (Z1g bb))).trans ho,r⟩
    have relA:Rel C hY ζ4 ρ4 st4 h6:=rel4.off (fun a=>bb<=a/\a<=bb+1) k6 (fun a q=>let o:=off4 a q.1 q.2;⟨o.z,o.k,o.r⟩) (fun i pl q q'=>(off4 _ q'.1 q'.2).p i pl q rfl)
    have relT:=relA.adoptZ gT hT4 (rel4.not_sys (Z12 _))
    have leT:Le ζ4 (upd ζ4 h4.objs.size (some {cls:=.type "tuple",data:=.seq #[.int c' tk5,xx]})):=Wh hT4.z
    have has6:=Li he6 hit6
    have GT:Gr C.B h4 ζ4 ρ4 h6 (upd ζ4 h4.objs.size (some {cls:=.type "tuple",data:=.seq #[.int c' tk5,xx]})) ρ4:=⟨leT,fun _ _ _ q=>q,fun a o q=>by
      by_cases w:a=h4.objs.size
      ·subst w;exact .inr (.inl (Yo _))
      ·rw [Z5 _ _ w] at q;exact .inl q,fun _ _ q=>.inl q,fun a q=>by
      by_cases w:bb<=a/\a<=bb+1
      ·exact has6 a w.1 w.2
      ·cases w2:h4.get? a with
       |none=>exact absurd w2 q
       |some o=>rw [k6 a o w w2];exact Z53 _⟩
    have offT : ∀ a,bb<=a->a<=bb+1->Off C hY (upd ζ4 h4.objs.size (some {cls:=.type "tuple",data:=.seq #[.int c' tk5,xx]})) ρ4 a:=fun a a1 a2=>(off4 a a1 a2).gr GT (Li he4 hit4 a a1 a2)
    have hr:VR C.W (upd ζ4 h4.objs.size (some {cls:=.type "tuple",data:=.seq #[.int c' tk5,xx]})) ρ4 (.tup [.int c',u]) (.ref h4.objs.size) :=
     ⟨_,_,#[.int c' tk5,xx],rfl,Z4 _ _ _,⟨rfl,0,rfl⟩,_,_,rfl,rfl,⟨tk5,rfl⟩,xx,_,rfl,lx,rxx.mono leT (Le.refl _),rfl⟩
    obtain⟨relK,leK⟩:=relT.addKs (fun a=>if bb<=a/\a<=bb+1 then h6.get? a else none) (fun a o q=>by
     by_cases w:bb<=a/\a<=bb+1
     ·rw [if_pos w] at q;exact q
     ·rw [if_neg w] at q;injection q) (fun a q=>by
     by_cases w:bb<=a/\a<=bb+1
     ·exact offT a w.1 w.2
     ·rw [if_neg w] at q;exact absurd rfl q)
    refine byC fun hG=>?_
    obtain⟨_,s7,e7,e8⟩:=Z6z e6
    obtain⟨fl,s8,e9,e10⟩:=Z6z e8
    refine hG ?_
    clear hG
    refine hA _ _ ρ4 st4 _ _ _ _ _ ok relK hr () s7 e7 fun ζ7 ρ7 h7 tk7 _ G7 rel7 _=>?_
    refine hbody _ ζ7 ρ7 s7 _ _ _ ok rel7 fl s8 e9 fun ζ8 ρ8 h8 tk8 b8 G8 rel8 r8=>?_
    have G68:Gr C.B h6 (upd ζ4 h4.objs.size (some {cls:=.type "tuple",data:=.seq #[.int c' tk5,xx]})) ρ4 h8 ζ8 ρ8:=(G7.weak ok.bt).trans G8
    have G48:=GT.trans G68
    have rel9:=rel8.dropK leK rel.good
    have he8:IsEnum h8 (bb+1) bb ((c'+1:Nat):Int) xx:=rel8.kept _ _ (by rw [if_pos ⟨Z14 _,Z12 _⟩,show h6.get? (bb+1)=_ from he6];rfl)
    have hit8 : ∃ o,h8.get? bb=some o/\J (c'+1) o:=by
     obtain⟨o,ho,r⟩:=hit6
     exact⟨o,rel8.kept _ _ (by rw [if_pos ⟨Z12 _,Z14 _⟩,ho];rfl),r⟩
    have off8 : ∀ a,bb<=a->a<=bb+1->Off C hY ζ8 ρ8 a:=fun a a1 a2=>(offT a a1 a2).gr G68 (has6 a a1 a2)
    have hx8:=VRs.mono G48.zl (fun n a q e=>G48.rl n a (Z1a q ok.b100) e) _ _ hx4
    have hz8:=G48.zl _ _ hz4
    have G9:=G4.trans G48
    cases fl with
    |next=>injection r8;exact⟨n,Z1g n,ζ8,ρ8,s8,h8,tk8,c'+1,xx,rfl,G9,rel9,hz8,hx8,he8,hit8,off8,hlt,e10⟩
    |cont=>injection r8;exact⟨n,Z1g n,ζ8,ρ8,s8,h8,tk8,c'+1,xx,rfl,G9,rel9,hz8,hx8,he8,hit8,off8,hlt,e10⟩
    |brk=>injection r8;injection e10;exact kk ζ8 ρ8 h8 tk8 _ G9 rel9 rfl
    |ret w=>obtain⟨y,rfl,hy⟩:=r8;injection e10;exact kk ζ8 ρ8 h8 tk8 _ G9 rel9 ⟨y,rfl,hy⟩
end Lay
namespace Lay
variable{C:Cx}
noncomputable def hid(n i:Nat)(x:Value)(s:St):St:=⟨upd s.loc i (some (.val x)),upd s.hp n none⟩
theorem Rel.hide{hY ζ:HM}{ρ:RM}{st:St}{h:Heap}(R:Rel C hY ζ ρ st h){n i:Nat}{kvs:List (Int×V)}{ad:Addr}{o:Obj}(e:st.hp n=some (.idict kvs))(hi:st.loc i=some (.ref n))(ho : ∀ k,k≠i->st.loc k≠some (.ref n))(h100:100<=n)
  (h1:ρ n=some ad) (h2:h.get? ad=some o):Rel C (upd hY ad (some o)) ζ (upd ρ n none) (hid n i (.ref ad) st) h:=by
 have dn : ∀ m a,upd ρ n none m=some a->m≠n/\ρ m=some a:=fun m a e=>by
  by_cases q:m=n
  ·subst q;rw [Z4] at e;injection e
  ·rw [Z5 _ _ q] at e;exact⟨q,e⟩
 have up : ∀ m a,m≠n->ρ m=some a->upd ρ n none m=some a:=fun m a q e=>by rw [Z5 _ _ q];exact e
 have low:Ko ρ (upd ρ n none):=fun m a hm e=>up m a (Z1o (Z1a hm h100)) e
 have le:Le hY (upd hY ad (some o)):=Wh (R.offk n ad h1)
 have hno : ∀ b,b≠ad->hY b=none->upd hY ad (some o) b=none:=fun b q e=>by rw [Z5 _ _ q];exact e
 refine⟨⟨R.ok,fun b o' q=>?_,R.frozen,R.fcls,fun k O e'=>?_,fun k e'=>?_,fun k k' b q q'=>R.inj k k' b (dn _ _ q).2 (dn _ _ q').2,fun k b q=>R.offz k b (dn _ _ q).2,fun k b q=>hno b (fun p=>(dn _ _ q).1 (R.inj k n b (dn _ _ q).2 (p▸h1))) (R.offk k b (dn _ _ q).2),fun h' q=>R.good h' (le.trans q),fun k q=>R.sysr k (dn _ _ q).2,R.sysz⟩,
  fun k hk=>?_,fun k k1 k2 k3=>?_,fun k v q=>?_,R.plok,fun k pl q=>⟨(R.ploff k pl q).1,hno _ (fun p=>(R.ploff k pl q).2.2 n (p▸h1)) (R.ploff k pl q).2.1,fun m q'=>(R.ploff k pl q).2.2 m (dn _ _ q').2⟩,R.plinj⟩
 ·by_cases p:b=ad
  ·subst p;rw [Z4] at q;injection q;exact h2
  ·rw [Z5 _ _ p] at q;exact R.kept b o' q
 ·have e':upd st.hp n none k=some O:=e'
  by_cases q:k=n
  ·subst q;rw [Z4] at e';injection e'
  ·rw [Z5 _ _ q] at e'
   obtain⟨b,o',g1,g2,g3⟩:=R.slot k O e'
   exact⟨b,o',up k b q g1,g2,g3.mono (Le.refl _) low⟩
 ·have e':upd st.hp n none k=none:=e'
  by_cases q:k=n
  ·subst q;exact Z4 _ _ _
  ·rw [Z5 _ _ q] at e' ⊢;exact R.dom k e'
 ·show upd st.hp n none k=none
  by_cases q:k=n
  ·subst q;exact Z4 _ _ _
  ·rw [Z5 _ _ q];exact R.fresh k hk
 ·refine R.mid k k1 k2 fun q=>k3 ?_
  show upd st.hp n none k=none
  by_cases q':k=n
  ·subst q';exact Z4 _ _ _
  ·rw [Z5 _ _ q'];exact q
 ·have q:upd st.loc i (some (.val (.ref ad))) k=some v:=q
  by_cases p:k=i
  ·subst p
   rw [Z4] at q
   injection q
   obtain⟨pl,x,g1,g2,b,g3,rfl⟩:=R.var k _ hi
   obtain rfl:ad=b:=Z54 (h1.symm.trans g3)
   exact⟨pl,_,g1,g2,rfl⟩
  ·rw [Z5 _ _ p] at q
   obtain⟨pl,x,g1,g2,g3⟩:=R.var k v q
   exact⟨pl,x,g1,g2,VR.off (Le.refl _) up (fun w=>ho k p (by rw [q,w])) low g3⟩
theorem Rel.unhide{hY ζ ζ':HM}{ρ ρ':RM}{st:St}{h h':Heap}(R:Rel C hY ζ ρ st h){n i:Nat}{kvs:List (Int×V)}{ad:Addr}{o:Obj}(e:st.hp n=some (.idict kvs))(hi:st.loc i=some (.ref n))(ho : ∀ k,k≠i->st.loc k≠some (.ref n))(h100:100<=n)
  (h1:ρ n=some ad) (h2:h.get? ad=some o) (h3:OR C.W ζ ρ (.idict kvs) o) (G:Gr C.T h ζ (upd ρ n none) h' ζ' ρ') (R':Rel C (upd hY ad (some o)) ζ' ρ' (hid n i (.ref ad) st) h') :
  Rel C hY ζ' (upd ρ' n (some ad)) st h'/\Gr C.T h ζ ρ h' ζ' (upd ρ' n (some ad)):=by
 have dn0 : ∀ m a,upd ρ n none m=some a->m≠n/\ρ m=some a:=fun m a e=>by
  by_cases q:m=n
  ·subst q;rw [Z4] at e;injection e
  ·rw [Z5 _ _ q] at e;exact⟨q,e⟩
 have nw : ∀ a,Nw C.T h (upd ρ n none) a->Nw C.T h ρ a:=fun a q=>q.imp id fun q=>by obtain⟨m,hm,q⟩:=q;exact⟨m,hm,(dn0 _ _ q).2⟩
 have nwad : ¬ Nw C.T h (upd ρ n none) ad:=fun q=>q.elim (fun q=>by rw [h2] at q;injection q) fun q=>by
  obtain⟨m,hm,q⟩:=q
  exact(dn0 _ _ q).1 (R.inj m n ad (dn0 _ _ q).2 h1)
 have le:Le hY (upd hY ad (some o)):=Wh (R.offk n ad h1)
 have had:upd hY ad (some o) ad=some o:=Z4 _ _ _
 have rad : ∀ m,ρ' m≠some ad:=fun m q=>by have:=R'.offk m ad q;rw [had] at this;injection this
 have zad:ζ' ad=none:=by
  cases q:ζ' ad with
  |none=>rfl
  |some o' =>
    rcases G.zn _ _ q with p|p
    ·rw [R.offz n ad h1] at p;injection p
    ·exact absurd p nwad
 have rn:ρ' n=none:=R'.dom n (Z4 _ _ _)
 have up : ∀ m a,ρ' m=some a->upd ρ' n (some ad) m=some a:=fun m a q=>by
  rw [Z5 _ _ (fun p=>by rw [p,rn] at q;injection q)];exact q
 have low:Ko ρ' (upd ρ' n (some ad)):=fun m a _ q=>up m a q
 have low0:Ko ρ (upd ρ' n (some ad)):=fun m a hm q=>up m a (G.rl m a (R.rdom q) (by rw [Z5 _ _ (Z1o (Z1a hm h100))];exact q))
 have dn : ∀ m b,upd ρ' n (some ad) m=some b->(m=n/\b=ad)\/(m≠n/\ρ' m=some b):=fun m b q=>by
  by_cases p:m=n
  ·subst p;rw [Z4] at q;injection q;exact .inl ⟨rfl,rfl⟩
  ·rw [Z5 _ _ p] at q;exact .inr ⟨p,q⟩
 have hp : ∀ m,m≠n->(hid n i (.ref ad) st).hp m=st.hp m:=fun m q=>Z5 _ _ q
 have hT:n<C.T:=R.rdom h1
 have hk0 : ∀ b,upd hY ad (some o) b=none->hY b=none:=fun b q=>by
  cases p:hY b with
  |none=>rfl
  |some o'=>rw [le b o' p] at q;injection q
 refine⟨⟨⟨R'.ok,le.trans R'.kept,R'.frozen,R'.fcls,fun k O q=>?_,fun k q=>?_,fun k k' b q q'=>?_,fun k b q=>?_,fun k b q=>?_,R.good,fun k q=>?_,R'.sysz⟩,
  fun k hk=>?_,R.mid,fun k v q=>?_,R'.plok,fun k pl q=>⟨(R'.ploff k pl q).1,hk0 _ (R'.ploff k pl q).2.1,fun m q'=>?_⟩,R'.plinj⟩,
  ⟨G.zl,fun k b hk q=>?_,fun a o' q=>(G.zn a o' q).imp id (nw a),fun k b q=>?_,G.dm⟩⟩
 ·by_cases p:k=n
  ·subst p
   rw [e] at q
   injection q
   exact⟨ad,o,Z4 _ _ _,R'.kept _ _ had,h3.mono G.zl low0⟩
  ·obtain⟨b,o',g1,g2,g3⟩:=R'.slot k O ((hp k p).trans q)
   exact⟨b,o',up k b g1,g2,g3.mono (Le.refl _) low⟩
 ·have p:k≠n:=fun p=>by rw [p,e] at q;injection q
  rw [Z5 _ _ p];exact R'.dom k ((hp k p).trans q)
 ·rcases dn k b q with⟨rfl,rfl⟩|⟨p1,p2⟩
  ·rcases dn k' b q' with⟨q4,_⟩|⟨q4,q5⟩
   ·exact q4.symm
   ·exact absurd q5 (rad _)
  ·rcases dn k' b q' with⟨q4,rfl⟩|⟨q4,q5⟩
   ·exact absurd p2 (rad _)
   ·exact R'.inj k k' b p2 q5
 ·rcases dn k b q with⟨_,rfl⟩|⟨_,p2⟩
  ·exact zad
  ·exact R'.offz k b p2
 ·rcases dn k b q with⟨_,rfl⟩|⟨_,p2⟩
  ·exact R.offk n b h1
  ·exact hk0 b (R'.offk k b p2)
 ·rcases dn k _ q with⟨_,p⟩|⟨_,p2⟩
  ·exact R.sysr n (p▸h1)
  ·exact R'.sysr k p2
 ·exact(hp k (Z1n (Z1a hT hk))).symm.trans (R'.fresh k hk)
 ·by_cases p:k=i
  ·subst p
   rw [hi] at q
   injection q
   obtain⟨pl,x,g1,g2,g3⟩:=R'.var k (.val (.ref ad)) (Z4 _ _ _)
   change _=_ at g3
   subst g3
   exact⟨pl,_,g1,g2,ad,Z4 _ _ _,rfl⟩
  ·obtain⟨pl,x,g1,g2,g3⟩:=R'.var k v ((Z5 _ _ p).trans q)
   exact⟨pl,x,g1,g2,VR.off (Le.refl _) (fun m a _ w=>up m a w) (fun w=>ho k p (by rw [q,w])) low g3⟩
 ·rcases dn m _ q' with⟨_,p⟩|⟨_,p2⟩
  ·have:=(R'.ploff k pl q).2.1;rw [p,had] at this;injection this
  ·exact(R'.ploff k pl q).2.2 m p2
 ·by_cases p:k=n
  ·subst p;rw [h1] at q;injection q;exact Z4 _ _ _
  ·exact up k b (G.rl k b hk (by rw [Z5 _ _ p];exact q))
 ·rcases dn k b q with⟨rfl,rfl⟩|⟨p1,p2⟩
  ·exact .inl h1
  ·exact(G.rn k b p2).imp (fun q=>(dn0 _ _ q).2) (nw b)
noncomputable def JKept(a:Addr)(es:Array DictEntry)(ep:Nat)(x:Value)(i:Nat)(o:Obj):Prop:=x = .ref a/\o.cls = .type "dict_keyiterator" /\o.data = .fields #[.ref a,.int i 0,.int es.size 0,.int ep 0]/\i<=es.size
theorem Src.kept{a:Addr}{es:Array DictEntry}{ep:Nat}{kvs:List (Int×V)}{kys:List (Int×Value)}{ζ₀:HM}{ρ₀:RM}(hd:(a==sysModules)=false)(he:Ent C.W (intKind C.W.prog C.W.w) es kys)(hk:VRk C.W ζ₀ ρ₀ kvs kys) :
  Src C (fun b=>if b=a then some (Gq es ep) else none) (.val (.ref a)) (fun _=>some (kvs.map fun kv=>V.int kv.1)) (JKept a es ep) where
 start:=fun hY ζ ρ st s P E x xs hκ ok rel r e k=>by
  change _=_ at r
  subst r
  have ho:=rel.kept a _ (hκ a _ (if_pos rfl))
  exact Lr hd ho (k _ ⟨rfl,rfl,rfl,Z25 _⟩ rfl)
 next:=fun hY ζ ρ st s P E x xs I i o hκ ok rel r e hI hj off k1 k2=>by
  change _=_ at r
  subst r
  injection e with e
  subst e
  have ho:=rel.kept a _ (hκ a _ (if_pos rfl))
  have hit:s.heap.IsKeyIter I a i es.size ep:=⟨o,hI,hj.2.1,hj.2.2.1⟩
  have hv:VRs C.W ζ₀ ρ₀ (kvs.map fun kv=>V.int kv.1) (es.toList.map (·.key)):=Rl he hk
  have hlen:es.size=(kvs.map fun kv=>V.int kv.1).length:=by rw [<-hv.length,Z3g,Z5c]
  cases q:(kvs.map fun kv=>V.int kv.1)[i]? with
  |some u =>
   have hlt:=(Z2y.mp q).1
   refine byC fun hG=>?_
   obtain⟨y,hy,_,hr⟩:=hv.get i u q
   rw [Z30] at q
   obtain⟨kv,_,rfl⟩:=Z50.mp q
   obtain⟨t,rfl⟩:=hr
   rw [Z30,Z5b,Z58 (hlen▸hlt)] at hy
   injection hy with hy
   change es[i].key=_ at hy
   refine hG (Ls hit ho (hlen▸hlt) fun h' hit' hs=>?_)
   obtain⟨o',ho',hc',hd'⟩:=hit'
   rw [hy]
   exact k1 (.int kv.1) _ h' o' s.toks (by rw [Z30,q]) ⟨t,rfl⟩ hs ho' ⟨rfl,hc',hd',hlen▸hlt⟩
  |none =>
   have hie:i=es.size:=Z0v hj.2.2.2 (hlen▸Z2x.mp q)
   exact D6 ok.room.handled (hie▸hit) ho fun h' hs=>k2 q h' hs
 lot:=fun target s P E x I i o y ho hj h=>Qz ho hj.2.1 rfl h
 self:=fun s P E x I i o ho hj h=>wpAny_pyIter_keyiter ⟨o,ho,hj.2.1,hj.2.2.1⟩ h
structure Q0(n i j:Nat)(mt:M Bool)(me:M V)(s:St)(acc:List V)(kvs:List (Int×V)):Prop where
 hi:s.loc i=some (.ref n)
 ho : ∀ k,k≠i->s.loc k≠some (.ref n)
 hj:s.loc j=none
 hn:s.hp n=some (.idict kvs)
 low:acc.all V.low=true
 len:acc.length<=lim
 run : ∀ x,∃ w,M.compN (fun _=>some (kvs.map fun kv=>V.int kv.1)) (fun u=>Z72 j u) mt me ((kvs.map fun kv=>V.int kv.1).length+1) 0 [] (hid n i x s)=some (acc,⟨upd (hid n i x s).loc j w,(hid n i x s).hp⟩)
open Classical in
noncomputable def X.compD(n i j:Nat)(mt:M Bool)(me:M V):M V:=fun s=>if h : ∃ acc kvs,Q0 n i j mt me s acc kvs then some (.lst (choose h),s) else none
theorem Iq{n i j:Nat}{mt:M Bool}{me:M V}{s:St}{r:V×St}(e:X.compD n i j mt me s=some r) : ∃ acc kvs,Q0 n i j mt me s acc kvs/\r=(.lst acc,s):=by
 unfold X.compD at e
 by_cases h : ∃ acc kvs,Q0 n i j mt me s acc kvs
 ·rw [dif_pos h] at e
  obtain⟨kvs,hk⟩:=Classical.choose_spec h
  exact⟨_,kvs,hk,(Z54 e).symm⟩
 ·rw [dif_neg h] at e;exact(nope e).elim
theorem E9{n i j:Nat}{mt:M Bool}{me:M V}{s:St}{acc:List V}{kvs:List (Int×V)}(h:Q0 n i j mt me s acc kvs):X.compD n i j mt me s=some (.lst acc,s):=by
 have hex : ∃ acc kvs,Q0 n i j mt me s acc kvs:=⟨acc,kvs,h⟩
 unfold X.compD
 rw [dif_pos hex]
 obtain⟨kvs',hk⟩:=Classical.choose_spec hex
 generalize Classical.choose hex=acc' at hk
 have e1:kvs'=kvs:=O.idict.inj (Z54 (hk.hn.symm.trans h.hn))
 subst e1
 obtain⟨w,h1⟩:=h.run .none
 obtain⟨w',h2⟩:=hk.run .none
 have:=Prod.mk.inj (Z54 (h1.symm.trans h2))
 rw [this.1]
theorem Hv{elt iter:PySem.Expr}{x:Str}{px:Pos}{ifs:List PySem.Expr}{scope:Scope}{pos:Pos}{cl:List (Str×Addr)}{n i j:Nat}{mt:M Bool}{me:M V}(h100:100<=n)
  (hi:Yb C (eval iter C.env) (Z71 i)) (hj:C.pl j=none) (hclos:closureFor scope C.env=pure cl)
  (ht : ∀ L,SimT (Wa C scope cl x j L) ifs mt) (he : ∀ L,Yb (Wa C scope cl x j L) (eval elt (compEnvC scope cl L C.env)) me)
  (hkind:scope.kind = .function:=by rfl) (hx:scope.names.lookup x=some .local:=by rfl)
  (hnames:(scope.names.all fun y=>y.2 != .cell&&(y.2 != .local||scope.names.lookup y.1==some .local))=true:=by rfl)
  (hs : ∀ x,foldedSetIterable iter C.env x=pure x:=by intro _;rfl) :
  Yb C (eval (.ListComp elt [⟨.Name x px,iter,ifs,0⟩] scope pos) C.env) (X.compD n i j mt me):=by
 intro hY ζ ρ st s P E ok rel a st' e k
 refine byC fun hG=>?_
 obtain⟨acc,kvs,hk,hr⟩:=Iq e
 injection hr
 obtain⟨ad,o,h1,h2,es,m,kys,rfl,h3,h4⟩:=rel.slot n _ hk.hn
 obtain⟨w,hrun⟩:=hk.run (.ref ad)
 refine hG ?_
 clear hG
 have relH:=rel.hide hk.hn hk.hi hk.ho h100 h1 h2
 have hsys:(ad==sysModules)=false:=beq_eq_false_iff_ne.mpr fun q=>rel.sysr n (q▸h1)
 have hκ:Le (fun b=>if b=ad then some (Gq es m) else none) (upd hY ad (some (Gq es m))):=fun b o' q=>by
  by_cases p:b=ad
  ·subst p;rw [Z4];exact(if_pos rfl).symm.trans q
  ·exact(nope ((if_neg p).symm.trans q)).elim
 rw [eval_ListComp]
 refine B6 (use:=none) hi hj hclos ht he hkind hx hnames hs ok relH hκ (fun C' hW=>Src.kept (C:=C') hsys (hW▸h3) (hW▸h4)) (bs (Z4 _ _ _) rfl) rfl hrun fun ζ1 ρ1 h1' ζ2 ρ2 g tk D L ys nD f G1 X=>?_
 obtain⟨m',hm⟩:=X.ns
 refine⟨m',hm,fun g4 hs4=>?_⟩
 have relB:=X.rel.swapL X.offL hs4
 have hD8:=(hs4.2 D X.ne).trans X.d
 have dmB : ∀ b,h1'.get? b≠none->g4.get? b≠none:=fun b q=>by
  rw [hs4.2 b (fun q'=>q (by rw [q'];exact X.newL))]
  exact X.gr.dm b q
 have e7:Wl none acc {loc:=upd (upd (hid n i (.ref ad) st).loc j w) j none,hp:=(hid n i (.ref ad) st).hp}=some (.lst acc,{loc:=upd (upd (hid n i (.ref ad) st).loc j w) j none,hp:=(hid n i (.ref ad) st).hp}):=by
  show (M.guard _>>=_:M V) _=_
  rw [hk.low,decide_eq_true hk.len];rfl
 refine byC fun hG=>?_
 obtain⟨ζ',ρ',G9,R9,V9⟩:=Km (c:=none) relB trivial e7 X.vals hD8 ⟨nD,rfl⟩ X.offD X.sys X.new dmB
 refine hG ?_
 clear hG
 have G19:Gr C.T h1' ζ1 ρ1 g4 ζ' ρ':=⟨X.gr.zl.trans G9.zl,fun n a q1 q2=>G9.rl n a q1 (X.gr.rl n a q1 q2),fun a o q=>(G9.zn a o q).elim (X.gr.zn a o) fun q=>.inr (.inl (q.none relB)),fun n a q=>(G9.rn n a q).elim (X.gr.rn n a) fun q=>.inr (.inl (q.none relB)),dmB⟩
 have hloc:(⟨upd (upd (hid n i (.ref ad) st).loc j w) j none,(hid n i (.ref ad) st).hp⟩:St)=hid n i (.ref ad) st:=by
  have:upd (upd (hid n i (.ref ad) st).loc j w) j none=(hid n i (.ref ad) st).loc:=funext fun q=>by
   by_cases p:q=j
   ·subst p
    rw [Z4]
    show none=upd st.loc i _ q
    rw [Z5 _ _ (fun p=>by have:=hk.hj;rw [p,hk.hi] at this;injection this)]
    exact hk.hj.symm
   ·rw [Z5 _ _ p,Z5 _ _ p]
  rw [this]
 rw [hloc] at R9
 obtain⟨R10,G10⟩:=rel.unhide hk.hn hk.hi hk.ho h100 h1 h2 ⟨es,m,kys,rfl,h3,h4⟩ (G1.trans G19) R9
 have rn:ρ' n=none:=R9.dom n (Z4 _ _ _)
 refine k ζ' _ g4 tk _ G10 R10 (VR.mono (Le.refl _) (fun m a q=>?_) V9)
 rw [Z5 _ _ (fun p=>by rw [p,rn] at q;injection q)];exact q
noncomputable def Y.move(n n':Nat)(m:M Fl):M Fl:=do M.move n n';m
noncomputable def Y.freeze(n:Nat)(m:M Fl):M Fl:=do M.freeze n;m
noncomputable def Y.tgt(mo mi:M V)(u:V):M Unit:=do let v<-mo;let k<-mi;Du v k u
noncomputable def Y.assignTwo(m1 m2:M V)(b1 b2:V->M Unit):M Fl:=do let u<-m1;let w<-m2;b1 u;b2 w;pure .next
theorem Tz{x:Str}{p1 pos:Pos}{a:Addr}{l:List Int}{slice:PySem.Expr}{m:M V}(e:nsIn C.W.K mainGlobals x=some (some (.ref a)))(ho : ∃ o,C.W.K.lookup a=some o/\o.cls = .type "tuple" /\∃ ys n,o.data = .seq ys n/\IntsAre ys.toList l)
  (h2:Yb C (eval slice C.env) m) (hx:C.env.kindOf x=some .globalImplicit) (hdb:(x==("__debug__" :Str))=false:=by decide)
  (hs : ∀ o i,subscripted slice false o i=operate [o,i] (getItem o i):=by intro _ _;with_unfolding_all rfl) :
  Yb C (eval (.Subscript (.Name x p1) slice pos) C.env) (Z77 (vCol l) m):=by
 obtain⟨o,h1,h3,ys,n,h4,h5⟩:=ho
 exact Pd e h1 h3 h4 h5 h2 hx hdb hs
end Lay
namespace Lay
theorem law_end{W:Wd}{f:Addr}{B k:Nat}{fm:FM}{s:Shared}{a:Addr}{vs:List Value}{xs:List Int}{Q:Value->Shared->Prop}{E:Value->Shared->Prop}(hf:Xo W (.ref f) B k fm)(room:Room callerA k)(ok:W.Ok s.heap)
  (ha:s.heap.get? a=some {cls:=.type "list",data:=.seq vs.toArray}) (hsys:a≠sysModules) (hi:IntsAre vs xs) (run : ∃ σ',fm [.lst (xs.map .int)] (fun _=>none)=some (.bool true,σ'))
  (h : ∀ h' tk,(∀ b o,s.heap.get? b=some o->h'.get? b=some o)->Q (.bool true) {s with heap:=h',toks:=tk}):wpAny (model W.prog W.w) callerA (call (.ref f) [.ref a]) Q E s:=by
 obtain⟨σ',run⟩:=run
 refine wpAny_call (codeAny_mono (hf callerA s.heap.get? (fun b=>if b=a then some {cls:=.type "list",data:=.seq vs.toArray} else none) (fun _=>none) (fun _=>none) s [.lst (xs.map .int)] [.ref a] Q E room ?_ (fun _ _=>rfl) ?_ _ _ run fun ζ' ρ' h' tk' x G S hσ hx=>?_) fun r s' z=>z)
 ·exact⟨ok,fun _ _ e=>e,fun b o e=>by split at e<;>cases e;rename_i q;rw [q];exact ha,fun _ _ _=>trivial,nofun,fun _ _=>rfl,nofun,nofun,nofun,fun h' q=>ok.keeps q,nofun,by rw [if_neg (Ne.symm hsys)]⟩
 ·refine⟨_,[],rfl,?_,rfl⟩
  refine(?_:Exists _)
  exact⟨a,_,vs.toArray,rfl,by simp,⟨0,rfl⟩,by simpa using Kk hi⟩
 ·change _=_ at hx
  subst hx
  exact h h' tk' fun b o e=>S.kept b o e
end Lay
namespace Lay
variable{C:Cx}
theorem SV{x:Str}{pos:Pos}{i:Nat}(hk:C.env.kindOf x=some .local:=by rfl)(hp:C.pl i=some (.loc C.env.locals x):=by rfl)(hd:(x==("__debug__" :Str))=false:=by rfl):Yb C (eval (.Name x pos) C.env) (Z71 i):=L2 (Ra hk hp) hd
theorem Z0l{pos:Pos}{a:PySem.Expr}(h:starEach [a] C.env=(false,eval a C.env)::starEach [] C.env):TreesOk (backTo pos (starEach [a] C.env)):=by rw [h];exact .cons .nil
theorem Z0m{pos:Pos}{a b:PySem.Expr}(h:starEach [a,b] C.env=(false,eval a C.env)::starEach [b] C.env)(k:starEach [b] C.env=(false,eval b C.env)::starEach [] C.env):TreesOk (backTo pos (starEach [a,b] C.env)):=by rw [h,k];exact .cons (.cons .nil)
section
variable{x:Str}{p pos:Pos}{a b:PySem.Expr}{f:Value}{m1 m2:M V}{g:List V->M V}
theorem C1(hf:Yb C (eval (.Name x p) C.env) (pure (.val f)))(hok:CallOk C.W f)(h1:Yb C (eval a C.env) m1)(hc:Fv C f g)(ha:starEach [a] C.env=(false,eval a C.env)::starEach [] C.env:=by rfl) :
  Yb C (eval (.Call (.Name x p) [a] [] pos) C.env) (Z79 g (Z74 m1 Z75)):=Xs hf hok (Z3 h1 Zf ha) (Z0l ha) hc
theorem C2(hf:Yb C (eval (.Name x p) C.env) (pure (.val f)))(hok:CallOk C.W f)(h1:Yb C (eval a C.env) m1)(h2:Yb C (eval b C.env) m2)(hc:Fv C f g)(ha:starEach [a,b] C.env=(false,eval a C.env)::starEach [b] C.env:=by rfl)(hb:starEach [b] C.env=(false,eval b C.env)::starEach [] C.env:=by rfl) :
  Yb C (eval (.Call (.Name x p) [a,b] [] pos) C.env) (Z79 g (Z74 m1 (Z74 m2 Z75))):=Xs hf hok (Z3 h1 (Z3 h2 Zf hb) ha) (Z0m ha hb) hc
end
section
variable{o a b:PySem.Expr}{name:Str}{apos pos:Pos}{mo m1 m2:M V}{f:Value}{g:List V->M V}{okp:V->St->Bool}
theorem M0(pl:Sem Bool)(ho:Yb C (eval o C.env) mo)(hm:MethAt C name f (fun v s=>okp v s=true))(hok:CallOk C.W f)(hc:Fv C f g)
  (he:eval (.Call (.Attribute o name apos) [] [] pos) C.env=(do
   let ov<-eval o C.env
   standAt apos.atName
   let (f,first)<-holding [ov] (getMethod ov name pl)
   callWith pos f first (backTo pos (starEach [] C.env)) []):=by rfl) :
  Yb C (eval (.Call (.Attribute o name apos) [] [] pos) C.env) (Z76 okp g mo Z75):=K0 pl ho Zf TreesOk.nil hm hok hc he
theorem M1(pl:Sem Bool)(ho:Yb C (eval o C.env) mo)(h1:Yb C (eval a C.env) m1)(hm:MethAt C name f (fun v s=>okp v s=true))(hok:CallOk C.W f)(hc:Fv C f g)(ha:starEach [a] C.env=(false,eval a C.env)::starEach [] C.env:=by rfl)
  (he:eval (.Call (.Attribute o name apos) [a] [] pos) C.env=(do
   let ov<-eval o C.env
   standAt apos.atName
   let (f,first)<-holding [ov] (getMethod ov name pl)
   callWith pos f first (backTo pos (starEach [a] C.env)) []):=by rfl) :
  Yb C (eval (.Call (.Attribute o name apos) [a] [] pos) C.env) (Z76 okp g mo (Z74 m1 Z75)):=K0 pl ho (Z3 h1 Zf ha) (Z0l ha) hm hok hc he
theorem M2(pl:Sem Bool)(ho:Yb C (eval o C.env) mo)(h1:Yb C (eval a C.env) m1)(h2:Yb C (eval b C.env) m2)(hm:MethAt C name f (fun v s=>okp v s=true))(hok:CallOk C.W f)(hc:Fv C f g)(ha:starEach [a,b] C.env=(false,eval a C.env)::starEach [b] C.env:=by rfl)(hb:starEach [b] C.env=(false,eval b C.env)::starEach [] C.env:=by rfl)
  (he:eval (.Call (.Attribute o name apos) [a,b] [] pos) C.env=(do
   let ov<-eval o C.env
   standAt apos.atName
   let (f,first)<-holding [ov] (getMethod ov name pl)
   callWith pos f first (backTo pos (starEach [a,b] C.env)) []):=by rfl) :
  Yb C (eval (.Call (.Attribute o name apos) [a,b] [] pos) C.env) (Z76 okp g mo (Z74 m1 (Z74 m2 Z75))):=K0 pl ho (Z3 h1 (Z3 h2 Zf hb) ha) (Z0m ha hb) hm hok hc he
end
theorem SW{x:Str}{pos:Pos}{i:Nat}{c:Addr}(hk:C.env.kindOf x=some .cell:=by rfl)(hc:C.env.cells.lookup x=some c:=by rfl)(hp:C.pl i=some (.cell c):=by rfl)(hd:(x==("__debug__" :Str))=false:=by rfl):Yb C (eval (.Name x pos) C.env) (Z71 i):=L2 (Pf hk hc hp) hd
theorem SL{x:Str}{i:Nat}(hk:C.env.kindOf x=some .local:=by rfl)(hp:C.pl i=some (.loc C.env.locals x):=by rfl):Pb C C.T (VR C.W) (fun y=>storeName C.env x y) (fun v=>Z72 i v) (fun _ _ _ _=>True):=Kv hk hp
theorem SB{x:Str}{pos:Pos}{v:Value}(e:nsIn C.W.K mainGlobals x=some none)(hv:bootBuiltins x=some v:=by decide +kernel)(hn:x≠ "__name__" :=by decide)(hx:C.env.kindOf x=some .globalImplicit:=by rfl)(hd:(x==("__debug__" :Str))=false:=by rfl):Yb C (eval (.Name x pos) C.env) (pure (.val v)):=B0 e hv hn hx hd
noncomputable def Cc(K:Frag)(x:Str)(f:Addr):Prop:=nsIn K mainGlobals x=some (some (.ref f))/\keepIn K (.ref f)=true
noncomputable def P8(K:Frag)(c:Addr)(x:Str)(f:Addr):Prop:=plainGet K c x=true/\findIn K (.ref c) x=some (some (.ref f))/\isFn K (.ref f)=true/\keepIn K (.ref f)=true
section
variable{x:Str}{p pos:Pos}{a b:PySem.Expr}{id:String}{m1 m2:M V}{g:List V->M V}{f:Addr}{B k:Nat}{fm:FM}
theorem B1(e:nsIn C.W.K mainGlobals x=some none)(h1:Yb C (eval a C.env) m1)(hc:Fv C (.builtin id) g)(hv:bootBuiltins x=some (.builtin id):=by decide +kernel)(hn:x≠ "__name__" :=by decide)(hx:C.env.kindOf x=some .globalImplicit:=by rfl)(hd:(x==("__debug__" :Str))=false:=by rfl)(ha:starEach [a] C.env=(false,eval a C.env)::starEach [] C.env:=by rfl) :
  Yb C (eval (.Call (.Name x p) [a] [] pos) C.env) (Z79 g (Z74 m1 Z75)):=C1 (B0 e hv hn hx hd) CallOk.builtin h1 hc ha
theorem G1(e:Cc C.W.K x f)(h1:Yb C (eval a C.env) m1)(hf:Xo C.W (.ref f) B k fm)(hB:C.T<=B:=by exact Z0w rfl)(hk:k<=C.k:=by exact Z0w rfl)(hx:C.env.kindOf x=some .globalImplicit:=by rfl)(hd:(x==("__debug__" :Str))=false:=by rfl)(ha:starEach [a] C.env=(false,eval a C.env)::starEach [] C.env:=by rfl) :
  Yb C (eval (.Call (.Name x p) [a] [] pos) C.env) (Z79 (callM fm) (Z74 m1 Z75)):=C1 (Xr e.1 hx hd) (CallOk.K e.2) h1 (Vp hf hB hk) ha
theorem G2(e:Cc C.W.K x f)(h1:Yb C (eval a C.env) m1)(h2:Yb C (eval b C.env) m2)(hf:Xo C.W (.ref f) B k fm)(hB:C.T<=B:=by exact Z0w rfl)(hk:k<=C.k:=by exact Z0w rfl)(hx:C.env.kindOf x=some .globalImplicit:=by rfl)(hd:(x==("__debug__" :Str))=false:=by rfl)(ha:starEach [a,b] C.env=(false,eval a C.env)::starEach [b] C.env:=by rfl)(hb:starEach [b] C.env=(false,eval b C.env)::starEach [] C.env:=by rfl) :
  Yb C (eval (.Call (.Name x p) [a,b] [] pos) C.env) (Z79 (callM fm) (Z74 m1 (Z74 m2 Z75))):=C2 (Xr e.1 hx hd) (CallOk.K e.2) h1 h2 (Vp hf hB hk) ha hb
end
section
variable{o a b:PySem.Expr}{name:Str}{apos pos:Pos}{mo m1 m2:M V}{c f:Addr}{B k:Nat}{fm:FM}
theorem D0(pl:Sem Bool)(ho:Yb C (eval o C.env) mo)(h:P8 C.W.K c name f)(hf:Xo C.W (.ref f) B k fm)(hB:C.T<=B:=by exact Z0w rfl)(hk:k<=C.k:=by exact Z0w rfl)
  (he:eval (.Call (.Attribute o name apos) [] [] pos) C.env=(do
   let ov<-eval o C.env
   standAt apos.atName
   let (f,first)<-holding [ov] (getMethod ov name pl)
   callWith pos f first (backTo pos (starEach [] C.env)) []):=by rfl) :
  Yb C (eval (.Call (.Attribute o name apos) [] [] pos) C.env) (Z76 (Y9 c name) (callM fm) mo Z75):=M0 pl ho (MethAt.inst h.1 h.2.1 h.2.2.1) (CallOk.K h.2.2.2) (Vp hf hB hk) he
theorem D1(pl:Sem Bool)(ho:Yb C (eval o C.env) mo)(h1:Yb C (eval a C.env) m1)(h:P8 C.W.K c name f)(hf:Xo C.W (.ref f) B k fm)(hB:C.T<=B:=by exact Z0w rfl)(hk:k<=C.k:=by exact Z0w rfl)(ha:starEach [a] C.env=(false,eval a C.env)::starEach [] C.env:=by rfl)
  (he:eval (.Call (.Attribute o name apos) [a] [] pos) C.env=(do
   let ov<-eval o C.env
   standAt apos.atName
   let (f,first)<-holding [ov] (getMethod ov name pl)
   callWith pos f first (backTo pos (starEach [a] C.env)) []):=by rfl) :
  Yb C (eval (.Call (.Attribute o name apos) [a] [] pos) C.env) (Z76 (Y9 c name) (callM fm) mo (Z74 m1 Z75)):=M1 pl ho h1 (MethAt.inst h.1 h.2.1 h.2.2.1) (CallOk.K h.2.2.2) (Vp hf hB hk) ha he
theorem D2(pl:Sem Bool)(ho:Yb C (eval o C.env) mo)(h1:Yb C (eval a C.env) m1)(h2:Yb C (eval b C.env) m2)(h:P8 C.W.K c name f)(hf:Xo C.W (.ref f) B k fm)(hB:C.T<=B:=by exact Z0w rfl)(hk:k<=C.k:=by exact Z0w rfl)(ha:starEach [a,b] C.env=(false,eval a C.env)::starEach [b] C.env:=by rfl)(hb:starEach [b] C.env=(false,eval b C.env)::starEach [] C.env:=by rfl)
  (he:eval (.Call (.Attribute o name apos) [a,b] [] pos) C.env=(do
   let ov<-eval o C.env
   standAt apos.atName
   let (f,first)<-holding [ov] (getMethod ov name pl)
   callWith pos f first (backTo pos (starEach [a,b] C.env)) []):=by rfl) :
  Yb C (eval (.Call (.Attribute o name apos) [a,b] [] pos) C.env) (Z76 (Y9 c name) (callM fm) mo (Z74 m1 (Z74 m2 Z75))):=M2 pl ho h1 h2 (MethAt.inst h.1 h.2.1 h.2.2.1) (CallOk.K h.2.2.2) (Vp hf hB hk) ha hb he
theorem AP(pl:Sem Bool)(ho:Yb C (eval o C.env) mo)(h1:Yb C (eval a C.env) m1)(ha:starEach [a] C.env=(false,eval a C.env)::starEach [] C.env:=by rfl)
  (he:eval (.Call (.Attribute o (Z5k "append") apos) [a] [] pos) C.env=(do
   let ov<-eval o C.env
   standAt apos.atName
   let (f,first)<-holding [ov] (getMethod ov (Z5k "append") pl)
   callWith pos f first (backTo pos (starEach [a] C.env)) []):=by rfl) :
  Yb C (eval (.Call (.Attribute o (Z5k "append") apos) [a] [] pos) C.env) (Z76 U9 Mk mo (Z74 m1 Z75)):=M1 pl ho h1 (MethAt.list PySem.F.slot_list_append PySem.F.type_list_append) CallOk.builtin mApp_C ha he
end
theorem FD{W:Wd}{f:Addr}{n B k:Nat}{name qual:Str}{params:Arguments}{body:List Stmt}{scope:Scope}{dV kV doc pm cdv ct oc:Value}{an od:Option Addr}{osl:Array (Option Value)}{mb:M Fl}(T:Nat)
  (ho:W.K.lookup f=some ⟨oc,od,.func (fnOf name qual params body scope dV kV doc pm an cdv ct),osl⟩:=by rfl)
  (b : ∀ (s:Shared) (xs:List Value),xs.length=n->W.K.In s.heap->BindsTo s (fnOf name qual params body scope dV kV doc pm an cdv ct) ⟨xs,[]⟩ ((scope.names.map (·.1)).zip xs))
  (c : ∀ A L mid,Qi (fnCx W A f qual scope cdv L k B T mid) (execs body (envOfC qual scope L f cdv)) mb) (hcd:codeIn W.K cdv qual=true:=by rfl) (hok:fnOk scope n=true:=by rfl) (hB:100<=B:=by decide) (hT:B<=T:=by decide):Xo W (.ref f) B (k+1) (Y4 B n mb):=Hr ho hcd hok b c hB hT
end Lay
namespace Lay
noncomputable def R{α:Type}(m:M α)(s:St)(a:α)(s':St):Prop:=m s=some (a,s')
theorem R.pure{α:Type}{a:α}{s:St}:R (Pure.pure a:M α) s a s:=rfl
theorem R.bind{α β:Type}{m:M α}{f:α->M β}{s s1 s2:St}{a:α}{b:β}(h:R m s a s1)(k:R (f a) s1 b s2):R (m>>=f) s b s2:=by
 unfold R at *
 rw [M.bind_eq,h];exact k
theorem R.getL{i:Nat}{s:St}{v:V}(h:s.loc i=some v):R (Z71 i) s v s:=by
 exact bs h rfl
theorem R.setL{i:Nat}{s:St}{v:V}:R (Z72 i v) s () {s with loc:=upd s.loc i (some v)}:=rfl
theorem R.guard{b:Bool}{s:St}(h:b=true):R (M.guard b) s () s:=by subst h;rfl
theorem R.nil{s:St}:R Z75 s [] s:=rfl
theorem R.cons{m1:M V}{m2:M (List V)}{s s1 s2:St}{v:V}{vs:List V}(h1:R m1 s v s1)(h2:R m2 s1 vs s2):R (Z74 m1 m2) s (v::vs) s2:=.bind h1 (.bind h2 .pure)
theorem R.mkTup{vs:List V}{s:St}(h:vs.all V.low=true)(hl:vs.length<=lim):R (mkTup vs) s (.tup vs) s:=.bind (.guard (by simp only [h,decide_eq_true hl,Z5r])) .pure
theorem R.mkLst{vs:List V}{s:St}(h:vs.all V.low=true)(hl:vs.length<=lim):R (Wl none vs) s (.lst vs) s:=.bind (.guard (by simp only [h,decide_eq_true hl,Z5r])) .pure
theorem R.new{n:Nat}{O:O}{s:St}(h:s.hp n=none):R (M.new n O) s (.ref n) {s with hp:=upd s.hp n (some O)}:=by
 unfold R M.new;rw [h]
theorem R.mkLstS{n:Nat}{vs:List V}{s:St}(h:vs.all V.low=true)(hl:vs.length<=lim)(hn:s.hp n=none):R (Wl (some n) vs) s (.ref n) {s with hp:=upd s.hp n (some (.list vs))}:=.bind (.guard (by simp only [h,decide_eq_true hl,Z5r])) (.new hn)
theorem R.meth{okp:V->St->Bool}{g:List V->M V}{mo:M V}{ma:M (List V)}{s s1 s2 s3:St}{o v:V}{vs:List V}(h1:R mo s o s1)(hk:okp o s1=true)(h2:R ma s1 vs s2)(k:R (g (o::vs)) s2 v s3):R (Z76 okp g mo ma) s v s3 :=
 .bind h1 (R.bind (a:=()) (s1:=s1) (by unfold R;show M.guard (okp o s1) s1=_;rw [hk];rfl) (.bind h2 k))
theorem R.ifeT{mt:M Bool}{m1 m2:M V}{s s1 s2:St}{v:V}(h:R mt s true s1)(k:R m1 s1 v s2):R (X.ife mt m1 m2) s v s2:=.bind h k
theorem R.ifeF{mt:M Bool}{m1 m2:M V}{s s1 s2:St}{v:V}(h:R mt s false s1)(k:R m2 s1 v s2):R (X.ife mt m1 m2) s v s2:=.bind h k
theorem R.and0{s:St}:R X.and0 s true s:=rfl
theorem R.or0{s:St}:R X.or0 s false s:=rfl
theorem R.and1T{m1 m2:M Bool}{s s1 s2:St}{c:Bool}(h:R m1 s true s1)(k:R m2 s1 c s2):R (X.and1 m1 m2) s c s2:=.bind h k
theorem R.and1F{m1 m2:M Bool}{s s1:St}(h:R m1 s false s1):R (X.and1 m1 m2) s false s1:=.bind h rfl
theorem R.or1T{m1 m2:M Bool}{s s1:St}(h:R m1 s true s1):R (X.or1 m1 m2) s true s1:=.bind h rfl
theorem R.or1F{m1 m2:M Bool}{s s1 s2:St}{c:Bool}(h:R m1 s false s1)(k:R m2 s1 c s2):R (X.or1 m1 m2) s c s2:=.bind h k
theorem R.dnil{s:St}:R X.dnil s [] s:=rfl
theorem R.dcons{m1 m2:M V}{m3:M (List (V×V))}{s s1 s2 s3:St}{a b:V}{r:List (V×V)}(h1:R m1 s a s1)(h2:R m2 s1 b s2)(h3:R m3 s2 r s3):R (X.dcons m1 m2 m3) s ((a,b)::r) s3:=.bind h1 (.bind h2 (.bind h3 .pure))
theorem R.end{s:St}:R Y.end s .next s:=rfl
theorem R.seq{m1 m2:M Fl}{s s1 s2:St}{f:Fl}(h:R m1 s .next s1)(k:R m2 s1 f s2):R (Z73 m1 m2) s f s2:=.bind h k
theorem R.seqRet{m1 m2:M Fl}{s s1:St}{v:V}(h:R m1 s (.ret v) s1):R (Z73 m1 m2) s (.ret v) s1:=.bind h rfl
theorem R.assign{i:Nat}{m:M V}{s s1:St}{v:V}(h:R m s v s1):R (Z7c i m) s .next {s1 with loc:=upd s1.loc i (some v)}:=.bind h (.bind .setL .pure)
theorem R.assignDisp{is:List Nat}{m:M (List V)}{s s1 s2:St}{vs:List V}(h:R m s vs s1)(hl:vs.length<=100)(k:R (M.sets is vs) s1 () s2):R (Y.assignDisp is m) s .next s2:=.bind h (.bind (.guard (decide_eq_true hl)) (.bind k .pure))
theorem R.assignSwap{is:List Nat}{m:M (List V)}{s s1 s2:St}{vs:List V}(h:R m s vs s1)(hl:vs.length<=100)(k:R (M.sets is vs.reverse) s1 () s2):R (Y.assignSwap is m) s .next s2:=.bind h (.bind (.guard (decide_eq_true hl)) (.bind k .pure))
theorem R.sets0{s:St}:R (M.sets [] []) s () s:=rfl
theorem R.assignSub{m mo mi:M V}{s s1 s2 s3 s4:St}{u v k:V}(h:R m s u s1)(h2:R mo s1 v s2)(h3:R mi s2 k s3)(h4:R (Du v k u) s3 () s4):R (Z7d m mo mi) s .next s4:=.bind h (.bind h2 (.bind h3 (.bind h4 .pure)))
theorem R.assignAttr{Cl:Addr}{name:Str}{m mo:M V}{s s1 s2 s3:St}{u v:V}(h:R m s u s1)(h2:R mo s1 v s2)(h3:R (setA Cl name v u) s2 () s3):R (Y.assignAttr Cl name m mo) s .next s3:=.bind h (.bind h2 (.bind h3 .pure))
theorem R.ret{m:M V}{s s1:St}{v:V}(h:R m s v s1):R (Z7f m) s (.ret v) s1:=.bind h .pure
theorem R.expr{m:M V}{s s1:St}{v:V}(h:R m s v s1):R (Z7e m) s .next s1:=.bind h .pure
theorem R.iteT{mt:M Bool}{m1 m2:M Fl}{s s1 s2:St}{f:Fl}(h:R mt s true s1)(k:R m1 s1 f s2):R (Z7b mt m1 m2) s f s2:=.bind h k
theorem R.iteF{mt:M Bool}{m1 m2:M Fl}{s s1 s2:St}{f:Fl}(h:R mt s false s1)(k:R m2 s1 f s2):R (Z7b mt m1 m2) s f s2:=.bind h k
theorem R.callM{fm:FM}{vs:List V}{s:St}{v:V}{σ':Hp}(h:fm vs s.hp=some (v,σ')):R (Lay.callM fm vs) s v {s with hp:=σ'}:=by
 unfold R Lay.callM;rw [h];rfl
theorem run_fn{B n:Nat}{mb:M Fl}{args:List V}{σ:Hp}{f:Fl}{v v':V}{st':St}(hl:args.length=n)(h:R mb ⟨fun i=>args[i]?,σ⟩ f st')(hf:flV f=some v)(hv:Ud B v st'.hp=some v'):Y4 B n mb args σ=some (v',cut B st'.hp):=by
 unfold Y4
 unfold R at h
 rw [if_pos hl,h]
 show (flV f).bind _=_
 rw [hf]
 show (Ud B v st'.hp).bind _=_
 rw [hv];rfl
noncomputable def Free(B:Nat)(σ:Hp):Prop := ∀ n,B<=n->σ n=none
theorem Yg{B:Nat}{σ:Hp}(h:Free B σ):cut B σ=σ:=by
 funext n
 unfold cut
 split
 ·rfl
 ·exact(h n (by exact ar81 (by assumption))).symm
theorem Free.upd{B:Nat}{σ:Hp}{n:Nat}{O:Option O}(h:Free B σ)(hn:n<B):Free B (upd σ n O):=fun m hm=>by rw [Z5 _ _ (by exact ar324 hn hm)];exact h m hm
theorem Free.mono{B B':Nat}{σ:Hp}(h:Free B σ)(hb:B<=B'):Free B' σ:=fun n hn=>h n (by exact ar325 hb hn)
theorem B7{B:Nat}{σ:Hp}{n:Nat}{O:Option O}(h:Free B σ)(hn:B<=n):cut B (upd σ n O)=σ:=by
 funext m
 unfold cut
 split
 ·rw [Z5 _ _ (by exact ar44 hn (by assumption))]
 ·exact(h m (by exact ar81 (by assumption))).symm
theorem Rr{items:St->Option (List V)}{bind:V->M Unit}{body:M Fl}{xs:List V}(P:Nat->St->Prop)(Q:V->St->Prop)(hit : ∀ i s,P i s->items s=some xs)
  (step : ∀ i s x,P i s->xs[i]?=some x->∃ s1 s2 f,R (bind x) s () s1/\R body s1 f s2/\(((f = .next\/f = .cont)/\P (i+1) s2)\/∃ v,f = .ret v/\Q v s2)) :
  ∀ (n i:Nat) (s:St),xs.length-i<n->P i s->i<=xs.length->(∃ s',R (M.forN items bind body n i) s .next s'/\P xs.length s')\/∃ v s',R (M.forN items bind body n i) s (.ret v) s'/\Q v s'
 |0,i,s,h,_,_=>absurd h (Z1q _)
 |n+1,i,s,h,hp,hi=>by
  cases q:xs[i]? with
  |none =>
   have:xs.length<=i:=Z2x.mp q
   have e:i=xs.length:=by exact ar326 hi this
   subst e
   exact .inl ⟨s,bs (hit _ s hp) (by rw [q];rfl),hp⟩
  |some x =>
   have hlt:i<xs.length:=(Z2y.mp q).1
   refine byC fun hG=>?_
   obtain⟨s1,s2,f,h1,h2,hf⟩:=step i s x hp q
   refine hG ?_
   clear hG
   have glue : ∀ (g:Fl) (s':St),R (match (generalizing:=false) f with
     |.next=>M.forN items bind body n (i+1)
     |.cont=>M.forN items bind body n (i+1)
     |.brk=>Pure.pure .next
     |.ret v=>Pure.pure (.ret v):M Fl) s2 g s'->R (M.forN items bind body (n+1) i) s g s':=fun g s' hg=>by
    exact bs (hit _ s hp) (by rw [q];exact R.bind h1 (R.bind h2 hg))
   rcases hf with⟨hf,hp2⟩|⟨v,rfl,hq⟩
   ·rcases Rr P Q hit step n (i+1) s2 (by exact ar327 h hlt) hp2 hlt with⟨s',h3,h4⟩|⟨v,s',h3,h4⟩
    ·exact .inl ⟨s',glue _ _ (by rcases hf with rfl|rfl<;>exact h3),h4⟩
    ·exact .inr ⟨v,s',glue _ _ (by rcases hf with rfl|rfl<;>exact h3),h4⟩
   ·exact .inr ⟨v,s2,glue _ _ rfl,hq⟩
theorem R.forS{v:V}{bind:V->M Unit}{body:M Fl}{xs:List V}{s s':St}{f:Fl}(hx:Yh v s=some xs)(h:R (M.forN (Yh v) bind body (xs.length+1) 0) s f s'):R (M.forS v bind body) s f s':=by
 unfold R M.forS
 rw [hx];exact h
theorem Qp{items:St->Option (List V)}{bind:V->M Unit}{test:M Bool}{elt:M V}{xs:List V}(P:Nat->List V->St->Prop)(hit : ∀ i acc s,P i acc s->items s=some xs)
  (step : ∀ i acc s x,P i acc s->xs[i]?=some x->∃ s1 s2 b,R (bind x) s () s1/\R test s1 b s2/\((b=false/\P (i+1) acc s2)\/(b=true/\∃ y s3,R elt s2 y s3/\y.low=true/\acc.length<lim/\P (i+1) (acc ++ [y]) s3))) :
  ∀ (n i:Nat) (acc:List V) (s:St),xs.length-i<n->P i acc s->i<=xs.length->∃ acc' s',R (M.compN items bind test elt n i acc) s acc' s'/\P xs.length acc' s'
 |0,i,acc,s,h,_,_=>absurd h (Z1q _)
 |n+1,i,acc,s,h,hp,hi=>by
  cases q:xs[i]? with
  |none =>
   have:xs.length<=i:=Z2x.mp q
   have e:i=xs.length:=by exact ar326 hi this
   subst e
   exact⟨acc,s,bs (hit _ _ s hp) (by rw [q];rfl),hp⟩
  |some x =>
   have hlt:i<xs.length:=(Z2y.mp q).1
   refine byC fun hG=>?_
   obtain⟨s1,s2,b,h1,h2,hb⟩:=step i acc s x hp q
   refine hG ?_
   clear hG
   have glue : ∀ (acc':List V) (s':St),R (if b then (do
     let y<-elt
     M.guard (y.low&&decide (acc.length<lim))
     M.compN items bind test elt n (i+1) (acc ++ [y])) else M.compN items bind test elt n (i+1) acc:M (List V)) s2 acc' s'->R (M.compN items bind test elt (n+1) i acc) s acc' s':=fun acc' s' hg=>by
    exact bs (hit _ _ s hp) (by rw [q];exact R.bind h1 (R.bind h2 hg))
   rcases hb with⟨rfl,hp2⟩|⟨rfl,y,s3,h3,hlow,hlen,hp2⟩
   ·obtain⟨acc',s',h4,h5⟩:=Qp P hit step n (i+1) acc s2 (by exact ar327 h hlt) hp2 hlt
    exact⟨acc',s',glue _ _ h4,h5⟩
   ·obtain⟨acc',s',h4,h5⟩:=Qp P hit step n (i+1) _ s3 (by exact ar327 h hlt) hp2 hlt
    refine⟨acc',s',glue _ _ ?_,h5⟩
    exact R.bind h3 (R.bind (.guard (by rw [hlow,decide_eq_true hlen];rfl)) h4)
end Lay
namespace Lay
noncomputable def Wp{α:Type}(m:M α)(s:St)(Q:α->St->Prop):Prop := ∃ a s',R m s a s'/\Q a s'
noncomputable abbrev Qk.bind{α β:Type}(f:α->M β)(Q:β->St->Prop):α->St->Prop:=fun a s1=>Wp (f a) s1 Q
noncomputable abbrev Qk.then{α β:Type}(m:M β)(Q:β->St->Prop):α->St->Prop:=fun _ s1=>Wp m s1 Q
noncomputable abbrev Qk.cons(v:V)(Q:List V->St->Prop):List V->St->Prop:=fun vs s2=>Q (v::vs) s2
noncomputable abbrev Qk.consM(m2:M (List V))(Q:List V->St->Prop):V->St->Prop:=fun v s1=>Wp m2 s1 (Qk.cons v Q)
noncomputable abbrev Qk.op1(g:V->M V)(Q:V->St->Prop):V->St->Prop:=fun a s1=>Wp (g a) s1 Q
noncomputable abbrev Qk.op2(g:V->V->M V)(m2:M V)(Q:V->St->Prop):V->St->Prop:=fun a s1=>Wp m2 s1 (Qk.op1 (g a) Q)
noncomputable abbrev Qk.call(g:List V->M V)(Q:V->St->Prop):List V->St->Prop:=fun vs s1=>Wp (g vs) s1 Q
noncomputable abbrev Qk.meth1(g:List V->M V)(o:V)(Q:V->St->Prop):List V->St->Prop:=fun vs s2=>Wp (g (o::vs)) s2 Q
noncomputable abbrev Qk.meth(okp:V->St->Bool)(g:List V->M V)(ma:M (List V))(Q:V->St->Prop):V->St->Prop:=fun o s1=>okp o s1=true/\Wp ma s1 (Qk.meth1 g o Q)
noncomputable abbrev Qk.two{α:Type}(m1 m2:M α)(Q:α->St->Prop):Bool->St->Prop:=fun b s1=>(b=true->Wp m1 s1 Q)/\(b=false->Wp m2 s1 Q)
noncomputable abbrev Qk.bool(Q:Bool->St->Prop):V->St->Prop:=fun v s1=>Wp (asBool v) s1 Q
noncomputable abbrev Qk.cmp1(g:V->V->M V)(a:V)(Q:Bool->St->Prop):V->St->Prop:=fun b s2=>Wp (g a b) s2 (Qk.bool Q)
noncomputable abbrev Qk.cmp(g:V->V->M V)(m2:M V)(Q:Bool->St->Prop):V->St->Prop:=fun a s1=>Wp m2 s1 (Qk.cmp1 g a Q)
noncomputable abbrev Qk.not(Q:Bool->St->Prop):Bool->St->Prop:=fun b s1=>Q (!b) s1
noncomputable abbrev Qk.and(m2:M Bool)(Q:Bool->St->Prop):Bool->St->Prop:=fun b s1=>(b=true->Wp m2 s1 Q)/\(b=false->Q false s1)
noncomputable abbrev Qk.or(m2:M Bool)(Q:Bool->St->Prop):Bool->St->Prop:=fun b s1=>(b=true->Q true s1)/\(b=false->Wp m2 s1 Q)
noncomputable abbrev Qk.seq(m2:M Fl)(Q:Fl->St->Prop):Fl->St->Prop:=fun f s1=>match f with|.next=>Wp m2 s1 Q|f=>Q f s1
noncomputable abbrev Qk.put(i:Nat)(Q:Fl->St->Prop):V->St->Prop:=fun v s1=>Q .next {s1 with loc:=upd s1.loc i (some v)}
noncomputable abbrev Qk.ret(Q:Fl->St->Prop):V->St->Prop:=fun v s1=>Q (.ret v) s1
noncomputable abbrev Qk.exp(Q:Fl->St->Prop):V->St->Prop:=fun _ s1=>Q .next s1
noncomputable abbrev Qk.u(Q:Fl->St->Prop):Unit->St->Prop:=fun _ s1=>Q .next s1
noncomputable abbrev Qk.sets(is:List Nat)(r:List V->List V)(Q:Fl->St->Prop):List V->St->Prop:=fun vs s1=>vs.length<=100/\Wp (M.sets is (r vs)) s1 (Qk.u Q)
noncomputable abbrev Qk.sub3(u v:V)(Q:Fl->St->Prop):V->St->Prop:=fun k s3=>Wp (Du v k u) s3 (Qk.u Q)
noncomputable abbrev Qk.sub2(mi:M V)(u:V)(Q:Fl->St->Prop):V->St->Prop:=fun v s2=>Wp mi s2 (Qk.sub3 u v Q)
noncomputable abbrev Qk.sub1(mo mi:M V)(Q:Fl->St->Prop):V->St->Prop:=fun u s1=>Wp mo s1 (Qk.sub2 mi u Q)
noncomputable abbrev Qk.att2(Cl:Addr)(name:Str)(u:V)(Q:Fl->St->Prop):V->St->Prop:=fun v s2=>Wp (setA Cl name v u) s2 (Qk.u Q)
noncomputable abbrev Qk.att1(Cl:Addr)(name:Str)(mo:M V)(Q:Fl->St->Prop):V->St->Prop:=fun u s1=>Wp mo s1 (Qk.att2 Cl name u Q)
noncomputable abbrev Qk.comp(c:Option Nat)(T j:Nat)(mt:M Bool)(me:M V)(Q:V->St->Prop):V->St->Prop:=fun v s1=>v.stays T=true/\Wp (M.comp c v j mt me) s1 Q
noncomputable abbrev Qk.for(B:Nat)(bind:V->M Unit)(mb:M Fl)(Q:Fl->St->Prop):V->St->Prop:=fun v s1=>v.stays B=true/\Wp (M.forS v bind mb) s1 Q
noncomputable abbrev Qk.loop(I':St->Prop)(Q:Fl->St->Prop):Fl->St->Prop:=fun f s2=>match f with|.next=>I' s2|.cont=>I' s2|.brk=>False|.ret v=>Q (.ret v) s2
noncomputable abbrev Qk.hp(s:St)(Q:V->St->Prop):V->Hp->Prop:=fun v σ'=>Q v {s with hp:=σ'}
noncomputable abbrev Qk.fn(B:Nat)(Q:V->Hp->Prop):Fl->St->Prop:=fun f s => ∃ v v',flV f=some v/\Ud B v s.hp=some v'/\Q v' (cut B s.hp)
theorem Wp.ofR{α:Type}{m:M α}{s s':St}{a:α}{Q:α->St->Prop}(h:R m s a s')(k:Q a s'):Wp m s Q:=⟨a,s',h,k⟩
theorem Wp.mono{α:Type}{m:M α}{s:St}{Q Q':α->St->Prop}(h:Wp m s Q)(k : ∀ a s',Q a s'->Q' a s'):Wp m s Q':=by
 obtain⟨a,s',h1,h2⟩:=h;exact⟨a,s',h1,k _ _ h2⟩
theorem Wp.bind{α β:Type}{m:M α}{f:α->M β}{s:St}{Q:β->St->Prop}(h:Wp m s (Qk.bind f Q)):Wp (m>>=f) s Q:=by
 obtain⟨a,s1,h1,b,s2,h2,h3⟩:=h;exact⟨b,s2,.bind h1 h2,h3⟩
theorem Wp.pure{α:Type}{a:α}{s:St}{Q:α->St->Prop}(k:Q a s):Wp (Pure.pure a:M α) s Q:=⟨a,s,.pure,k⟩
theorem Wp.getL{i:Nat}{s:St}{v:V}{Q:V->St->Prop}(h:s.loc i=some v)(k:Q v s):Wp (Z71 i) s Q:=⟨v,s,.getL h,k⟩
theorem Wp.setL{i:Nat}{s:St}{v:V}{Q:Unit->St->Prop}(k:Q () {s with loc:=upd s.loc i (some v)}):Wp (Z72 i v) s Q:=⟨_,_,.setL,k⟩
theorem Wp.guard{b:Bool}{s:St}{Q:Unit->St->Prop}(h:b=true)(k:Q () s):Wp (M.guard b) s Q:=⟨_,_,.guard h,k⟩
theorem Wp.nil{s:St}{Q:List V->St->Prop}(k:Q [] s):Wp Z75 s Q:=⟨_,_,.nil,k⟩
theorem Wp.cons{m1:M V}{m2:M (List V)}{s:St}{Q:List V->St->Prop}(h:Wp m1 s (Qk.consM m2 Q)):Wp (Z74 m1 m2) s Q:=by
 obtain⟨v,s1,h1,vs,s2,h2,h3⟩:=h;exact⟨_,_,.cons h1 h2,h3⟩
theorem Wp.mkTup{vs:List V}{s:St}{Q:V->St->Prop}(h:vs.all V.low=true)(hl:vs.length<=lim)(k:Q (.tup vs) s):Wp (mkTup vs) s Q:=⟨_,_,.mkTup h hl,k⟩
theorem Wp.mkLst{vs:List V}{s:St}{Q:V->St->Prop}(h:vs.all V.low=true)(hl:vs.length<=lim)(k:Q (.lst vs) s):Wp (Wl none vs) s Q:=⟨_,_,.mkLst h hl,k⟩
theorem Wp.mkLstS{n:Nat}{vs:List V}{s:St}{Q:V->St->Prop}(h:vs.all V.low=true)(hl:vs.length<=lim)(hn:s.hp n=none)(k:Q (.ref n) {s with hp:=upd s.hp n (some (.list vs))}):Wp (Wl (some n) vs) s Q:=⟨_,_,.mkLstS h hl hn,k⟩
theorem Wp.new{n:Nat}{O:O}{s:St}{Q:V->St->Prop}(h:s.hp n=none)(k:Q (.ref n) {s with hp:=upd s.hp n (some O)}):Wp (M.new n O) s Q:=⟨_,_,.new h,k⟩
theorem Wp.tup{m:M (List V)}{s:St}{Q:V->St->Prop}(h:Wp m s (Qk.call Lay.mkTup Q)):Wp (Z7g m) s Q:=.bind h
theorem Wp.list{c:Option Nat}{m:M (List V)}{s:St}{Q:V->St->Prop}(h:Wp m s (Qk.call (Wl c) Q)):Wp (Z7h c m) s Q:=.bind h
theorem Wp.op1{g:V->M V}{m:M V}{s:St}{Q:V->St->Prop}(h:Wp m s (Qk.op1 g Q)):Wp (Z77 g m) s Q:=.bind h
theorem Wp.op2{g:V->V->M V}{m1 m2:M V}{s:St}{Q:V->St->Prop}(h:Wp m1 s (Qk.op2 g m2 Q)):Wp (Z78 g m1 m2) s Q:=.bind (h.mono fun _ _=>.bind)
theorem Wp.call{g:List V->M V}{m:M (List V)}{s:St}{Q:V->St->Prop}(h:Wp m s (Qk.call g Q)):Wp (Z79 g m) s Q:=.bind h
theorem Wp.meth{okp:V->St->Bool}{g:List V->M V}{mo:M V}{ma:M (List V)}{s:St}{Q:V->St->Prop}(h:Wp mo s (Qk.meth okp g ma Q)):Wp (Z76 okp g mo ma) s Q:=by
 refine byC fun hG=>?_
 obtain⟨o,s1,h1,hk,vs,s2,h2,v,s3,h3,h4⟩:=h
 refine hG ?_
 clear hG
 exact⟨v,s3,.meth h1 hk h2 h3,h4⟩
theorem Wp.ife{mt:M Bool}{m1 m2:M V}{s:St}{Q:V->St->Prop}(h:Wp mt s (Qk.two m1 m2 Q)):Wp (X.ife mt m1 m2) s Q:=by
 refine byC fun hG=>?_
 obtain⟨b,s1,h1,h2,h3⟩:=h
 refine hG ?_
 clear hG
 cases b with
 |true=>obtain⟨v,s2,h4,h5⟩:=h2 rfl;exact⟨v,s2,.ifeT h1 h4,h5⟩
 |false=>obtain⟨v,s2,h4,h5⟩:=h3 rfl;exact⟨v,s2,.ifeF h1 h4,h5⟩
theorem Wp.truth{m:M V}{s:St}{Q:Bool->St->Prop}(h:Wp m s (Qk.bool Q)):Wp (X.truth m) s Q:=.bind h
theorem Wp.asBool{b:Bool}{s:St}{Q:Bool->St->Prop}(k:Q b s):Wp (Lay.asBool (.bool b)) s Q:=⟨_,_,.pure,k⟩
theorem Wp.tcmp{g:V->V->M V}{m1 m2:M V}{s:St}{Q:Bool->St->Prop}(h:Wp m1 s (Qk.cmp g m2 Q)):Wp (Z7a g m1 m2) s Q:=.bind (h.mono fun _ _ h=>.bind (h.mono fun _ _=>.bind))
theorem Wp.tnot{m:M Bool}{s:St}{Q:Bool->St->Prop}(h:Wp m s (Qk.not Q)):Wp (X.tnot m) s Q:=.bind (h.mono fun b _ k=>Wp.pure (a := !b) k)
theorem Wp.and0{s:St}{Q:Bool->St->Prop}(k:Q true s):Wp X.and0 s Q:=⟨_,_,.and0,k⟩
theorem Wp.or0{s:St}{Q:Bool->St->Prop}(k:Q false s):Wp X.or0 s Q:=⟨_,_,.or0,k⟩
theorem Wp.and1{m1 m2:M Bool}{s:St}{Q:Bool->St->Prop}(h:Wp m1 s (Qk.and m2 Q)):Wp (X.and1 m1 m2) s Q:=by
 refine byC fun hG=>?_
 obtain⟨b,s1,h1,h2,h3⟩:=h
 refine hG ?_
 clear hG
 cases b with
 |true=>obtain⟨v,s2,h4,h5⟩:=h2 rfl;exact⟨v,s2,.and1T h1 h4,h5⟩
 |false=>exact⟨false,s1,.and1F h1,h3 rfl⟩
theorem Wp.or1{m1 m2:M Bool}{s:St}{Q:Bool->St->Prop}(h:Wp m1 s (Qk.or m2 Q)):Wp (X.or1 m1 m2) s Q:=by
 refine byC fun hG=>?_
 obtain⟨b,s1,h1,h2,h3⟩:=h
 refine hG ?_
 clear hG
 cases b with
 |false=>obtain⟨v,s2,h4,h5⟩:=h3 rfl;exact⟨v,s2,.or1F h1 h4,h5⟩
 |true=>exact⟨true,s1,.or1T h1,h2 rfl⟩
theorem Wp.comp{c:Option Nat}{T j:Nat}{mi:M V}{mt:M Bool}{me:M V}{s:St}{Q:V->St->Prop}(h:Wp mi s (Qk.comp c T j mt me Q)):Wp (X.comp c T j mi mt me) s Q:=.bind (h.mono fun _ _ h=>.bind (.guard h.1 h.2))
theorem Wp.dnil{s:St}{Q:List (V×V)->St->Prop}(k:Q [] s):Wp X.dnil s Q:=⟨_,_,.dnil,k⟩
theorem Wp.dcons{m1 m2:M V}{m3:M (List (V×V))}{s:St}{Q:List (V×V)->St->Prop}(h:Wp m1 s (fun a s1=>Wp m2 s1 (fun b s2=>Wp m3 s2 (fun r s3=>Q ((a,b)::r) s3)))):Wp (X.dcons m1 m2 m3) s Q:=by
 refine byC fun hG=>?_
 obtain⟨a,s1,h1,b,s2,h2,r,s3,h3,h4⟩:=h
 refine hG ?_
 clear hG
 exact⟨_,_,.dcons h1 h2 h3,h4⟩
theorem Wp.dictS{n:Nat}{m:M (List (V×V))}{s:St}{Q:V->St->Prop}(h:Wp m s (fun vs s1=>Wp (mkDict C0 .sdict n vs) s1 Q)):Wp (X.dictS n m) s Q:=.bind h
theorem Wp.sortedK{c:Option Nat}{fm:FM}{m:M V}{s:St}{Q:V->St->Prop}(h:Wp m s (fun v s1=>Wp (Qn c fm v) s1 Q)):Wp (X.sortedK c fm m) s Q:=.bind h
theorem Wp.end{s:St}{Q:Fl->St->Prop}(k:Q .next s):Wp Y.end s Q:=⟨_,_,.end,k⟩
theorem Wp.seq{m1 m2:M Fl}{s:St}{Q:Fl->St->Prop}(h:Wp m1 s (Qk.seq m2 Q)):Wp (Z73 m1 m2) s Q:=by
 refine byC fun hG=>?_
 obtain⟨f,s1,h1,h2⟩:=h
 refine hG ?_
 clear hG
 cases f with
 |next=>obtain⟨g,s2,h3,h4⟩:=h2;exact⟨g,s2,.seq h1 h3,h4⟩
 |ret v=>exact⟨_,_,.seqRet h1,h2⟩
 |brk=>exact⟨.brk,s1,R.bind h1 rfl,h2⟩
 |cont=>exact⟨.cont,s1,R.bind h1 rfl,h2⟩
theorem Wp.assign{i:Nat}{m:M V}{s:St}{Q:Fl->St->Prop}(h:Wp m s (Qk.put i Q)):Wp (Z7c i m) s Q:=by
 obtain⟨v,s1,h1,h2⟩:=h;exact⟨_,_,.assign h1,h2⟩
theorem Wp.assignDisp{is:List Nat}{m:M (List V)}{s:St}{Q:Fl->St->Prop}(h:Wp m s (Qk.sets is id Q)):Wp (Y.assignDisp is m) s Q:=by
 obtain⟨vs,s1,h1,hl,_,s2,h2,h3⟩:=h;exact⟨_,_,.assignDisp h1 hl h2,h3⟩
theorem Wp.assignSwap{is:List Nat}{m:M (List V)}{s:St}{Q:Fl->St->Prop}(h:Wp m s (Qk.sets is List.reverse Q)):Wp (Y.assignSwap is m) s Q:=by
 obtain⟨vs,s1,h1,hl,_,s2,h2,h3⟩:=h;exact⟨_,_,.assignSwap h1 hl h2,h3⟩
theorem Wp.sets0{s:St}{Q:Unit->St->Prop}(k:Q () s):Wp (M.sets [] []) s Q:=⟨_,_,.sets0,k⟩
theorem Wp.sets1{i:Nat}{is:List Nat}{v:V}{vs:List V}{s:St}{Q:Unit->St->Prop}(h:Wp (M.sets is vs) {s with loc:=upd s.loc i (some v)} Q):Wp (M.sets (i::is) (v::vs)) s Q:=.bind (.setL h)
theorem Wp.assignSub{m mo mi:M V}{s:St}{Q:Fl->St->Prop}(h:Wp m s (Qk.sub1 mo mi Q)):Wp (Z7d m mo mi) s Q:=by
 refine byC fun hG=>?_
 obtain⟨u,s1,h1,v,s2,h2,k,s3,h3,_,s4,h4,h5⟩:=h
 refine hG ?_
 clear hG
 exact⟨_,_,.assignSub h1 h2 h3 h4,h5⟩
theorem Wp.assignAttr{Cl:Addr}{name:Str}{m mo:M V}{s:St}{Q:Fl->St->Prop}(h:Wp m s (Qk.att1 Cl name mo Q)):Wp (Y.assignAttr Cl name m mo) s Q:=by
 refine byC fun hG=>?_
 obtain⟨u,s1,h1,v,s2,h2,_,s3,h3,h4⟩:=h
 refine hG ?_
 clear hG
 exact⟨_,_,.assignAttr h1 h2 h3,h4⟩
theorem Wp.ret{m:M V}{s:St}{Q:Fl->St->Prop}(h:Wp m s (Qk.ret Q)):Wp (Z7f m) s Q:=by
 obtain⟨v,s1,h1,h2⟩:=h;exact⟨_,_,.ret h1,h2⟩
theorem Wp.expr{m:M V}{s:St}{Q:Fl->St->Prop}(h:Wp m s (Qk.exp Q)):Wp (Z7e m) s Q:=by
 obtain⟨v,s1,h1,h2⟩:=h;exact⟨_,_,.expr h1,h2⟩
theorem Wp.ite{mt:M Bool}{m1 m2:M Fl}{s:St}{Q:Fl->St->Prop}(h:Wp mt s (Qk.two m1 m2 Q)):Wp (Z7b mt m1 m2) s Q:=by
 refine byC fun hG=>?_
 obtain⟨b,s1,h1,h2,h3⟩:=h
 refine hG ?_
 clear hG
 cases b with
 |true=>obtain⟨v,s2,h4,h5⟩:=h2 rfl;exact⟨v,s2,.iteT h1 h4,h5⟩
 |false=>obtain⟨v,s2,h4,h5⟩:=h3 rfl;exact⟨v,s2,.iteF h1 h4,h5⟩
theorem Wp.for{B:Nat}{mi:M V}{bind:V->M Unit}{mb:M Fl}{s:St}{Q:Fl->St->Prop}(h:Wp mi s (Qk.for B bind mb Q)):Wp (Y.for B mi bind mb) s Q:=.bind (h.mono fun _ _ h=>.bind (.guard h.1 h.2))
theorem Wp.forS{v:V}{bind:V->M Unit}{body:M Fl}{xs:List V}{s:St}{Q:Fl->St->Prop}(I:Nat->St->Prop)(h0:I 0 s)(hit : ∀ i s,I i s->Yh v s=some xs)
  (step : ∀ i s x,I i s->xs[i]?=some x->Wp (bind x) s (Qk.then body (Qk.loop (I (i+1)) Q)))
  (last : ∀ s,I xs.length s->Q .next s):Wp (M.forS v bind body) s Q:=by
 have hx:=hit 0 s h0
 rcases Rr (items:=Yh v) (bind:=bind) (body:=body) (xs:=xs) I (fun v s=>Q (.ret v) s) hit (fun i s x hi hx=>by
  refine byC fun hG=>?_
  obtain⟨_,s1,h1,f,s2,h2,h3⟩:=step i s x hi hx
  refine hG ?_
  clear hG
  refine⟨s1,s2,f,h1,h2,?_⟩
  cases f with
  |next=>exact .inl ⟨.inl rfl,h3⟩
  |cont=>exact .inl ⟨.inr rfl,h3⟩
  |brk=>exact h3.elim
  |ret v=>exact .inr ⟨v,rfl,h3⟩) (xs.length+1) 0 s (by exact ar328) h0 (Z25 _) with⟨s',h1,h2⟩|⟨v',s',h1,h2⟩
 ·exact⟨_,_,.forS hx h1,last _ h2⟩
 ·exact⟨_,_,.forS hx h1,h2⟩
theorem Wp.compM{v:V}{j:Nat}{test:M Bool}{elt:M V}{c:Option Nat}{xs:List V}{s:St}{Q:V->St->Prop}(I:Nat->List V->St->Prop)(h0:I 0 [] s)(hit : ∀ i acc s,I i acc s->Yh v s=some xs)
  (step : ∀ i acc s x,I i acc s->xs[i]?=some x->Wp test {s with loc:=upd s.loc j (some x)} (fun b s2=>(b=false->I (i+1) acc s2)/\(b=true->Wp elt s2 (fun y s3=>y.low=true/\acc.length<lim/\I (i+1) (acc ++ [y]) s3))))
  (last : ∀ acc s,I xs.length acc s->Wp (Wl c acc) {s with loc:=upd s.loc j none} Q):Wp (M.comp c v j test elt) s Q:=by
 have hx:=hit 0 [] s h0
 obtain⟨acc',s',h1,h2⟩:=Qp (items:=Yh v) (bind:=fun u=>Z72 j u) (test:=test) (elt:=elt) (xs:=xs) I hit (fun i acc s x hi hx=>by
  refine byC fun hG=>?_
  obtain⟨b,s2,h1,h2,h3⟩:=step i acc s x hi hx
  refine hG ?_
  clear hG
  refine⟨_,s2,b,.setL,h1,?_⟩
  cases b with
  |false=>exact .inl ⟨rfl,h2 rfl⟩
  |true=>obtain⟨y,s3,h4,h5,h6,h7⟩:=h3 rfl;exact .inr ⟨rfl,y,s3,h4,h5,h6,h7⟩) (xs.length+1) 0 [] s (by exact ar328) h0 (Z25 _)
 refine byC fun hG=>?_
 obtain⟨r,s2,h3,h4⟩:=last _ _ h2
 refine hG ?_
 clear hG
 refine⟨r,s2,R.bind (a:=acc') (s1:=s') ?_ (R.bind (a:=()) rfl h3),h4⟩
 unfold R
 show (Yh v s).bind _=_
 rw [hx];exact h1
noncomputable def Ws(fm:FM)(vs:List V)(σ:Hp)(Q:V->Hp->Prop):Prop := ∃ v σ',fm vs σ=some (v,σ')/\Q v σ'
theorem Ws.mono{fm:FM}{vs:List V}{σ:Hp}{Q Q':V->Hp->Prop}(h:Ws fm vs σ Q)(k : ∀ v σ',Q v σ'->Q' v σ'):Ws fm vs σ Q':=by
 obtain⟨v,σ',h1,h2⟩:=h;exact⟨v,σ',h1,k _ _ h2⟩
theorem Wp.callM{fm:FM}{vs:List V}{s:St}{Q:V->St->Prop}(h:Ws fm vs s.hp (Qk.hp s Q)):Wp (Lay.callM fm vs) s Q:=by
 obtain⟨v,σ',h1,h2⟩:=h;exact⟨v,_,.callM h1,h2⟩
theorem Ws.fn{B n:Nat}{mb:M Fl}{args:List V}{σ:Hp}{Q:V->Hp->Prop}(hl:args.length=n)(h:Wp mb ⟨fun i=>args[i]?,σ⟩ (Qk.fn B Q)):Ws (Y4 B n mb) args σ Q:=by
 refine byC fun hG=>?_
 obtain⟨f,s,h1,v,v',h2,h3,h4⟩:=h
 refine hG ?_
 clear hG
 exact⟨v',_,run_fn hl h1 h2 h3,h4⟩
end Lay
set_option genInjectivity false
namespace Lay
namespace L01
noncomputable def W9:M Fl :=
 Z73 (Z7f (X.ife (Z7a vGt (Z71 1) (pure (.int 0))) (Z78 Yz (Z71 0) (Z71 1)) (Z78 Kt (pure (.int 65535)) (Z78 Yz (Z71 0) (Z77 Fk (Z71 1))))))
 (Y.end)
noncomputable def J2:M Fl :=
 Z73 (Z7f (Z78 Yz (Z77 (Yn 112 (Z5k "gates")) (Z71 0)) (Z71 1)))
 (Y.end)
noncomputable def We:M Fl :=
 Z73 (Y.for 660 (Z71 0) (fun v=>Z72 1 v) (Z73 (Z7c 2 (X.comp none 680 5 (Z71 1) (X.and0) (Z79 Rg (Z74 (Z71 5) Z75))))
 (Z73 (Z7b (Z7a (vEq true) (Z71 2) (X.sortedSet none (Z71 2))) (Z73 (Z7f (pure (.bool false)))
 (Y.end)) (Y.end))
 (Y.end))))
 (Z73 (Z7f (pure (.bool true)))
 (Y.end))
noncomputable def Vl:M Fl :=
 Z73 (Y.assignDisp [2,3,4] (Z74 (Z79 (E0 640) (Z74 (Z71 1) Z75)) (Z74 (pure (.int 0)) (Z74 (pure (.bool true)) Z75))))
 (Z73 (M.whileW (X.truth (Z71 4)) (Z73 (Z7c 4 (pure (.bool false)))
 (Z73 (Y.for 640 (Z71 0) (fun v=>Z72 5 v) (Z73 (Z7c 7 (X.comp none 660 15 (Z71 5) (X.and0) (Z76 Qb Dd (Z71 2) (Z74 (Z77 Fk (Z71 15)) (Z74 (pure (.int 0)) Z75)))))
 (Z73 (Y.forEnum (Z71 5) 8 6 (Z73 (Z7c 9 (Z78 Kt (pure (.int 65535)) (Z76 Qb Dd (Z71 2) (Z74 (Z71 6) (Z74 (pure (.int 0)) Z75)))))
 (Z73 (Y.forEnum (Z71 7) 10 11 (Z73 (Z7c 9 (X.ife (Z7a (vEq true) (Z71 10) (Z71 8)) (Z78 T1 (Z71 9) (Z71 11)) (Z71 9)))
 (Y.end)))
 (Z73 (Z7b (Z7a (vEq true) (Z71 9) (pure (.int 0))) (Z73 (Z7d (Z78 vOr (Z76 Qb Dd (Z71 2) (Z74 (Z71 6) (Z74 (pure (.int 0)) Z75))) (Z71 9)) (Z71 2) (Z71 6))
 (Z73 (Z7c 4 (pure (.bool true)))
 (Y.end))) (Y.end))
 (Y.end)))))
 (Z73 (Z7c 9 (pure (.int 65535)))
 (Z73 (Y.for 640 (Z71 7) (fun v=>Z72 11 v) (Z73 (Z7c 9 (Z78 T1 (Z71 9) (Z71 11)))
 (Y.end)))
 (Z73 (Z7c 3 (Z78 vOr (Z71 3) (Z71 9)))
 (Y.end)))))))
 (Y.end))))
 (Z73 (Y.freeze 640 (Z7f (Z7g (Z74 (Z71 2) (Z74 (Z71 3) Z75)))))
 (Y.end)))
noncomputable def Vo:M Fl :=
 Z73 (Z7f (Z7g (Z74 (Z79 Rg (Z74 (Z71 0) Z75)) (Z74 (Z71 0) Z75))))
 (Y.end)
noncomputable def Uq:M Fl :=
 Z73 (Z7c 1 (M.new 600 (.idict [])))
 (Z73 (Y.for 600 (Z71 0) (fun v=>Z72 2 v) (Z73 (Z7b (Z7a (vIn false) (Z77 Fk (Z71 2)) (Z71 1)) (Z73 (Z7f (pure .none))
 (Y.end)) (Y.end))
 (Z73 (Z7d (pure (.bool true)) (Z71 1) (Z71 2))
 (Y.end))))
 (Z73 (Z7f (Z79 L7 (Z74 (X.sortedK none (Y4 620 1 Vo) (Z71 1)) Z75)))
 (Y.end)))
noncomputable def Xd:M Fl :=
 Z73 (Z7d (Z78 (Nt none) (Z78 Yz (Z71 0) (pure (.str (Z5k "at")))) (pure (.int 1))) (Z71 0) (pure (.str (Z5k "at"))))
 (Z73 (Z7b (Z7a vLe (Z78 Yz (Z71 0) (pure (.str (Z5k "at")))) (Z79 T0 (Z74 (Z78 Yz (Z71 0) (pure (.str (Z5k "cells")))) Z75))) (Z73 (Z7f (Z78 vMod (Z78 Yz (Z78 Yz (Z71 0) (pure (.str (Z5k "cells")))) (Z78 Kt (Z78 Yz (Z71 0) (pure (.str (Z5k "at")))) (pure (.int 1)))) (Z71 1)))
 (Y.end)) (Y.end))
 (Z73 (Z7f (Z78 vMod (Z78 vMod (Z78 (Nt none) (Z78 (Nt none) (Z78 vMul (Z78 vMul (pure (.int 13)) (Z78 Yz (Z71 0) (pure (.str (Z5k "at"))))) (Z78 Yz (Z71 0) (pure (.str (Z5k "at"))))) (Z78 vMul (pure (.int 5)) (Z78 Yz (Z71 0) (pure (.str (Z5k "at")))))) (pure (.int 9))) (pure (.int 173))) (Z71 1)))
 (Y.end)))
noncomputable def Jj:M Fl :=
 Z73 (Z7c 2 (Z78 Yz (Z71 1) (Z78 Kt (Z78 Kt (Z79 T0 (Z74 (Z71 1) Z75)) (pure (.int 1))) (Z79 (callM (Y4 580 2 Xd)) (Z74 (Z71 0) (Z74 (Z79 T0 (Z74 (Z71 1) Z75)) Z75))))))
 (Z73 (Z7f (X.ife (Z7a (vEq false) (Z79 (callM (Y4 580 2 Xd)) (Z74 (Z71 0) (Z74 (pure (.int 2)) Z75))) (pure (.int 0))) (Z71 2) (Z77 Fk (Z71 2))))
 (Y.end))
noncomputable def Jg:M Fl :=
 Z73 (Y.assignAttr 224 (Z5k "kinds") (Z7h (some 3) (Z74 (pure (.str (Z5k ""))) (Z74 (pure (.str (Z5k "true"))) Z75))) (Z71 0))
 (Z73 (Y.assignAttr 224 (Z5k "parts_now") (Z7h (some 4) (Z74 (Z7g Z75) (Z74 (Z7g Z75) Z75))) (Z71 0))
 (Z73 (Y.assignAttr 224 (Z5k "known") (M.new 5 (.tdict [])) (Z71 0))
 (Y.end)))
noncomputable def Jx:M Fl :=
 Z73 (Z7f (Z78 Kt (Z79 T0 (Z74 (Z77 (Yn 224 (Z5k "kinds")) (Z71 0)) Z75)) (pure (.int 1))))
 (Y.end)
noncomputable def Y3:M Fl :=
 Z73 (Z7f (Z78 Yz (Z77 (Yn 224 (Z5k "kinds")) (Z71 0)) (Z79 Rg (Z74 (Z71 1) Z75))))
 (Y.end)
noncomputable def X5:M Fl :=
 Z73 (Z7f (Z78 Yz (Z77 (Yn 224 (Z5k "parts_now")) (Z71 0)) (Z79 Rg (Z74 (Z71 1) Z75))))
 (Y.end)
noncomputable def X8:M Fl :=
 Z73 (Z7e (Z76 U9 Mk (Z77 (Yn 224 (Z5k "kinds")) (Z71 0)) (Z74 (Z71 1) Z75)))
 (Z73 (Z7e (Z76 U9 Mk (Z77 (Yn 224 (Z5k "parts_now")) (Z71 0)) (Z74 (Z71 2) Z75)))
 (Z73 (Z7f (Z78 Kt (Z79 T0 (Z74 (Z77 (Yn 224 (Z5k "kinds")) (Z71 0)) Z75)) (pure (.int 1))))
 (Y.end)))
noncomputable def W7:M Fl :=
 Z73 (Z7f (Z76 (Y9 224 (Z5k "new_gate")) (callM (Y4 480 3 X8)) (Z71 0) (Z74 (pure (.str (Z5k "input"))) (Z74 (Z7g Z75) Z75))))
 (Y.end)
noncomputable def Jf:M Fl :=
 Z73 (Z7c 2 (M.new 440 (.idict [])))
 (Z73 (Y.for 440 (Z71 1) (fun v=>Z72 3 v) (Z73 (Z7b ((X.or1 (Z7a (vEq false) (Z71 3) (Z77 Fk (pure (.int 1)))) (X.or1 (Z7a (vIn false) (Z77 Fk (Z71 3)) (Z71 2)) X.or0))) (Z73 (Z7f (Z77 Fk (pure (.int 1))))
 (Y.end)) (Y.end))
 (Z73 (Z7b (Z7a (vEq true) (Z71 3) (pure (.int 1))) (Z73 (Z7d (pure (.bool true)) (Z71 2) (Z71 3))
 (Y.end)) (Y.end))
 (Y.end))))
 (Z73 (Z7c 4 (Z79 L7 (Z74 (Z79 (M9 none) (Z74 (Z71 2) Z75)) Z75)))
 (Z73 (Z7b (Z7a vLt (Z79 T0 (Z74 (Z71 4) Z75)) (pure (.int 2))) (Z73 (Z7f (X.ife (Z7a (vEq false) (Z79 T0 (Z74 (Z71 4) Z75)) (pure (.int 1))) (Z78 Yz (Z71 4) (pure (.int 0))) (pure (.int 1))))
 (Y.end)) (Y.end))
 (Z73 (Z7b (Z7a (vIn true) (Z71 4) (Z77 (Yn 224 (Z5k "known")) (Z71 0))) (Z73 (Z7d (Z76 (Y9 224 (Z5k "new_gate")) (callM (Y4 480 3 X8)) (Z71 0) (Z74 (pure (.str (Z5k "and"))) (Z74 (Z71 4) Z75))) (Z77 (Yn 224 (Z5k "known")) (Z71 0)) (Z71 4))
 (Y.end)) (Y.end))
 (Z73 (Z7f (Z78 Yz (Z77 (Yn 224 (Z5k "known")) (Z71 0)) (Z71 4)))
 (Y.end))))))
noncomputable def W4:M Fl :=
 Z73 (Z7e (Z76 U9 Mk (Z71 1) (Z74 (Z76 (Y9 224 (Z5k "new_input")) (callM (Y4 460 1 W7)) (Z71 0) Z75) Z75)))
 (Z73 (Z7d (Z77 (vCol [43690,52428,61680,65280]) (Z79 T0 (Z74 (X.compD 100 2 5 (Z7a (vEq false) (Z76 (Y9 224 (Z5k "kind")) (callM (Y4 520 2 Y3)) (Z71 0) (Z74 (Z71 5) Z75)) (pure (.str (Z5k "input")))) (Z71 5)) Z75))) (Z71 2) (Z78 Yz (Z71 1) (Z77 Fk (pure (.int 1)))))
 (Y.end))
noncomputable def U4:M Fl :=
 Z73 (Y.assignSwap [3,2] (Z74 (Z7h (some 361) Z75) (Z74 (Z7h (some 360) (Z74 (Z79 Rg (Z74 (Z71 1) Z75)) Z75)) Z75)))
 (Z73 (M.whileW (Z7a (vEq true) (Z71 3) (Z7h none Z75)) (Z73 (Z7c 4 (Z76 U9 mPop (Z71 3) Z75))
 (Z73 (Z7b (Z7a (vIn true) (Z71 4) (Z71 2)) (Z73 (Z7e (Z76 U9 Mk (Z71 2) (Z74 (Z71 4) Z75)))
 (Z73 (Z7c 3 (Z78 (Nt (some 362)) (Z71 3) (X.comp none 380 6 (Z76 (Y9 224 (Z5k "parts")) (callM (Y4 500 2 X5)) (Z71 0) (Z74 (Z71 4) Z75)) (X.and0) (Z79 Rg (Z74 (Z71 6) Z75)))))
 (Y.move 360 362 (Y.end)))) (Y.end))
 (Y.end))))
 (Z73 (Z7f (Z71 2))
 (Y.end)))
noncomputable def Xj:M Fl :=
 Z73 (Z7c 2 (Z79 (callM (Y4 600 1 Uq)) (Z74 (Z71 1) Z75)))
 (Z73 (Z7b (Z7a (Qh true) (Z71 2) (pure .none)) (Z73 (Z7e (Z76 U9 Mk (Z77 (Yn 112 (Z5k "clauses")) (Z71 0)) (Z74 (Z71 2) Z75)))
 (Y.end)) (Y.end))
 (Y.end))
noncomputable def Jy:M Fl :=
 Z73 (Z7f (Z78 Kt (Z79 T0 (Z74 (Z77 (Yn 112 (Z5k "gates")) (Z71 0)) Z75)) (pure (.int 1))))
 (Y.end)
noncomputable def Xk:M Fl :=
 Z73 (Z7b (Z7a (vIn true) (Z71 1) (Z77 (Yn 112 (Z5k "numbers")) (Z71 0))) (Z73 (Z7d (Z79 T0 (Z74 (Z77 (Yn 112 (Z5k "gates")) (Z71 0)) Z75)) (Z77 (Yn 112 (Z5k "numbers")) (Z71 0)) (Z71 1))
 (Z73 (Z7e (Z76 U9 Mk (Z77 (Yn 112 (Z5k "gates")) (Z71 0)) (Z74 (Z71 1) Z75)))
 (Y.end))) (Y.end))
 (Z73 (Z7f (Z78 Yz (Z77 (Yn 112 (Z5k "numbers")) (Z71 0)) (Z71 1)))
 (Y.end))
noncomputable def Jh:M Fl :=
 Z73 (Y.assignAttr 112 (Z5k "circuit") (Z71 1) (Z71 0))
 (Z73 (Y.assignAttr 112 (Z5k "whole") (Z71 2) (Z71 0))
 (Z73 (Y.assignAttr 112 (Z5k "clauses") (Z7h (some 8) Z75) (Z71 0))
 (Z73 (Y.assignAttr 112 (Z5k "gates") (Z7h (some 9) (Z74 (pure (.int 0)) Z75)) (Z71 0))
 (Z73 (Y.assignAttr 112 (Z5k "numbers") (M.new 10 (.idict [])) (Z71 0))
 (Z73 (Y.assignAttr 112 (Z5k "opened") (M.new 11 (.idict [])) (Z71 0))
 (Z73 (Y.assignAttr 112 (Z5k "waiting") (Z7h (some 12) Z75) (Z71 0))
 (Z73 (Y.for 280 (Z79 Ux (Z74 (pure (.int 2)) (Z74 (Z78 (Nt none) (Z76 (Y9 224 (Z5k "size")) (callM (Y4 540 1 Jx)) (Z71 1) Z75) (pure (.int 1))) Z75))) (fun v=>Z72 3 v) (Z73 (Z7b (Z7a (vEq false) (Z76 (Y9 224 (Z5k "kind")) (callM (Y4 520 2 Y3)) (Z71 1) (Z74 (Z71 3) Z75)) (pure (.str (Z5k "input")))) (Z73 (Z7e (Z76 (Y9 112 (Z5k "number_of")) (callM (Y4 300 2 Xk)) (Z71 0) (Z74 (Z71 3) Z75)))
 (Y.end)) (Y.end))
 (Y.end)))
 (Y.end))))))))
noncomputable def Yw:M Fl :=
 Z73 (Z7c 2 (Z79 Rg (Z74 (Z71 1) Z75)))
 (Z73 (Z7c 3 (Z76 (Y9 112 (Z5k "number_of")) (callM (Y4 300 2 Xk)) (Z71 0) (Z74 (Z71 2) Z75)))
 (Z73 (Y.for 260 (X.ife (Z7a vGt (Z77 (Yn 112 (Z5k "whole")) (Z71 0)) (pure (.int 0))) (Z7g (Z74 (Z71 2) (Z74 (Z77 Fk (Z71 2)) Z75))) (Z7g (Z74 (Z71 1) Z75))) (fun v=>Z72 4 v) (Z73 (Z7b (Z7a (vIn true) (Z71 4) (Z77 (Yn 112 (Z5k "opened")) (Z71 0))) (Z73 (Z7d (pure (.bool true)) (Z77 (Yn 112 (Z5k "opened")) (Z71 0)) (Z71 4))
 (Z73 (Z7e (Z76 U9 Mk (Z77 (Yn 112 (Z5k "waiting")) (Z71 0)) (Z74 (Z71 4) Z75)))
 (Y.end))) (Y.end))
 (Y.end)))
 (Z73 (Z7f (X.ife (Z7a vGt (Z71 1) (pure (.int 0))) (Z71 3) (Z77 Fk (Z71 3))))
 (Y.end))))
noncomputable def W8:M Fl :=
 Z73 (Y.assignSwap [3,2] (Z74 (Z76 (Y9 224 (Z5k "kind")) (callM (Y4 520 2 Y3)) (Z77 (Yn 112 (Z5k "circuit")) (Z71 0)) (Z74 (Z79 Rg (Z74 (Z71 1) Z75)) Z75)) (Z74 (Z78 Yz (Z77 (Yn 112 (Z5k "numbers")) (Z71 0)) (Z79 Rg (Z74 (Z71 1) Z75))) Z75)))
 (Z73 (Z7b (Z7a (vEq false) (Z71 2) (pure (.str (Z5k "true")))) (Z73 (Z7e (Z76 (Y9 112 (Z5k "tell")) (callM (Y4 340 2 Xj)) (Z71 0) (Z74 (Z7h none (Z74 (Z71 3) Z75)) Z75)))
 (Y.end)) (Z73 (Z7b ((X.and1 (Z7a (vEq false) (Z71 2) (pure (.str (Z5k "and")))) (X.and1 (Z7a vGt (Z71 1) (pure (.int 0))) X.and0))) (Z73 (Y.for 240 (Z76 (Y9 224 (Z5k "parts")) (callM (Y4 500 2 X5)) (Z77 (Yn 112 (Z5k "circuit")) (Z71 0)) (Z74 (Z71 1) Z75)) (fun v=>Z72 4 v) (Z73 (Z7e (Z76 (Y9 112 (Z5k "tell")) (callM (Y4 340 2 Xj)) (Z71 0) (Z74 (Z7h none (Z74 (Z77 Fk (Z71 3)) (Z74 (Z76 (Y9 112 (Z5k "enter")) (callM (Y4 260 2 Yw)) (Z71 0) (Z74 (Z71 4) Z75)) Z75))) Z75)))
 (Y.end)))
 (Y.end)) (Z73 (Z7b (Z7a (vEq false) (Z71 2) (pure (.str (Z5k "and")))) (Z73 (Z7e (Z76 (Y9 112 (Z5k "tell")) (callM (Y4 340 2 Xj)) (Z71 0) (Z74 (Z78 (Nt none) (Z7h none (Z74 (Z71 3) Z75)) (X.comp none 260 6 (Z76 (Y9 224 (Z5k "parts")) (callM (Y4 500 2 X5)) (Z77 (Yn 112 (Z5k "circuit")) (Z71 0)) (Z74 (Z77 Fk (Z71 1)) Z75)) (X.and0) (Z76 (Y9 112 (Z5k "enter")) (callM (Y4 260 2 Yw)) (Z71 0) (Z74 (Z77 Fk (Z71 6)) Z75)))) Z75)))
 (Y.end)) (Y.end))
 (Y.end)))
 (Y.end)))
 (Y.end))
noncomputable def Ww:M Fl :=
 Z73 (M.whileW (Z7a vGt (Z79 T0 (Z74 (Z77 (Yn 112 (Z5k "waiting")) (Z71 0)) Z75)) (pure (.int 0))) (Z73 (Z7e (Z76 (Y9 112 (Z5k "open_gate")) (callM (Y4 240 2 W8)) (Z71 0) (Z74 (Z76 U9 mPop (Z77 (Yn 112 (Z5k "waiting")) (Z71 0)) Z75) Z75)))
 (Y.end)))
 (Y.end)
noncomputable def Xf:M Fl :=
 Z73 (Z7c 2 (Z76 (Y9 112 (Z5k "enter")) (callM (Y4 260 2 Yw)) (Z71 0) (Z74 (Z71 1) Z75)))
 (Z73 (Z7e (Z76 (Y9 112 (Z5k "flush")) (callM (Y4 220 1 Ww)) (Z71 0) Z75))
 (Z73 (Z7f (Z71 2))
 (Y.end)))
noncomputable def W0:M Fl :=
 Z73 (Y.assignSwap [3,2] (Z74 (Z7h (some 181) (Z74 (Z71 1) Z75)) (Z74 (M.new 180 (.idict [])) Z75)))
 (Z73 (M.whileW (Z7a vGt (Z79 T0 (Z74 (Z71 2) Z75)) (pure (.int 0))) (Z73 (Z7c 4 (Z76 U9 mPop (Z71 2) Z75))
 (Z73 (Z7b (Z7a (vIn false) (Z71 4) (Z71 3)) (Z73 (pure .cont)
 (Y.end)) (Y.end))
 (Z73 (Z7d (pure (.bool true)) (Z71 3) (Z71 4))
 (Z73 (Z7c 5 (Z76 (Y9 224 (Z5k "kind")) (callM (Y4 520 2 Y3)) (Z77 (Yn 112 (Z5k "circuit")) (Z71 0)) (Z74 (Z79 Rg (Z74 (Z71 4) Z75)) Z75)))
 (Z73 (Z7b ((X.and1 (Z7a (vEq false) (Z71 5) (pure (.str (Z5k "and")))) (X.and1 (Z7a vGt (Z71 4) (pure (.int 0))) X.and0))) (Z73 (Z7e (X.extRev (Z71 2) (Z76 (Y9 224 (Z5k "parts")) (callM (Y4 500 2 X5)) (Z77 (Yn 112 (Z5k "circuit")) (Z71 0)) (Z74 (Z71 4) Z75))))
 (Y.end)) (Z73 (Z7b (Z7a (vEq false) (Z71 5) (pure (.str (Z5k "and")))) (Z73 (Z7e (Z76 (Y9 112 (Z5k "tell")) (callM (Y4 340 2 Xj)) (Z71 0) (Z74 (X.comp none 200 9 (Z76 (Y9 224 (Z5k "parts")) (callM (Y4 500 2 X5)) (Z77 (Yn 112 (Z5k "circuit")) (Z71 0)) (Z74 (Z77 Fk (Z71 4)) Z75)) (X.and0) (Z76 (Y9 112 (Z5k "enter")) (callM (Y4 260 2 Yw)) (Z71 0) (Z74 (Z77 Fk (Z71 9)) Z75))) Z75)))
 (Y.end)) (Z73 (Z7b (Z7a (vEq true) (Z71 4) (pure (.int 1))) (Z73 (Z7e (Z76 (Y9 112 (Z5k "tell")) (callM (Y4 340 2 Xj)) (Z71 0) (Z74 (X.ife (Z7a (vEq false) (Z71 5) (pure (.str (Z5k "input")))) (Z7h none (Z74 (Z76 (Y9 112 (Z5k "enter")) (callM (Y4 260 2 Yw)) (Z71 0) (Z74 (Z71 4) Z75)) Z75)) (Z7h none Z75)) Z75)))
 (Y.end)) (Y.end))
 (Y.end)))
 (Y.end)))
 (Y.end)))))))
 (Z73 (Z7e (Z76 (Y9 112 (Z5k "flush")) (callM (Y4 220 1 Ww)) (Z71 0) Z75))
 (Y.end)))
noncomputable def Y7:M Fl :=
 Z73 (Z7f (X.comp none 180 2 (Z79 Ux (Z74 (pure (.int 1)) (Z74 (Z78 (Nt none) (Z76 (Y9 112 (Z5k "many")) (callM (Y4 320 1 Jy)) (Z71 0) Z75) (pure (.int 1))) Z75))) (X.and0) (Z76 (Y9 112 (Z5k "gate_of")) (callM (Y4 680 2 J2)) (Z71 0) (Z74 (Z71 2) Z75))))
 (Y.end)
noncomputable def Wx:M Fl :=
 Z73 (Y.assignSwap [5,4] (Z74 (X.comp none 170 13 (Z79 Ux (Z74 (Z78 (Nt none) (pure (.int 2)) (Z79 (callM (Y4 580 2 Xd)) (Z74 (Z71 0) (Z74 (pure (.int 2)) Z75)))) Z75)) (X.and0) (Z79 (callM (Y4 570 2 Jj)) (Z74 (Z71 0) (Z74 (Z71 2) Z75)))) (Z74 (pure (.int 65535)) Z75)))
 (Z73 (Y.for 160 (Z71 4) (fun v=>Z72 6 v) (Z73 (Z7c 5 (Z78 T1 (Z71 5) (Z79 (callM (Y4 700 2 W9)) (Z74 (Z71 3) (Z74 (Z71 6) Z75)))))
 (Y.end)))
 (Z73 (Z7c 7 (Z76 (Y9 224 (Z5k "all_of")) (callM (Y4 440 2 Jf)) (Z71 1) (Z74 (Z71 4) Z75)))
 (Z73 (Z7e (Z76 Qb Df (Z71 3) (Z74 (Z79 Rg (Z74 (Z71 7) Z75)) (Z74 (Z71 5) Z75))))
 (Z73 (Z7e (Z76 U9 Mk (Z71 2) (Z74 (Z71 7) Z75)))
 (Z73 (Z7f (Z78 (vEq false) (Z79 (callM (Y4 700 2 W9)) (Z74 (Z71 3) (Z74 (Z71 7) Z75))) (Z71 5)))
 (Y.end))))))
noncomputable def W2:M Fl :=
 Z73 (Y.assignSwap [6,5,4] (Z74 (pure (.int 65535)) (Z74 (M.new 140 (.idict [])) (Z74 (Z79 (callM (Y4 170 1 Y7)) (Z74 (Z71 0) Z75)) Z75))))
 (Z73 (Y.for 140 (Z71 2) (fun v=>Z72 7 v) (Z73 (Z7c 4 (Z78 T1 (Z71 4) (Z79 (callM (Y4 700 2 W9)) (Z74 (Z71 1) (Z74 (Z71 7) Z75)))))
 (Y.end)))
 (Z73 (Y.forEnum (Z71 6) 8 7 (Z73 (Z7b (Z7a (vEq false) (Z76 (Y9 224 (Z5k "kind")) (callM (Y4 520 2 Y3)) (Z77 (Yn 112 (Z5k "circuit")) (Z71 0)) (Z74 (Z71 7) Z75)) (pure (.str (Z5k "input")))) (Z73 (Y.assignTwo (Z78 Yz (Z71 1) (Z71 7)) (Z78 Kt (pure (.int 65535)) (Z78 Yz (Z71 1) (Z71 7))) (Y.tgt (Z71 5) (Z78 (Nt none) (Z71 8) (pure (.int 1)))) (Y.tgt (Z71 5) (Z78 Kt (Z77 Fk (Z71 8)) (pure (.int 1)))))
 (Y.end)) (Y.end))
 (Y.end)))
 (Z73 (Y.assignTup [9,10] (Z79 (callM (Y4 640 2 Vl)) (Z74 (Z77 (Yn 112 (Z5k "clauses")) (Z71 0)) (Z74 (Z71 5) Z75))))
 (Z73 (Z7b (Z7a (vEq true) (Z71 10) (Z78 Kt (pure (.int 65535)) (Z71 4))) (Z73 (Z7f (pure (.bool false)))
 (Y.end)) (Y.end))
 (Z73 (Y.for 140 (Z77 (Yn 112 (Z5k "clauses")) (Z71 0)) (fun v=>Z72 11 v) (Z73 (Z7c 12 (pure (.int 0)))
 (Z73 (Y.for 140 (Z71 11) (fun v=>Z72 13 v) (Z73 (Z7c 12 (Z78 vOr (Z71 12) (X.ife (Z7a vGt (Z71 13) (pure (.int 0))) (Z78 Yz (Z71 1) (Z78 Yz (Z71 6) (Z78 Kt (Z71 13) (pure (.int 1))))) (Z78 Kt (pure (.int 65535)) (Z78 Yz (Z71 1) (Z78 Yz (Z71 6) (Z78 Kt (Z77 Fk (Z71 13)) (pure (.int 1)))))))))
 (Y.end)))
 (Z73 (Z7b (Z7a (vEq true) (Z78 T1 (Z71 4) (Z78 Kt (pure (.int 65535)) (Z71 12))) (pure (.int 0))) (Z73 (Z7f (pure (.bool false)))
 (Y.end)) (Y.end))
 (Y.end)))))
 (Z73 (Y.for 140 (Z71 3) (M.unpack [7,14]) (Z73 (Y.assignSwap [16,15,12] (Z74 (Z79 (callM (Y4 700 2 W9)) (Z74 (Z71 1) (Z74 (Z71 7) Z75))) (Z74 (Z78 T1 (Z76 Qb Dd (Z71 9) (Z74 (Z71 14) (Z74 (pure (.int 0)) Z75))) (Z71 4)) (Z74 (Z78 T1 (Z76 Qb Dd (Z71 9) (Z74 (Z77 Fk (Z71 14)) (Z74 (pure (.int 0)) Z75))) (Z71 4)) Z75))))
 (Z73 (Z7b ((X.or1 (Z7a (vEq true) (Z71 16) (Z78 T1 (Z71 4) (Z78 Kt (pure (.int 65535)) (Z71 12)))) (X.or1 (Z7a (vEq true) (Z78 T1 (Z71 15) (Z78 Kt (pure (.int 65535)) (Z71 12))) (pure (.int 0))) (X.or1 ((X.and1 (Z7a (vEq false) (Z77 (Yn 112 (Z5k "whole")) (Z71 0)) (pure (.int 1))) (X.and1 (Z7a (vEq true) (Z71 15) (Z78 T1 (Z71 4) (Z71 12))) X.and0))) X.or0)))) (Z73 (Z7f (pure (.bool false)))
 (Y.end)) (Y.end))
 (Y.end))))
 (Z73 (Z7f (pure (.bool true)))
 (Y.end))))))))
noncomputable def W1:M Fl :=
 Z73 (Y.assignSwap [7,6] (Z74 (Z78 (vEq false) (Z79 (callM (Y4 580 2 Xd)) (Z74 (Z71 0) (Z74 (pure (.int 3)) Z75))) (pure (.int 1))) (Z74 (Z79 (callM (Y4 570 2 Jj)) (Z74 (Z71 0) (Z74 (Z78 (Nt none) (Z7h none (Z74 (pure (.int 1)) Z75)) (Z71 3)) Z75))) Z75)))
 (Z73 (Y.assignDisp [8,9,10] (Z74 (Z79 (E1 none) (Z74 (Z77 (Yn 112 (Z5k "clauses")) (Z71 1)) Z75)) (Z74 (Z79 (callM (Y4 170 1 Y7)) (Z74 (Z71 1) Z75)) (Z74 (Z79 (callM (Y4 360 2 U4)) (Z74 (Z71 2) (Z74 (Z71 7) Z75))) Z75))))
 (Z73 (Z7b (X.truth (Z71 6)) (Z73 (Z7e (Z76 U9 Mk (Z71 4) (Z74 (Z71 7) Z75)))
 (Z73 (Z7e (Z76 (Y9 112 (Z5k "add_top")) (callM (Y4 180 2 W0)) (Z71 1) (Z74 (Z71 7) Z75)))
 (Y.end))) (Z73 (Z7e (Z76 U9 Mk (Z71 5) (Z74 (Z7g (Z74 (Z71 7) (Z74 (Z76 (Y9 112 (Z5k "literal_of")) (callM (Y4 200 2 Xf)) (Z71 1) (Z74 (Z71 7) Z75)) Z75))) Z75)))
 (Y.end)))
 (Z73 (Z7c 11 (Z79 (callM (Y4 170 1 Y7)) (Z74 (Z71 1) Z75)))
 (Z73 (Z7c 12 (Z78 (Z00 none) (Z71 11) (Z79 T0 (Z74 (Z71 9) Z75))))
 (Z73 (Z7b ((X.or1 (Z7a (vEq true) (Z78 (Mx none) (Z77 (Yn 112 (Z5k "clauses")) (Z71 1)) (Z79 T0 (Z74 (Z71 8) Z75))) (Z71 8)) (X.or1 (Z7a (vEq true) (Z78 (Mx none) (Z71 11) (Z79 T0 (Z74 (Z71 9) Z75))) (Z71 9)) (X.or1 (Z7a (vEq true) (X.lenSet (Z71 11)) (Z79 T0 (Z74 (Z71 11) Z75))) X.or0)))) (Z73 (Z7f (pure (.bool false)))
 (Y.end)) (Y.end))
 (Z73 (Z7b (Z7a (vEq true) (X.comp none 140 23 (Z71 12) (Z7a (vIn true) (Z71 23) (Z71 10)) (Z71 23)) (Z7h none Z75)) (Z73 (Z7f (pure (.bool false)))
 (Y.end)) (Y.end))
 (Z73 (Z7b (X.truth (Z71 6)) (Z73 (Z7c 13 (X.comp none 140 24 (Z71 10) ((X.and1 (Z7a (vEq false) (Z76 (Y9 224 (Z5k "kind")) (callM (Y4 520 2 Y3)) (Z71 2) (Z74 (Z71 24) Z75)) (pure (.str (Z5k "input")))) (X.and1 (Z7a (vIn true) (Z71 24) (Z71 11)) X.and0))) (Z71 24)))
 (Z73 (Z7f (X.bAnd (Z78 (vEq false) (Z71 13) (Z7h none Z75)) (X.bOr (Z78 (vEq true) (Z76 (Y9 224 (Z5k "kind")) (callM (Y4 520 2 Y3)) (Z71 2) (Z74 (Z71 7) Z75)) (pure (.str (Z5k "and")))) (Z78 (vIn true) (Z79 Rg (Z74 (Z71 7) Z75)) (Z71 12)))))
 (Y.end))) (Y.end))
 (Z73 (Z7c 14 (Z78 Yz (Z78 Yz (Z71 5) (Z77 Fk (pure (.int 1)))) (pure (.int 1))))
 (Z73 (Z7b ((X.or1 (Z7a (vEq true) (Z78 Yz (Z71 11) (Z78 Kt (Z79 Rg (Z74 (Z71 14) Z75)) (pure (.int 1)))) (Z79 Rg (Z74 (Z71 7) Z75))) (X.or1 (Z7a (vEq true) (Z78 vGt (Z71 14) (pure (.int 0))) (Z78 vGt (Z71 7) (pure (.int 0)))) X.or0))) (Z73 (Z7f (pure (.bool false)))
 (Y.end)) (Y.end))
 (Z73 (Z7f (Z78 (vEq false) (X.comp none 140 25 (Z71 10) (Z7a (vIn true) (Z71 25) (Z71 11)) (Z71 25)) (Z7h none Z75)))
 (Y.end)))))))))))
noncomputable def A9:M Fl :=
 Z73 (Y.assignSwap [3,2,1] (Z74 (X.dictS 101 (X.dcons (pure (.str (Z5k "cells"))) (X.comp none 120 25 (Z78 (Mx none) (Z71 0) (pure (.int 60))) (X.and0) (Z78 vMod (Z79 bInt (Z74 (Z71 25) Z75)) (pure (.int 1000003)))) (X.dcons (pure (.str (Z5k "at"))) (pure (.int 0)) X.dnil))) (Z74 (Z79 (newM 1 2 224 (Y4 560 1 Jg)) Z75) (Z74 (X.dictI 100 (X.dcons (pure (.int 1)) (pure (.int 65535)) X.dnil)) Z75))))
 (Z73 (Y.assignDisp [4,5,6,7] (Z74 (Z79 (callM (Y4 580 2 Xd)) (Z74 (Z71 1) (Z74 (pure (.int 2)) Z75))) (Z74 (Z7h (some 15) Z75) (Z74 (Z7h (some 13) Z75) (Z74 (Z7h (some 14) Z75) Z75)))))
 (Z73 (Y.for 100 (Z79 Ux (Z74 (pure (.int 2)) Z75)) (fun v=>Z72 8 v) (Z73 (Z7e (Z79 (callM (Y4 380 3 W4)) (Z74 (Z71 2) (Z74 (Z71 5) (Z74 (Z71 3) Z75)))))
 (Y.end)))
 (Z73 (Y.for 100 (Z79 Ux (Z74 (Z78 (Nt none) (pure (.int 1)) (Z79 (callM (Y4 580 2 Xd)) (Z74 (Z71 1) (Z74 (pure (.int 2)) Z75)))) Z75)) (fun v=>Z72 8 v) (Z73 (Z7b (X.tnot (X.truth (Z79 (callM (Y4 160 4 Wx)) (Z74 (Z71 1) (Z74 (Z71 2) (Z74 (Z71 5) (Z74 (Z71 3) Z75))))))) (Z73 (Z7f (pure (.bool false)))
 (Y.end)) (Y.end))
 (Y.end)))
 (Z73 (Z7c 9 (Z79 (newM 6 7 112 (Y4 280 3 Jh)) (Z74 (Z71 2) (Z74 (Z71 4) Z75))))
 (Z73 (Y.for 100 (Z79 Ux (Z74 (Z78 (Nt none) (pure (.int 3)) (Z79 (callM (Y4 580 2 Xd)) (Z74 (Z71 1) (Z74 (pure (.int 2)) Z75)))) Z75)) (fun v=>Z72 8 v) (Z73 (Y.assignSwap [12,11,10] (Z74 (Z79 (E1 none) (Z74 (Z77 (Yn 112 (Z5k "clauses")) (Z71 9)) Z75)) (Z74 (Z79 (callM (Y4 170 1 Y7)) (Z74 (Z71 9) Z75)) (Z74 (Z79 (callM (Y4 580 2 Xd)) (Z74 (Z71 1) (Z74 (pure (.int 3)) Z75))) Z75))))
 (Z73 (Z7b ((X.and1 (Z7a (vEq false) (Z71 12) (pure (.int 1))) (X.and1 (X.tnot (X.truth (Z79 (callM (Y4 160 4 Wx)) (Z74 (Z71 1) (Z74 (Z71 2) (Z74 (Z71 5) (Z74 (Z71 3) Z75))))))) X.and0))) (Z73 (Z7f (pure (.bool false)))
 (Y.end)) (Y.end))
 (Z73 (Z7b ((X.and1 (Z7a (vEq false) (Z71 12) (pure (.int 2))) (X.and1 (Z7a vLt (Z71 8) (pure (.int 2))) X.and0))) (Z73 (Z7e (Z79 (callM (Y4 380 3 W4)) (Z74 (Z71 2) (Z74 (Z71 5) (Z74 (Z71 3) Z75)))))
 (Y.end)) (Y.end))
 (Z73 (Z7b ((X.or1 (Z7a (vEq true) (Z77 (Yn 112 (Z5k "clauses")) (Z71 9)) (Z71 10)) (X.or1 (Z7a (vEq true) (Z79 (callM (Y4 170 1 Y7)) (Z74 (Z71 9) Z75)) (Z71 11)) X.or0))) (Z73 (Z7f (pure (.bool false)))
 (Y.end)) (Y.end))
 (Z73 (Z7b ((X.or1 (X.tnot (X.truth (Z79 (callM (Y4 120 6 W1)) (Z74 (Z71 1) (Z74 (Z71 9) (Z74 (Z71 2) (Z74 (Z71 5) (Z74 (Z71 6) (Z74 (Z71 7) Z75))))))))) (X.or1 (X.tnot (X.truth (Z79 (callM (Y4 660 1 We)) (Z74 (Z77 (Yn 112 (Z5k "clauses")) (Z71 9)) Z75)))) X.or0))) (Z73 (Z7f (pure (.bool false)))
 (Y.end)) (Y.end))
 (Z73 (Z7b (X.tnot (X.truth (Z79 (callM (Y4 140 4 W2)) (Z74 (Z71 9) (Z74 (Z71 3) (Z74 (Z71 6) (Z74 (Z71 7) Z75))))))) (Z73 (Z7f (pure (.bool false)))
 (Y.end)) (Y.end))
 (Y.end))))))))
 (Z73 (Z7f (pure (.bool true)))
 (Y.end)))))))
end L01
end Lay
namespace Lay
theorem nle(m n:Nat)(h:m.ble n=true):m<=n:=Z0w h
theorem nlt(m n:Nat)(h:(m+1).ble n=true):m<n:=Z0w h
theorem Wm{i:Int}:un V.int (.int i)=some i:=Ym fun _ _ e=>V.int.inj e
theorem Ib{i:Str}:un V.str (.str i)=some i:=Ym fun _ _ e=>V.str.inj e
theorem Bz{i:List V}:un V.tup (.tup i)=some i:=Ym fun _ _ e=>V.tup.inj e
theorem Z0n{i:List V}:un V.lst (.lst i)=some i:=Ym fun _ _ e=>V.lst.inj e
theorem un_dct{i:List (Int×V)}:un V.dct (.dct i)=some i:=Ym fun _ _ e=>V.dct.inj e
theorem oL{xs ys:List V}(e:O.list xs=O.list ys):xs=ys:=O.list.inj e
theorem oI{xs ys:List (Int×V)}(e:O.idict xs=O.idict ys):xs=ys:=O.idict.inj e
theorem oS{xs ys:List (Str×V)}(e:O.sdict xs=O.sdict ys):xs=ys:=O.sdict.inj e
theorem oT{xs ys:List (List Int×V)}(e:O.tdict xs=O.tdict ys):xs=ys:=O.tdict.inj e
theorem J4{v:List V}{s:St}:Wv (.lst v) s=some v:=ors Z0n
theorem Jm{n:Nat}{xs:List V}{s:St}(h:s.hp n=some (.list xs)):Wv (.ref n) s=some xs:=orn (Yc fun _=>Z7i) (Kh (fun _ _=>oL) h)
theorem X7{n:Nat}{xs:List (Int×V)}{s:St}(h:s.hp n=some (.idict xs)):K4 (.ref n) s=some xs:=orn (Yc fun _=>Z7i) (Kh (fun _ _=>oI) h)
theorem Ec{xs:List (Int×V)}{s:St}:K4 (.dct xs) s=some xs:=ors un_dct
theorem An{n:Nat}{xs:List (Str×V)}{s:St}(h:s.hp n=some (.sdict xs)):Al (.ref n) s=some xs:=Kh (fun _ _=>oS) h
theorem C5{n:Nat}{xs:List (List Int×V)}{s:St}(h:s.hp n=some (.tdict xs)):C4 (.ref n) s=some xs:=Kh (fun _ _=>oT) h
theorem Nn{α:Type}{mk:α->O}{n:Nat}{s:St}{o:O}(h:s.hp n=some o)(k : ∀ a,o≠mk a):((un V.ref (.ref n)).bind s.hp).bind (un mk)=none:=by
 rw [Vx]
 show (s.hp n).bind _=_
 rw [h];exact Yc k
theorem P3{α:Type}{mk:α->O}{v:V}{s:St}(h : ∀ n,v≠ .ref n):((un V.ref v).bind s.hp).bind (un mk)=none:=by
 rw [Yc h];rfl
theorem Qr{v:V}{kvs:List (Int×V)}{s:St}(h:K4 v s=some kvs):(un V.tup v)=none/\Wv v s=none:=by
 rcases oro h with h|h
 ·rw [Zi h];exact⟨Yc fun _=>Z7i,orn (Yc fun _=>Z7i) (P3 fun _=>Z7i)⟩
 ·obtain⟨n,rfl,q⟩:=Wz h;exact⟨Yc fun _=>Z7i,orn (Yc fun _=>Z7i) (Nn q fun _=>O.noConfusion)⟩
section
variable{s:St}{Q:V->St->Prop}{a b:Int}
theorem on_ints{g:Int->Int->M V}:Ng g (.int a) (.int b) s=g a b s:=bs Wm (bs Wm rfl)
theorem W.add{c:Option Nat}(k:Q (.int (a+b)) s):Wp (Nt c (.int a) (.int b)) s Q:=⟨_,_,ors (bs Wm (bs Wm rfl)),k⟩
theorem W.sub(k:Q (.int (a-b)) s):Wp (Kt (.int a) (.int b)) s Q:=⟨_,_,on_ints,k⟩
theorem W.mul(h:a.natAbs<2^63\/b.natAbs<2^63)(k:Q (.int (a*b)) s):Wp (vMul (.int a) (.int b)) s Q:=⟨_,_,on_ints.trans (R.bind (a:=()) (R.guard (by simpa using h)) R.pure),k⟩
theorem W.mod(h:0<b)(k:Q (.int (a%b)) s):Wp (vMod (.int a) (.int b)) s Q:=⟨_,_,on_ints.trans (R.bind (a:=()) (R.guard (decide_eq_true (Z6k h))) R.pure),by rw [Int.fmod_eq_emod_of_nonneg _ (Z68 h)];exact k⟩
theorem W.band(k:Q (.int (Builtin.bitAnd a b)) s):Wp (T1 (.int a) (.int b)) s Q:=⟨_,_,on_ints,k⟩
theorem W.bor(k:Q (.int (Builtin.bitOr a b)) s):Wp (vOr (.int a) (.int b)) s Q:=⟨_,_,on_ints,k⟩
theorem W.lt(k:Q (.bool (decide (a<b))) s):Wp (vLt (.int a) (.int b)) s Q:=⟨_,_,on_ints,k⟩
theorem W.le(k:Q (.bool (decide (a<=b))) s):Wp (vLe (.int a) (.int b)) s Q:=⟨_,_,on_ints,k⟩
theorem W.gt(k:Q (.bool (decide (b<a))) s):Wp (vGt (.int a) (.int b)) s Q:=⟨_,_,on_ints,k⟩
theorem W.neg(k:Q (.int (-a)) s):Wp (Fk (.int a)) s Q:=⟨_,_,bs Wm rfl,k⟩
theorem Kf{g:V->M V}{v:V}(h:Wp (g v) s Q):Wp (one g [v]) s Q:=by
 obtain⟨u,s',h1,h2⟩:=h
 exact⟨u,s',bs un_one h1,h2⟩
theorem W.abs(k:Q (.int a.natAbs) s):Wp (Rg [.int a]) s Q:=Kf ⟨_,_,bs Wm rfl,by
 have:(if a<0 then -a else a)=(a.natAbs:Int):=by
  by_cases h:a<0
  ·rw [if_pos h,Z6q (Z68 h)]
  ·rw [if_neg h,Z6i (Int.not_lt.mp h)]
 rw [this];exact k⟩
theorem W.int(k:Q (.int a) s):Wp (bInt [.int a]) s Q:=Kf ⟨_,_,bs Wm rfl,k⟩
theorem W.len{v:V}{n:Nat}(h:N7 v s=some n)(hl:n<=lim)(k:Q (.int n) s):Wp (T0 [v]) s Q:=Kf ⟨_,_,bs h (if_pos hl),k⟩
theorem W.range1(k:Q (.rng 0 b 1) s):Wp (Ux [.int b]) s Q:=⟨_,_,by
 unfold R Ux
 rw [show un (fun n:Int => [V.int n]) [.int b]=some b from Ym (f:=fun n:Int => [V.int n]) fun _ _ e=>V.int.inj (List.cons.inj e).1];rfl,k⟩
theorem W.range2(k:Q (.rng a b 1) s):Wp (Ux [.int a,.int b]) s Q:=⟨_,_,by
 unfold R Ux
 rw [Yc fun _ h=>List.noConfusion rfl (heq_of_eq (List.cons.inj h).2),show un (fun p:Int×Int => [V.int p.1,V.int p.2]) [.int a,.int b]=some (a,b) from Ym (f:=fun p:Int×Int => [V.int p.1,V.int p.2]) (a:=(a,b)) fun _ _ e=>Z6y (V.int.inj (List.cons.inj e).1) (V.int.inj (List.cons.inj (List.cons.inj e).2).1)];rfl,k⟩
theorem Dc{xs:List V}:N7 (.tup xs) s=some xs.length:=ors (bs Bz rfl)
theorem Kd{v:V}{xs:List V}(h:Wv v s=some xs):N7 v s=some xs.length:=by
 rcases oro h with q|q
 ·rw [Zi q] at h ⊢;exact orn (bn (Yc fun _=>Z7i)) (ors (bs h rfl))
 ·obtain⟨n,rfl,_⟩:=Wz q;exact orn (bn (Yc fun _=>Z7i)) (ors (bs h rfl))
end
theorem lmLe{α β:Type}{f:α->β}{l:List α}{n:Nat}(h:l.length<=n):(l.map f).length<=n:=by rw [Z3g];exact h
theorem lmLt{α β:Type}{f:α->β}{l:List α}{n:Nat}(h:l.length<n):(l.map f).length<n:=by rw [Z3g];exact h
theorem Db{α:Type}{f:α->V}{l:List α}{s:St}:N7 (.lst (l.map f)) s=some l.length:=by rw [Kd J4,Z3g]
theorem Lv{α:Type}{f:α->V}{l:List α}{s:St}{n:Nat}(h:s.hp n=some (.list (l.map f))):N7 (.ref n) s=some l.length:=by rw [Kd (Jm h),Z3g]
end Lay
namespace Lay
section
variable{s:St}{Q:V->St->Prop}{a b:Int}
theorem idx_nat{k:Int}{n:Nat}(h0:0<=k)(h1:k<n):seqIndex? k n=some k.toNat:=by
 unfold seqIndex?
 have : ¬ k<0:=by exact(Int.not_lt.mpr h0)
 simp only [this,if_false]
 rw [if_pos (by simp;exact⟨h0,h1⟩)]
theorem Nm{xs:List V}{k:Int}{u:V}(h0:0<=k)(hk:k<2^40)(hu:xs[k.toNat]?=some u):He k xs s=some (u,s) :=
 have hlt:=(Z2y.mp hu).1
 (if_pos ⟨by exact(Wc (Zd (Xq X0 Zg) (Yv (Wj (Vt 2 63)) Zg)) rfl h0),by exact(Wc (Zd (Xp Zg (Vt 2 40)) (J6 Zg (Vt 2 63))) rfl hk)⟩).trans (bs (idx_nat h0 (by exact(Vg (Zd (Zq Z0 Z1) (Ze (-1) (Yr Zu Zg) (J6 Zg Xm))) rfl hlt (Z6w (Wc (Zd (Xq X0 Zg) (Yv X0 Zg)) rfl h0))))) (bs hu rfl))
theorem Hf{xs:List V}{u:V}(hl:xs.length<2^40)(hu:xs.getLast?=some u):He (-1) xs s=some (u,s):=by
 have h0:0<xs.length:=by cases xs with|nil=>cases hu|cons _ _=>exact Z21 _
 rw [Z39] at hu
 refine(if_pos (by decide)).trans (bs (a:=xs.length-1) ?_ (bs hu rfl))
 unfold seqIndex?
 simp only [show (-1:Int)<0 from by decide,if_true]
 rw [if_pos (by simp;exact⟨(Y2 (Zd (Zq Wt Z0) (Yv X0 (Xb (Wj Xx) Zu))) rfl h0),(Y2 (J6 (Xb (Wj Xx) Zu) Zu) rfl)⟩)]
 rw [Z62];exact congrArg some (Int.toNat_sub xs.length 1)
theorem W.itemT{xs:List V}{k:Int}{u:V}(h0:0<=k)(hk:k<2^40)(hu:xs[k.toNat]?=some u)(q:Q u s):Wp (Yz (.tup xs) (.int k)) s Q :=
 ⟨_,_,ors (bs Wm (ors (bs Bz (Nm h0 hk hu)))),q⟩
theorem W.itemL{v:V}{xs:List V}{k:Int}{u:V}(hv:Wv v s=some xs)(h0:0<=k)(hk:k<2^40)(hu:xs[k.toNat]?=some u)(q:Q u s):Wp (Yz v (.int k)) s Q:=by
 have e:un V.tup v=none:=by
  rcases oro hv with h|h
  ·rw [Zi h];exact Yc fun _=>Z7i
  ·obtain⟨n,rfl,_⟩:=Wz h;exact Yc fun _=>Z7i
 exact⟨_,_,ors (bs Wm (orn (bn e) (ors (bs hv (Nm h0 hk hu))))),q⟩
theorem W.itemD{v:V}{kvs:List (Int×V)}{k:Int}{u:V}(h:K4 v s=some kvs)(hu:Y1 kvs k=some u)(q:Q u s):Wp (Yz v (.int k)) s Q :=
 ⟨_,_,ors (bs Wm (orn (bn (Qr h).1) (orn (bn (Qr h).2) (bs h (bs hu rfl))))),q⟩
theorem W.itemS{n:Nat}{kvs:List (Str×V)}{x:Str}{u:V}(h:s.hp n=some (.sdict kvs))(hu:Y1 kvs x=some u)(q:Q u s):Wp (Yz (.ref n) (.str x)) s Q :=
 ⟨_,_,orn (bn (Yc fun _=>Z7i)) (ors (bs Ib (bs (An h) (bs hu rfl)))),q⟩
theorem W.itemK{n:Nat}{kvs:List (List Int×V)}{l:List Int}{u:V}(h:s.hp n=some (.tdict kvs))(hu:Y1 kvs l=some u)(q:Q u s):Wp (Yz (.ref n) (J0 l)) s Q :=
 ⟨_,_,orn (bn (Yc fun _=>Z7i)) (orn (bn (Yc fun _=>Z7i)) (bs Bz (bs (C5 h) (bs (Kl l) (bs hu rfl))))),q⟩
theorem Mo{K:Type} [DecidableEq K]{mk:List (K×V)->O}(i : ∀ x y,mk x=mk y->x=y){n:Nat}{k:K}{u:V}{kvs:List (K×V)}(h:s.hp n=some (mk kvs))(hl:kvs.length<lim):putK mk n k u s=some ((),{s with hp:=upd s.hp n (some (mk (Y6 kvs k u)))}) :=
 bs (bs h (Ym i)) (if_pos hl)
theorem W.setD{n:Nat}{kvs:List (Int×V)}{x:Int}{u:V}{Q:Unit->St->Prop}(h:s.hp n=some (.idict kvs))(hu:u.low=true)(hl:kvs.length<lim)(k:Q () {s with hp:=upd s.hp n (some (.idict (Y6 kvs x u)))}):Wp (Du (.ref n) (.int x) u) s Q :=
 ⟨_,_,bs Vx ((if_pos hu).trans (ors (bs Wm (Mo (fun _ _=>oI) h hl)))),k⟩
theorem W.setS{n:Nat}{kvs:List (Str×V)}{x:Str}{u:V}{Q:Unit->St->Prop}(h:s.hp n=some (.sdict kvs))(hu:u.low=true)(hl:kvs.length<lim)(k:Q () {s with hp:=upd s.hp n (some (.sdict (Y6 kvs x u)))}):Wp (Du (.ref n) (.str x) u) s Q :=
 ⟨_,_,bs Vx ((if_pos hu).trans (orn (bn (Yc fun _=>Z7i)) (ors (bs Ib (Mo (fun _ _=>oS) h hl))))),k⟩
theorem W.setT{n:Nat}{kvs:List (List Int×V)}{x:List Int}{u:V}{Q:Unit->St->Prop}(h:s.hp n=some (.tdict kvs))(hu:u.low=true)(hl:kvs.length<lim)(k:Q () {s with hp:=upd s.hp n (some (.tdict (Y6 kvs x u)))}):Wp (Du (.ref n) (J0 x) u) s Q :=
 ⟨_,_,bs Vx ((if_pos hu).trans (orn (bn (Yc fun _=>Z7i)) (orn (bn (Yc fun _=>Z7i)) (bs Bz (bs (Kl x) (Mo (fun _ _=>oT) h hl)))))),k⟩
theorem W.inD{neg:Bool}{c:V}{x:Int}{kvs:List (Int×V)}(h:K4 c s=some kvs)(k:Q (.bool ((Y1 kvs x).isSome^^neg)) s):Wp (vIn neg (.int x) c) s Q :=
 ⟨_,_,ors (bs Wm (bs h rfl)),k⟩
theorem W.inT{neg:Bool}{n:Nat}{l:List Int}{kvs:List (List Int×V)}(h:s.hp n=some (.tdict kvs))(k:Q (.bool ((Y1 kvs l).isSome^^neg)) s):Wp (vIn neg (J0 l) (.ref n)) s Q :=
 ⟨_,_,orn (bn (Yc fun _=>Z7i)) (ors (bs Bz (bs (Kl l) (bs Vx (bs (bs h (Ym fun _ _=>oT)) rfl))))),k⟩
theorem Rz(L:List Int):V.pys (L.map .int)=some (L.map .int):=by
 induction L with
 |nil=>rfl
 |cons x r ih=>change (V.py (.int x)).bind (fun d=>(V.pys (r.map .int)).bind fun ds=>some (d::ds))=_;rw [ih];rfl
theorem L6(L:List Int)(x:Int):((L.map PyData.int).any fun y=>PyData.eqv y (.int x))=decide (x∈L):=by
 induction L with
 |nil=>rfl
 |cons y r ih =>
  rw [Z3s,List.any_cons,ih]
  simp only [PyData.eqv,Z3z]
  by_cases h:y=x
  ·subst h;simp
  ·have : ¬ x=y:=fun e=>h e.symm
   simp [h,this]
theorem Fx(a:List Int) : ∀ b,PyData.eqvAll (a.map PyData.int) (b.map PyData.int)=decide (a=b):=by
 induction a with
 |nil=>intro b;cases b<;>rfl
 |cons x a ih =>
  intro b
  cases b with
  |nil=>rfl
  |cons y b=>simp only [Z3s,PyData.eqvAll,PyData.eqv,ih b];by_cases h:x=y<;>simp [h]
theorem Jv{v:V}(h : ∀ n,v≠ .ref n):Va v s=v.py:=by
 unfold Va;rw [P3 h];rfl
theorem Lg{n:Nat}{xs:List V}(h:s.hp n=some (.list xs)):Va (.ref n) s=(V.pys xs).map .list:=by
 unfold Va;rw [Kh (fun _ _=>oL) h];rfl
theorem Qq(L:List Int):Va (.lst (L.map .int)) s=some (.list (L.map .int)):=(Jv fun _=>Z7i).trans (congrArg (Z4z PyData.list) (Rz L))
theorem W.inL{neg:Bool}{x:Int}{L:List Int}(k:Q (.bool (decide (x∈L)^^neg)) s):Wp (vIn neg (.int x) (.lst (L.map .int))) s Q :=
 ⟨_,_,orn ((bs Wm (bn (orn (Yc fun _=>Z7i) (P3 fun _=>Z7i))))) (orn (bn (Yc fun _=>Z7i)) (bs (Jv fun _=>Z7i) (bs (Qq L) (bs (Ym fun _ _=>PyData.list.inj) ((if_pos (by rw [ke_shaped_ints];rfl)).trans (by rw [L6])))))),k⟩
theorem W.eqv{neg:Bool}{u v:V}{d e:PyData}(h1:Va u s=some d)(h2:Va v s=some e)(hd:SeqAt.shaped d=true)(he:SeqAt.shaped e=true)(k:Q (.bool (PyData.eqv d e^^neg)) s):Wp (vEq neg u v) s Q :=
 ⟨_,_,bs h1 (bs h2 (if_pos (by rw [hd,he];rfl))),k⟩
theorem W.eqI{neg:Bool}(k:Q (.bool (decide (a=b)^^neg)) s):Wp (vEq neg (.int a) (.int b)) s Q:=W.eqv (Jv fun _=>Z7i) (Jv fun _=>Z7i) rfl rfl k
theorem W.eqL{neg:Bool}{x y:List Int}(k:Q (.bool (decide (x=y)^^neg)) s):Wp (vEq neg (.lst (x.map .int)) (.lst (y.map .int))) s Q :=
 W.eqv (Qq x) (Qq y) (ke_shaped_ints x) (ke_shaped_ints y) (by rw [show PyData.eqv (.list (x.map .int)) (.list (y.map .int))=_ from Fx x y];exact k)
end
end Lay
namespace Lay
section
variable{s:St}{Q:V->St->Prop}{a b:Int}
theorem W.eqB{neg x y:Bool}(k:Q (.bool ((x==y)^^neg)) s):Wp (vEq neg (.bool x) (.bool y)) s Q:=by
 refine W.eqv (Jv fun _=>Z7i) (Jv fun _=>Z7i) rfl rfl ?_
 simpa only [PyData.eqv] using k
theorem W.eqS{neg:Bool}{x y:Str}(hx:SeqAt.shaped (.str x)=true)(hy:SeqAt.shaped (.str y)=true)(k:Q (.bool ((x==y)^^neg)) s):Wp (vEq neg (.str x) (.str y)) s Q:=by
 refine W.eqv (Jv fun _=>Z7i) (Jv fun _=>Z7i) hx hy ?_
 simpa only [PyData.eqv] using k
theorem I2(RS:List (List Int)):V.pys (RS.map J0)=some (RS.map fun r=>PyData.tuple (r.map PyData.int)):=by
 induction RS with
 |nil=>rfl
 |cons x r ih=>rw [Z3s];unfold V.pys;rw [ih,show V.py (J0 x)=some (.tuple (x.map .int)) from by unfold J0 V.py;rw [Rz];rfl];rfl
theorem A7(RS:List (List Int)):PyData.canLayAll0 (RS.map fun r=>PyData.tuple (r.map PyData.int))=true/\PyData.depthAll (RS.map fun r=>PyData.tuple (r.map PyData.int))<=1:=by
 induction RS with
 |nil=>exact⟨rfl,Z25 _⟩
 |cons r rs ih =>
  simp only [Z3s,PyData.canLayAll0,PyData.depthAll,PyData.canLay0,PyData.depth,ke_canLayAll0,ke_depthAll]
  exact⟨by rw [ih.1];rfl,by lia⟩
theorem Ut(RS:List (List Int)):SeqAt.shaped (.list (RS.map fun r=>PyData.tuple (r.map PyData.int)))=true:=by
 obtain⟨h1,h2⟩:=A7 RS
 simp only [SeqAt.shaped,PyData.canLay0,PyData.depth,h1,Z5y]
 exact decide_eq_true (by lia)
theorem Lj(x:List (List Int)) : ∀ y,PyData.eqvAll (x.map fun r=>PyData.tuple (r.map PyData.int)) (y.map fun r=>PyData.tuple (r.map PyData.int))=decide (x=y):=by
 induction x with
 |nil=>intro y;cases y<;>rfl
 |cons a r ih =>
  intro y
  cases y with
  |nil=>rfl
  |cons b q=>simp only [Z3s,PyData.eqvAll,PyData.eqv,ih q,Fx];by_cases h:a=b<;>simp [h]
theorem B8(L:List (List Int)):Va (.lst (L.map J0)) s=some (.list (L.map fun r=>PyData.tuple (r.map PyData.int))):=(Jv fun _=>Z7i).trans (by unfold V.py;rw [I2];rfl)
theorem W.eqTs{neg:Bool}{x y:List (List Int)}(k:Q (.bool (decide (x=y)^^neg)) s):Wp (vEq neg (.lst (x.map J0)) (.lst (y.map J0))) s Q :=
 W.eqv (B8 x) (B8 y) (Ut x) (Ut y) (by rw [show PyData.eqv (.list _) (.list _)=_ from Lj x y];exact k)
theorem W.isNone{neg:Bool}{v:V}(h:v.isVal=false)(k:Q (.bool (v.isNone^^neg)) s):Wp (Qh neg v .none) s Q:=by
 refine⟨_,_,?_,k⟩
 unfold R Qh
 rw [h];rfl
theorem W6(L:List Int):(L.map V.int).all V.low=true:=by
 induction L with
 |nil=>rfl
 |cons _ _ ih=>exact ih
theorem P6(L:List (List Int)):(L.map J0).all V.low=true:=by
 induction L with
 |nil=>rfl
 |cons _ _ ih=>exact ih
theorem W.addL{v u:V}{x y:List V}(hi:un V.int v=none)(h1:Wv v s=some x)(h2:Wv u s=some y)(hl:(x++y).all V.low=true)(hn:(x++y).length<=lim)(k:Q (.lst (x++y)) s):Wp (Nt none v u) s Q :=
 ⟨_,_,orn (bn hi) (bs h1 (bs h2 (R.mkLst hl hn))),k⟩
theorem W.tuple{v:V}{x:List V}(h1:Wv v s=some x)(hl:x.all V.low=true)(hn:x.length<=lim)(k:Q (.tup x) s):Wp (L7 [v]) s Q:=Kf ⟨_,_,bs h1 (R.mkTup hl hn),k⟩
theorem W.sorted{v:V}{L:List Int}(h1:Jo v s=some (L.map .int))(hn:L.length<64)(k:Q (.lst ((Gj L).map .int)) s):Wp (M9 none [v]) s Q :=
 Kf ⟨_,_,bs h1 (bs (Kl L) ((if_pos hn).trans (R.mkLst (W6 _) (by rw [Z3g,(Uh L).length_eq];exact Z16 (Z0y hn) (by decide))))),k⟩
theorem Lf{v:V}{xs:List V}(ht:un V.tup v=none)(h:Wv v s=some xs):Jo v s=some xs:=orn ht (ors h)
theorem Pm{v:V}{kvs:List (Int×V)}(h:K4 v s=some kvs):Jo v s=some ((kvs.map (·.1)).map .int):=by
 refine orn (Qr h).1 (orn (Qr h).2 (ors (bs h ?_)))
 rw [Z3t];rfl
theorem W.list{v:V}{xs:List V}(h:Jo v s=some xs)(hl:xs.all V.low=true)(hn:xs.length<=lim)(k:Q (.lst xs) s):Wp (E1 none [v]) s Q:=Kf ⟨_,_,bs h (R.mkLst hl hn),k⟩
theorem W.upto{v:V}{x:List V}{k:Int}(h:Wv v s=some x)(hk:0<=k)(hl:x.length<=lim)(hw:x.all V.low=true)(q:Q (.lst (x.take k.toNat)) s):Wp (Mx none v (.int k)) s Q :=
 ⟨_,_,bs h (bs Wm ((if_pos ⟨hk,hl⟩).trans (R.mkLst (Z27.mpr fun u hu=>Z27.mp hw u (Z47 hu)) (Z16 (Z3n _ _) hl)))),q⟩
theorem W.from{v:V}{x:List V}{k:Int}(h:Wv v s=some x)(hk:0<=k)(hl:x.length<=lim)(hw:x.all V.low=true)(q:Q (.lst (x.drop k.toNat)) s):Wp (Z00 none v (.int k)) s Q :=
 ⟨_,_,bs h (bs Wm ((if_pos ⟨hk,hl⟩).trans (R.mkLst (Z27.mpr fun u hu=>Z27.mp hw u (Z46 hu)) (by rw [Z3d];exact(Ye (Zd (Zb Z0 Z1) (Zd (Zb Za Z0) (Zh Za Z1))) rfl hl (Z1v _ _)))))),q⟩
theorem Xu{n:Nat}{xs:List V}(h:s.hp n=some (.list xs)):U9 (.ref n) s=true:=by unfold U9;rw [Jm h];rfl
theorem un_v2{u v:V}:un v2 [u,v]=some (u,v):=Ym (f:=v2) (a:=(u,v)) fun _ _ e=>Z6y (List.cons.inj e).1 (List.cons.inj (List.cons.inj e).2).1
theorem W.app{n:Nat}{xs:List V}{u:V}(h:s.hp n=some (.list xs))(hu:u.low=true)(hl:xs.length<lim)(k:Q .none {s with hp:=upd s.hp n (some (.list (xs ++ [u])))}):Wp (Mk [.ref n,u]) s Q :=
 ⟨_,_,bs un_v2 (bs Vx (bs (bs h (Ym fun _ _=>oL)) (if_pos ⟨hu,hl⟩))),k⟩
theorem W.pop{n:Nat}{xs:List V}{u:V}(h:s.hp n=some (.list (xs ++ [u])))(hl:xs.length<lim)(k:Q u {s with hp:=upd s.hp n (some (.list xs))}):Wp (mPop [.ref n]) s Q :=
 Kf ⟨_,_,bs Vx (bs (bs h (Ym fun _ _=>oL)) (bs Z38 ((if_pos (by simp;lia)).trans (by rw [List.dropLast_concat])))),k⟩
theorem W.extRev{n:Nat}{xs ys:List V}(h:s.hp n=some (.list xs))(hl:(xs++ys).length<lim)(k:Q .none {s with hp:=upd s.hp n (some (.list (xs++ys.reverse)))}):Wp (Rv (.ref n) (.tup ys)) s Q :=
 ⟨_,_,bs Vx (bs Bz (bs (bs h (Ym fun _ _=>oL)) (if_pos hl))),k⟩
theorem W.lenSetI{L:List Int}(hd:L.Nodup)(hl:L.length<=300)(k:Q (.int L.length) s):Wp (M8 (.lst (L.map .int))) s Q:=⟨_,_,bs J4 (ors (bs (Kl L) (if_pos ⟨hd,hl⟩))),k⟩
theorem W.sortedSet{L:List Int}(hd:L.Nodup)(hl:L.length<64)(k:Q (.lst ((Gj L).map .int)) s):Wp (Tf none (.lst (L.map .int))) s Q :=
 ⟨_,_,bs J4 (bs (Kl L) ((if_pos ⟨hd,hl⟩).trans (R.mkLst (W6 _) (by rw [Z3g,(Uh L).length_eq];exact Z16 (Z0y hl) (by decide))))),k⟩
theorem W.dictD{n:Nat}{v:V}{ps:List (Int×V)}(h:K4 v s=some ps)(hl:ps.length<=lim)(hn:s.hp n=none)(k:Q (.ref n) {s with hp:=upd s.hp n (some (.idict ps))}):Wp (E0 n [v]) s Q :=
 Kf ⟨_,_,bs h ((if_pos hl).trans (R.new hn)),k⟩
end
end Lay
namespace Lay
theorem Hh{a b:Int}(h0:a.natAbs<2^40)(h1:b.natAbs<2^40):Builtin.Range.small a b 1=true:=small_one (by exact(J1 (Zd (Zq Z0 (Zo (2^40))) (Zd (Xq (Wj Zg) Zu) (Yv (Wj (Vt 2 62)) Zg))) rfl h0 (fk_na _))) (by exact(J1 (Zd (Zq Z0 (Zo (2^40))) (Zd (Xq Zg Zu) (J6 Zg (Vt 2 62)))) rfl h0 Z67)) (by exact(J1 (Zd (Zq Z0 (Zo (2^40))) (Zd (Xq (Wj Zg) Zu) (Yv (Wj (Vt 2 62)) Zg))) rfl h1 (fk_na _))) (by exact(J1 (Zd (Zq Z0 (Zo (2^40))) (Zd (Xq Zg Zu) (J6 Zg (Vt 2 62)))) rfl h1 Z67))
theorem Uf{a b:Int}{s:St}(h0:a.natAbs<2^40)(h1:b.natAbs<2^40):Yh (.rng a b 1) s=some ((Z4o (b-a).toNat).map fun(i:Nat)=>V.int (a+i)):=by
 have e:Builtin.Range.rangeSize a b 1=((b-a).toNat:Int):=by
  unfold Builtin.Range.rangeSize
  rw [if_pos (by decide)]
  split
  ·rename_i h
   rw [Int.ediv_one,Int.sub_add_cancel];exact(Z6w (Z68 (Z6t h))).symm
  ·rename_i h
   rw [Int.toNat_of_nonpos (Int.sub_nonpos_of_le (Int.not_lt.mp h))];rfl
 rw [seq_rng (Hh h0 h1)]
 unfold Kn
 rw [e,Z6v]
 simp only [Int.mul_one]
theorem Bx{a b:Int}{i:Nat}{x:V}(h:((Z4o (b-a).toNat).map fun(i:Nat)=>V.int (a+i))[i]?=some x):x = .int (a+i)/\a+i<b:=by
 rw [Z30] at h
 obtain⟨y,hy,rfl⟩:=Z50.mp h
 obtain⟨h1,h2⟩:=Z2y.mp hy
 rw [Z36] at h2
 rw [Z3j] at h1
 subst h2
 exact⟨rfl,by lia⟩
theorem Us{v:V}{xs:List V}{s:St}(h:Wv v s=some xs):Yh v s=some xs:=by
 rcases oro h with q|q
 ·have:=Zi q
  subst this
  exact(Mr (fun _=>Z7i) (fun _ _ _=>Z7i)).trans h
 ·obtain⟨n,rfl,_⟩:=Wz q
  exact(Mr (fun _=>Z7i) (fun _ _ _=>Z7i)).trans h
inductive FiltI{α:Type}(s:St)(j j2:Nat)(e:α->V)(p:α->Bool)(RS:List α)(i:Nat)(acc:List V)(s':St):Prop
 |mk (h1:s'.hp=s.hp) (h2 : ∀ k,k≠j->k≠j2->s'.loc k=s.loc k) (h3:acc=((RS.take i).filter p).map e)
theorem W.filt2{α:Type}{RS:List α}{emb e:α->V}{p:α->Bool}{T j:Nat}(j2:Nat){mi:M V}{mt:M Bool}{me:M V}{s:St}{Q:V->St->Prop}{v:V}
  (hi:Wp mi s (fun u s1=>u=v/\s1=s)) (hst:v.stays T=true) (hit : ∀ s':St,s'.hp=s.hp->Yh v s'=some (RS.map emb))
  (ht : ∀ a∈RS,∀ s':St,s'.hp=s.hp->(∀ k,k≠j->k≠j2->s'.loc k=s.loc k)->s'.loc j=some (emb a)->Wp mt s' (fun b s2=>b=p a/\s2.hp=s'.hp/\(∀ k,k≠j2->s2.loc k=s'.loc k)/\s2.loc j=some (emb a)))
  (he : ∀ a∈RS,p a=true->∀ s':St,s'.hp=s.hp->(∀ k,k≠j->k≠j2->s'.loc k=s.loc k)->s'.loc j=some (emb a)->Wp me s' (fun y s2=>y=e a/\s2=s'))
  (low : ∀ a∈RS,(e a).low=true) (len:RS.length<lim) (k : ∀ s':St,s'.hp=s.hp->(∀ k,k≠j->k≠j2->s'.loc k=s.loc k)->Q (.lst ((RS.filter p).map e)) s'):Wp (X.comp none T j mi mt me) s Q:=by
 refine .comp (hi.mono ?_)
 rintro u s1 ⟨rfl,rfl⟩
 refine⟨hst,.compM (xs:=RS.map emb) (FiltI s1 j j2 e p RS) ⟨rfl,fun _ _ _=>rfl,by simp⟩ ?_ ?_ ?_⟩
 ·rintro i acc s' ⟨h,_⟩;exact hit s' h
 ·rintro i acc s' x ⟨a1,a2,a3⟩ hx
  rw [Z30] at hx
  obtain⟨y,hy,rfl⟩:=Z50.mp hx
  have hm:=Z45 hy
  have htk:RS.take (i+1)=RS.take i ++ [y]:=by rw [Z4s,hy];rfl
  have b2 : ∀ k,k≠j->k≠j2->upd s'.loc j (some (emb y)) k=s1.loc k:=fun k hk h2=>by rw [Z5 _ _ hk];exact a2 k hk h2
  refine(ht y hm ⟨upd s'.loc j (some (emb y)),s'.hp⟩ a1 b2 (Z4 _ _ _)).mono ?_
  rintro b s2 ⟨rfl,c1,c2,c3⟩
  have c1:=c1.trans a1
  have c2 : ∀ k,k≠j->k≠j2->s2.loc k=s1.loc k:=fun k q1 q2=>(c2 k q2).trans (b2 k q1 q2)
  refine⟨fun hb=>⟨c1,c2,?_⟩,fun hb=>(he y hm hb s2 c1 c2 c3).mono ?_⟩
  ·rw [htk,Z2n,a3];simp [hb]
  ·rintro z s3 ⟨rfl,rfl⟩
   refine⟨low y hm,?_,c1,c2,?_⟩
   ·rw [a3,Z3g]
    exact Z17 (Z16 (Z3f p _) (Z3n _ _)) len
   ·rw [htk,Z2n,a3];simp [hb]
 ·rintro acc s' ⟨a1,a2,a3⟩
  rw [Z3g,Z4t] at a3
  subst a3
  refine .mkLst ?_ ?_ (k _ a1 fun k hk h2=>by show upd _ _ _ _=_;rw [Z5 _ _ hk];exact a2 k hk h2)
  ·rw [Z27]
   intro x hx
   obtain⟨y,hy,rfl⟩:=Z44.mp hx
   exact low y (List.mem_filter.mp hy).1
  ·rw [Z3g]
   exact Z16 (Z3f _ _) (Z0y len)
theorem W.filt{α:Type}{RS:List α}{emb e:α->V}{p:α->Bool}{T j:Nat}{mi:M V}{mt:M Bool}{me:M V}{s:St}{Q:V->St->Prop}{v:V}
  (hi:Wp mi s (fun u s1=>u=v/\s1=s)) (hst:v.stays T=true) (hit : ∀ s':St,s'.hp=s.hp->Yh v s'=some (RS.map emb))
  (ht : ∀ a∈RS,∀ s':St,s'.hp=s.hp->(∀ k,k≠j->s'.loc k=s.loc k)->s'.loc j=some (emb a)->Wp mt s' (fun b s2=>b=p a/\s2=s'))
  (he : ∀ a∈RS,p a=true->∀ s':St,s'.hp=s.hp->(∀ k,k≠j->s'.loc k=s.loc k)->s'.loc j=some (emb a)->Wp me s' (fun y s2=>y=e a/\s2=s'))
  (low : ∀ a∈RS,(e a).low=true) (len:RS.length<lim) (k : ∀ s':St,s'.hp=s.hp->(∀ k,k≠j->s'.loc k=s.loc k)->Q (.lst ((RS.filter p).map e)) s'):Wp (X.comp none T j mi mt me) s Q :=
 W.filt2 j hi hst hit (fun a ha s' e1 e2 e3=>(ht a ha s' e1 (fun k q=>e2 k q q) e3).mono fun b s2 q=>⟨q.1,by rw [q.2],fun _ _=>by rw [q.2],by rw [q.2];exact e3⟩) (fun a ha hp s' e1 e2 e3=>he a ha hp s' e1 (fun k q=>e2 k q q) e3) low len fun s' e1 e2=>k s' e1 fun k q=>e2 k q q
end Lay
namespace Lay
theorem Ic{β:Type}{f:Nat->Option β}{n:Nat}{b:Option β}(h:f n=b):upd f n b=f:=by
 funext m
 by_cases q:m=n
 ·subst q;rw [Z4,h]
 ·rw [Z5 _ _ q]
theorem un_v3{a b c:V}:un v3 [a,b,c]=some (a,b,c):=Ym (f:=v3) (a:=(a,b,c)) fun x y e=>by
 obtain⟨x1,x2,x3⟩:=x
 obtain⟨y1,y2,y3⟩:=y
 have h1:=List.cons.inj e
 have h2:=List.cons.inj h1.2
 have h3:=List.cons.inj h2.2
 exact Z6y h1.1 (Z6y h2.1 h3.1)
section
variable{s:St}{Q:V->St->Prop}{kvs:List (Int×V)}{n:Nat}{k:Int}{u w:V}
theorem Qx(h:s.hp n=some (.idict kvs)):Qb (.ref n) s=true:=by unfold Qb;rw [X7 h];rfl
theorem N0:Qb (.dct kvs) s=true:=by unfold Qb;rw [Ec];rfl
theorem W.get{v:V}(h:K4 v s=some kvs)(q:Q ((Y1 kvs k).getD u) s):Wp (Dd [v,.int k,u]) s Q :=
 ⟨_,_,bs un_v3 (bs Wm (bs h rfl)),q⟩
theorem W.setDOld(h:s.hp n=some (.idict kvs))(hk:Y1 kvs k=some w)(hu:u.low=true)(hl:kvs.length<lim)(q:Q w s):Wp (Df [.ref n,.int k,u]) s Q :=
 ⟨_,_,bs un_v3 (bs Wm (bs Vx (bs (bs h (Ym fun _ _=>oI)) ((if_pos ⟨hu,hl⟩).trans (by rw [hk];rfl))))),q⟩
theorem W.setDNew(h:s.hp n=some (.idict kvs))(hk:Y1 kvs k=none)(hu:u.low=true)(hl:kvs.length<lim)(q:Q u {s with hp:=upd s.hp n (some (.idict (Y6 kvs k u)))}):Wp (Df [.ref n,.int k,u]) s Q :=
 ⟨_,_,bs un_v3 (bs Wm (bs Vx (bs (bs h (Ym fun _ _=>oI)) ((if_pos ⟨hu,hl⟩).trans (by rw [hk];rfl))))),q⟩
theorem W.col{l:List Int}{i:Nat}{x:Int}(h:l[i]?=some x)(hi:i<2^40)(q:Q (.int x) s):Wp (vCol l (.int i)) s Q:=by
 refine⟨_,_,bs Wm ?_,q⟩
 have hl:=(Z2y.mp h).1
 refine(if_pos ⟨by lia,by exact(Y2 (Zd (Zq Z0 (Zo (2^40))) (J6 Zu (Vt 2 63))) rfl hi)⟩).trans (bs (a:=i) ?_ (bs (a:=.int x) ?_ rfl))
 ·unfold seqIndex?
  rw [if_neg (by lia : ¬ ((i:Int)<0)),if_pos (by simp;exact hl),Z6v]
 ·rw [Z30,h];rfl
end
theorem Ed{xs:List V}:fixV (.lst xs)=some xs:=orn (Yc fun _=>Z7i) Z0n
theorem fix_tup{xs:List V}:fixV (.tup xs)=some xs:=ors Bz
theorem Wp.forE{v:V}{bind:V->M Unit}{body:M Fl}{xs:List V}{s:St}{Q:Fl->St->Prop}(hv:fixV v=some xs)(I:Nat->St->Prop)(h0:I 0 s)
  (step : ∀ i s x,I i s->xs[i]?=some x->Wp (bind (.tup [.int i,x])) s (Qk.then body (Qk.loop (I (i+1)) Q)))
  (last : ∀ s,I xs.length s->Q .next s):Wp (M.forE v bind body) s Q:=by
 have hl:(Mb xs).length=xs.length:=List.length_mapIdx
 rcases Rr (items:=fun _=>some (Mb xs)) (bind:=bind) (body:=body) (xs:=Mb xs) I (fun v s=>Q (.ret v) s) (fun _ _ _=>rfl) (fun i s x hi hx=>by
  rw [B9] at hx
  obtain⟨y,hy,rfl⟩:=Z50.mp hx
  obtain⟨_,s1,h1,f,s2,h2,h3⟩:=step i s y hi hy
  refine⟨s1,s2,f,h1,h2,?_⟩
  cases f with
  |next=>exact .inl ⟨.inl rfl,h3⟩
  |cont=>exact .inl ⟨.inr rfl,h3⟩
  |brk=>exact h3.elim
  |ret v=>exact .inr ⟨v,rfl,h3⟩) (xs.length+1) 0 s (by exact(Ye (Zd (Zj Z0 Z1) (Zd (Zj (Z8 Za Wt) Z0) (Zy Za (Y0 Z1)))) rfl hl (Z1u (Y2 (Zh Wt Z0) rfl)))) h0 (Z25 _) with⟨s',h1,h2⟩|⟨v',s',h1,h2⟩
 ·exact⟨_,_,bs hv h1,last _ (hl▸h2)⟩
 ·exact⟨_,_,bs hv h1,h2⟩
theorem Wp.forEnum{m:M V}{i j:Nat}{mb:M Fl}{s:St}{Q:Fl->St->Prop}(h:Wp m s (fun v s1=>Wp (M.forE v (M.unpack [i,j]) mb) s1 Q)):Wp (Y.forEnum m i j mb) s Q:=.bind h
theorem Wp.unpack2{i j:Nat}{a b:V}{s:St}{Q:Unit->St->Prop}(q:Q () {s with loc:=upd (upd s.loc i (some a)) j (some b)}):Wp (M.unpack [i,j] (.tup [a,b])) s Q:=⟨_,_,rfl,q⟩
theorem Wp.freeze{n:Nat}{m:M Fl}{s:St}{Q:Fl->St->Prop}{kvs:List (Int×V)}(h:s.hp n=some (.idict kvs))(k:Wp m ⟨Bw n (.dct kvs) s.loc,upd s.hp n none⟩ Q):Wp (Y.freeze n m) s Q :=
 .bind ⟨(),_,bs (bs h (Ym fun _ _=>oI)) rfl,k⟩
theorem Wp.move{n n':Nat}{m:M Fl}{s:St}{Q:Fl->St->Prop}{o:O}(h:s.hp n'=some o)(k:Wp m ⟨Bw n' (.ref n) (Kj n s.loc),upd (upd (upd s.hp n none) n' none) n (some o)⟩ Q):Wp (Y.move n n' m) s Q :=
 .bind ⟨(),_,bs h rfl,k⟩
theorem Wp.assignTwo{m1 m2:M V}{b1 b2:V->M Unit}{s:St}{Q:Fl->St->Prop}(h:Wp m1 s (fun u s1=>Wp m2 s1 (fun w s2=>Wp (b1 u) s2 (fun _ s3=>Wp (b2 w) s3 (fun _ s4=>Q .next s4))))):Wp (Y.assignTwo m1 m2 b1 b2) s Q :=
 .bind (h.mono fun _ _ h=>.bind (h.mono fun _ _ h=>.bind (h.mono fun _ _ h=>.bind (h.mono fun _ _ h=>.pure h))))
theorem Wp.tgt{mo mi:M V}{u:V}{s:St}{Q:Unit->St->Prop}(h:Wp mo s (fun v s1=>Wp mi s1 (fun k s2=>Wp (Du v k u) s2 Q))):Wp (Y.tgt mo mi u) s Q:=.bind (h.mono fun _ _ h=>.bind h)
theorem Wp.compD{n i j:Nat}{mt:M Bool}{me:M V}{s:St}{Q:V->St->Prop}{acc:List V}{kvs:List (Int×V)}(h:Q0 n i j mt me s acc kvs)(q:Q (.lst acc) s):Wp (X.compD n i j mt me) s Q:=⟨_,_,E9 h,q⟩
end Lay
namespace Lay
theorem Yk{K:Type} [DecidableEq K]{α:Type}(kvs:List (K×α))(k:K):(Y1 kvs k).isSome=true↔k∈kvs.map (·.1):=by
 rw [<-Xz,List.any_eq_true]
 simp only [Z44,decide_eq_true_eq]
theorem Jk{K:Type} [DecidableEq K]{α:Type}(kvs:List (K×α))(k:K)(v:α):(Y6 kvs k v).map (·.1)=if k∈kvs.map (·.1) then kvs.map (·.1) else kvs.map (·.1) ++ [k]:=by
 unfold Y6
 have e:kvs.any (fun kv=>decide (kv.1=k))=true↔k∈kvs.map (·.1):=by rw [Xz];exact Yk kvs k
 by_cases h:k∈kvs.map (·.1)
 ·rw [if_pos (e.mpr h),if_pos h,Z3t]
  refine Z3r fun kv _=>?_
  simp only [Function.comp]
  split<;>rfl
 ·rw [if_neg (fun q=>h (e.mp q)),if_neg h,Z3q];rfl
theorem Bj{K:Type} [DecidableEq K]{α:Type}(kvs:List (K×α))(k:K)(v:α)(x:K):x∈(Y6 kvs k v).map (·.1)↔x∈kvs.map (·.1)\/x=k:=by
 rw [Jk]
 by_cases h:k∈kvs.map (·.1)
 ·rw [if_pos h];exact⟨.inl,fun q=>q.elim id fun e=>e▸h⟩
 ·rw [if_neg h,Z3w,Z49]
theorem Jt{K:Type} [DecidableEq K]{α:Type}(kvs:List (K×α))(k:K)(v:α)(h:(kvs.map (·.1)).Nodup):((Y6 kvs k v).map (·.1)).Nodup:=by
 rw [Jk]
 by_cases hk:k∈kvs.map (·.1)
 ·rw [if_pos hk];exact h
 ·rw [if_neg hk];exact List.nodup_append.mpr ⟨h,Z4k _ _,fun a ha b hb e=>hk (by rw [<-Z49.mp hb,<-e];exact ha)⟩
theorem Y8{α:Type} [DecidableEq α]{a:List α} : ∀ {b:List α},a.Nodup->(∀ x∈a,x∈b)->a.length<=b.length:=by
 induction a with
 |nil=>intro b _ _;exact Z25 _
 |cons x r ih =>
  intro b h s
  have hx:=s x (Z41 ..)
  have h2:=Z4d.mp h
  have:=ih (b:=b.erase x) h2.2 fun y hy=>(Z42 (by rintro rfl;exact h2.1 hy)).mpr (s y (Z40 _ hy))
  rw [Z3e hx] at this
  have:=Z3i hx
  simp only [Z3c]
  exact(Ye (Zd (Zb Z0 Z1) (Zd (Zj (Y0 Z1) Za) (Zh (Y0 Z0) Za))) rfl (by assumption) (Z1u (Y2 (Zd (Zq Wt Z0) (Zh Yi Z0)) rfl this)))
theorem P7{β:Type}{f:Nat->Option β}{n:Nat}{a b:Option β}:upd (upd f n a) n b=upd f n b:=by funext m;unfold upd;split<;>rfl
end Lay
namespace Lay
namespace L01
noncomputable def Asc(r:List Int):Prop:=r.Pairwise (fun a b=>a.natAbs<b.natAbs)
noncomputable def Hu(L r:List Int):Prop:=(∀ x,x∈r↔x∈L)/\Asc r
noncomputable def Hq(L:List Int):Prop := ∃ x,x∈L/\ -x∈L
theorem Asc.nodup{r:List Int}(h:Asc r):r.Nodup:=h.imp fun q e=>by subst e;exact Nat.lt_irrefl _ q
noncomputable def Oc:Option (List Int)->V
 |none=>.none
 |some r=>J0 r
noncomputable def Res(L:List Int):Option (List Int)->Prop
 |none=>Hq L
 |some r => ¬ Hq L/\Hu L r
theorem Ir{loc:Nat->Option V}{σ:Hp}(hn:Free 620 σ)(ks:List Int):R (Qo (Y4 620 1 Vo) (ks.map .int)) ⟨loc,σ⟩ (ks.map fun x=>pk ((x.natAbs:Int),x)) ⟨loc,σ⟩:=by
 induction ks with
 |nil=>rfl
 |cons x r ih =>
  refine .bind (R.callM (v:=pk ((x.natAbs:Int),x)) (σ':=σ) ?_) (.bind ih .pure)
  obtain⟨v,σ',h1,rfl,rfl⟩:Ws (Y4 620 1 Vo) [.int x] σ (fun v σ'=>v=pk ((x.natAbs:Int),x)/\σ'=σ):=by
   refine Ws.fn rfl ?_
   unfold Vo
   exact .seq (.ret (.tup (.cons (.call (.cons (.getL (v:=.int x) rfl (.nil (W.abs (.cons (.getL (v:=.int x) rfl (.nil (.mkTup rfl (show 2<=lim by decide) ⟨_,_,rfl,Zs fun _=>Z7i,rfl,Yg hn⟩))))))))))))
  exact h1
theorem Hj{ks:List Int}(hnd:ks.Nodup)(hz : ∀ x∈ks,x≠0)(hc : ¬ Hq ks) : ∃ r,Hu ks r/\No ((ks.map fun x=>((x.natAbs:Int),x)).zip (ks.map V.int))=r.map V.int:=by
 have hzip:(ks.map fun x=>((x.natAbs:Int),x)).zip (ks.map V.int)=ks.map fun x=>(((x.natAbs:Int),x),V.int x):=by
  clear hnd hz hc
  induction ks with
  |nil=>rfl
  |cons x r ih=>simp only [Z3s,Z4w,ih]
 unfold No
 rw [hzip]
 have pm:=Z4a (ks.map fun x=>(((x.natAbs:Int),x),V.int x)) (fun a b => !Vk b.1 a.1)
 have pw:=Z4j (le:=fun a b:(Int×Int)×V => !Vk b.1 a.1) (fun a b c h1 h2=>by
    simp only [Z5w,U3] at *;exact ar135 h1 h2) (fun a b=>by
    cases h1:Vk b.1 a.1 with
    |false=>rfl
    |true =>
      rw [Vu] at h1;have:Vk a.1 b.1=false:=by rw [U3];exact ar136 h1
      rw [this];rfl) (ks.map fun x=>(((x.natAbs:Int),x),V.int x))
 generalize (ks.map fun x=>(((x.natAbs:Int),x),V.int x)).mergeSort (fun a b => !Vk b.1 a.1)=l at pm pw
 have hm : ∀ t∈l,t=(((t.1.2.natAbs:Int),t.1.2),V.int t.1.2):=fun t ht=>by
  obtain⟨x,_,rfl⟩:=Z44.mp (pm.mem_iff.mp ht);rfl
 have pm2:(l.map (·.1.2)).Perm ks:=by
  have:=pm.map (·.1.2)
  rw [Z3t] at this
  rwa [show ((fun t:(Int×Int)×V=>t.1.2)∘fun x:Int=>(((x.natAbs:Int),x),V.int x))=id from rfl,List.map_id] at this
 refine⟨l.map (·.1.2),⟨fun x=>pm2.mem_iff,?_⟩,?_⟩
 ·have nd2:=Z4i.mp (pm2.nodup_iff.mpr hnd)
  unfold Asc
  rw [Z4i]
  refine(pw.and nd2).imp_of_mem fun {a b} ha hb h=>?_
  obtain⟨h1,h2⟩:=h
  have ea:=hm a ha
  have eb:=hm b hb
  have ka:a.1.2∈ks:=pm2.mem_iff.mp (Z44.mpr ⟨a,ha,rfl⟩)
  have kb:b.1.2∈ks:=pm2.mem_iff.mp (Z44.mpr ⟨b,hb,rfl⟩)
  have hne:b.1.2≠ -a.1.2:=fun e=>hc ⟨_,ka,e▸kb⟩
  have z1:=hz _ ka
  simp only [Z5w,U3] at h1
  rw [ea,eb] at h1
  simp only at h1
  exact h1.elim (fun h=>Int.ofNat_lt.mp h) fun h=>(Int.natAbs_eq_natAbs_iff.mp (Int.ofNat.inj h.1)).elim (fun w=>absurd w.symm h2) fun w=>absurd w hne
 ·rw [Z3t]
  exact Z3r fun t ht=>by rw [hm t ht];rfl
end L01
end Lay
namespace Lay
namespace L01
inductive ClI(L:List Int)(σ:Hp)(i:Nat)(s:St):Prop
 |mk (h1:s.loc 1=some (.ref 600)) (kvs:List (Int×V)) (h2:s.hp=upd σ 600 (some (.idict kvs))) (nd:(kvs.map (·.1)).Nodup) (hm : ∀ x,x∈kvs.map (·.1)↔x∈L.take i) (hc : ¬ Hq (L.take i))
theorem Vv{L:List V}{s:St}:Yh (.lst L) s=some L:=Us J4
theorem E7{L:List Int}{σ:Hp}(hn:Free 600 σ)(hl:L.length<=5)(hz : ∀ x∈L,x≠0) :
  Ws (Y4 600 1 Uq) [.lst (L.map .int)] σ (fun u σ'=>σ'=σ/\∃ o,Res L o/\u=Oc o):=by
 have lim64:64<lim:=by decide
 refine Ws.fn rfl ?_
 unfold Uq
 refine .seq (.assign (.new (hn 600 (Z12 _)) ?_))
 refine .seq (.for (.getL rfl ⟨rfl,.forS (xs:=L.map .int) (ClI L σ) ⟨rfl,[],rfl,Z4e,fun x=>by simp,fun⟨x,h,_⟩=>by simp at h⟩ (fun _ _ _=>Vv) ?_ ?_⟩))
 ·rintro i s x ⟨h1,kvs,h2,nd,hm,hc⟩ hx
  rw [Z30] at hx
  obtain⟨y,hy,rfl⟩:=Z50.mp hx
  have htk:L.take (i+1)=L.take i ++ [y]:=by rw [Z4s,hy];rfl
  have hz2:y≠0:=hz y (Z45 hy)
  have hk:s.hp 600=some (.idict kvs):=by rw [h2,Z4]
  refine .setL (.seq (.ite (.tcmp (.op1 (.getL (v:=.int y) rfl (W.neg (.getL (v:=.ref 600) h1 (W.inD (X7 hk) (.asBool ⟨fun hb=>?_,fun hb=>.end ?_⟩)))))))))
  ·rw [Z5z] at hb
   refine .seq (.ret (.pure ⟨.none,.none,rfl,Zs fun _=>Z7i,?_,none,⟨y,Z45 hy,Z47 ((hm _).mp ((Yk _ _).mp hb))⟩,rfl⟩))
   show cut 600 s.hp=σ
   rw [h2];exact B7 hn (Z12 _)
  ·rw [Z5z] at hb
   have hno : -y∉L.take i:=fun q=>Bool.noConfusion (hb.symm.trans ((Yk kvs (-y)).mpr ((hm _).mpr q)))
   have hkl:kvs.length<lim:=by
    have:=Y8 nd (b:=L) fun x hx=>Z47 ((hm x).mp hx)
    rw [Z3g] at this;exact(Z1h (Z17 (Z16 this hl) (nlt 5 64 rfl)) lim64)
   refine .seq (.assignSub (.pure (.getL (v:=.ref 600) h1 (.getL (v:=.int y) rfl (W.setD hk rfl hkl (.end ⟨h1,Y6 kvs y (.bool true),?_,Jt _ _ _ nd,fun x=>?_,?_⟩))))))
   ·show upd s.hp _ _=_
    rw [h2,P7]
   ·rw [Bj,hm,htk,Z3w,Z49]
   ·rintro⟨x,hx1,hx2⟩
    rw [htk,Z3w,Z49] at hx1 hx2
    rcases hx1 with hx1|rfl<;>rcases hx2 with hx2|hx2
    ·exact hc ⟨x,hx1,hx2⟩
    ·exact hno (by rwa [<-hx2,Z6o])
    ·exact hno hx2
    ·omega
 ·rintro s ⟨h1,kvs,h2,nd,hm,hc⟩
  rw [Z3g,Z4t] at hm hc
  have hk:s.hp 600=some (.idict kvs):=by rw [h2,Z4]
  have hkl:(kvs.map (·.1)).length<=L.length:=Y8 nd fun x hx=>(hm x).mp hx
  have hf:Free 620 s.hp:=by rw [h2];exact(hn.mono (by decide)).upd (by decide)
  obtain⟨r,hr1,hr2⟩:=Hj nd (fun x hx=>hz x ((hm x).mp hx)) (fun⟨x,h1,h2⟩=>hc ⟨x,(hm _).mp h1,(hm _).mp h2⟩)
  have hrl:r.length<=L.length:=Y8 hr1.2.nodup fun x hx=>(hm x).mp ((hr1.1 x).mp hx)
  have run:R (Qn none (Y4 620 1 Vo) (.ref 600)) s (.lst (r.map .int)) s:=by
   refine bs (Pm (X7 hk)) ((if_pos (by rw [Z3g];exact(Z17 (Z16 hkl hl) (nlt 5 6 rfl)))).trans (bs (Ir (loc:=s.loc) hf _) (bs (a:=(kvs.map (·.1)).map fun x=>((x.natAbs:Int),x)) ?_ ((if_pos ?_).trans ?_))))
   ·have:=Ry ((kvs.map (·.1)).map fun x=>((x.natAbs:Int),x))
    rwa [Z3t (g:=pk)] at this
   ·rw [List.nodup_iff_pairwise_ne,Z4i]
    exact nd.imp fun h e=>h (Prod.mk.inj e).2
   ·rw [hr2]
    exact R.mkLst (W6 _) (by rw [Z3g];exact(Z0y (Z1h (Z17 (Z16 hrl hl) (nlt 5 64 rfl)) lim64)))
  refine .seq (.ret (.call (.cons (.sortedK (.getL h1 (Wp.ofR run (.nil (W.tuple J4 (W6 _) (by rw [Z3g];exact(Z0y (Z1h (Z17 (Z16 hrl hl) (nlt 5 64 rfl)) lim64))) ⟨_,_,rfl,Zs fun _=>Z7i,?_,some r,⟨hc,fun x=>(hr1.1 x).trans (hm x),hr1.2⟩,rfl⟩))))))))
  show cut 600 s.hp=σ
  rw [h2];exact B7 hn (Z12 _)
end L01
end Lay
namespace Lay
namespace L01
inductive G where
 |non|tru|inp|and (ps:List Int)
noncomputable def G.kind:G->Str
 |.non=>Z5k ""
 |.tru=>Z5k "true"
 |.inp=>Z5k "input"
 |.and _=>Z5k "and"
noncomputable def G.parts:G->List Int
 |.and ps=>ps
 |_ => []
structure CircR(K P:List V)(kn:List (List Int×V))(σ:Hp):Prop where
 i:σ 1=some (.inst 224 2)
 a:σ 2=some (.attrs [(Z5k "kinds",.ref 3),(Z5k "parts_now",.ref 4),(Z5k "known",.ref 5)])
 k:σ 3=some (.list K)
 p:σ 4=some (.list P)
 n:σ 5=some (.tdict kn)
noncomputable abbrev Yp(gs:List G)(kn:List (List Int×V))(σ:Hp):Prop:=CircR (gs.map fun g=>V.str g.kind) (gs.map fun g=>J0 g.parts) kn σ
noncomputable def Fr5(σ σ':Hp):Prop := ∀ n,n≠3->n≠4->n≠5->σ' n=σ n
theorem Fr5.refl(σ:Hp):Fr5 σ σ:=fun _ _ _ _=>rfl
theorem Fr5.free{a b:Hp}{B:Nat}(h:Fr5 a b)(hf:Free B a)(hB:5<B):Free B b:=fun n hn=>(h n (by exact(Z1n (Z1a (Z1h (nlt 3 5 rfl) hB) hn))) (by exact(Z1n (Z1a (Z1h (nlt 4 5 rfl) hB) hn))) (by exact(Z1n (Z1a hB hn)))).trans (hf n hn)
theorem CircR.mono{K P:List V}{kn:List (List Int×V)}{σ τ:Hp}(h:CircR K P kn σ)(e : ∀ n,n<=5->τ n=σ n):CircR K P kn τ :=
 ⟨(e 1 (by decide)).trans h.i,(e 2 (by decide)).trans h.a,(e 3 (by decide)).trans h.k,(e 4 (by decide)).trans h.p,(e 5 (by decide)).trans h.n⟩
section
variable{K P:List V}{kn:List (List Int×V)}{s:St}{Q:V->St->Prop}
noncomputable abbrev kvC:List (Str×V) := [(Z5k "kinds",.ref 3),(Z5k "parts_now",.ref 4),(Z5k "known",.ref 5)]
theorem Fy(h:CircR K P kn s.hp):K9 (.ref 1) s=some (224,kvC):=Qa h.i h.a
theorem Ja{Cl:Addr}{name:Str}{v u:V}{kvs:List (Str×V)}(h:K9 v s=some (Cl,kvs))(hu:Y1 kvs name=some u)(hv:u.isVal=false)(k:Q u s):Wp (Yn Cl name v) s Q :=
 ⟨_,_,bs h ((if_pos rfl).trans (bs hu (if_neg (by rw [hv];exact Z5t)))),k⟩
theorem Tn{Cl:Addr}{name:Str}{v:V}{kvs:List (Str×V)}(h:K9 v s=some (Cl,kvs))(hu:Y1 kvs name=none):Y9 Cl name v s=true:=by
 unfold Y9
 rw [h]
 show (decide (Cl=Cl)&&(Y1 kvs name).isNone)=true
 rw [hu,decide_eq_true rfl];rfl
theorem W.kinds(h:CircR K P kn s.hp)(k:Q (.ref 3) s):Wp (Yn 224 (Z5k "kinds") (.ref 1)) s Q:=Ja (Fy h) (by rfl) rfl k
theorem W.partsNow(h:CircR K P kn s.hp)(k:Q (.ref 4) s):Wp (Yn 224 (Z5k "parts_now") (.ref 1)) s Q:=Ja (Fy h) (by rfl) rfl k
theorem W.known(h:CircR K P kn s.hp)(k:Q (.ref 5) s):Wp (Yn 224 (Z5k "known") (.ref 1)) s Q:=Ja (Fy h) (by rfl) rfl k
theorem okC(h:CircR K P kn s.hp){name:Str}(e:Y1 kvC name=none):Y9 224 name (.ref 1) s=true:=Tn (Fy h) e
end
end L01
end Lay
namespace Lay
namespace L01
variable{gs:List G}{kn:List (List Int×V)}{σ:Hp}
theorem size_ws(h:Yp gs kn σ)(hl:gs.length<=1000)(hn:Free 540 σ):Ws (Y4 540 1 Jx) [.ref 1] σ (fun v σ'=>v = .int (gs.length-1)/\σ'=σ):=by
 refine Ws.fn rfl ?_
 unfold Jx
 refine .seq (.ret (.op2 (.call (.cons (.op1 (.getL (v:=.ref 1) rfl (W.kinds h (.nil (W.len (n:=gs.length) ?_ ?_ (.pure (W.sub ⟨_,_,rfl,Zs fun _=>Z7i,rfl,Yg hn⟩)))))))))))
 ·rw [Kd (Jm h.k),Z3g]
 ·exact Z16 hl (by decide)
theorem Qd{g:Int}{x:G}(h:Yp gs kn σ)(hg:gs[g.natAbs]?=some x)(hl:gs.length<=1000)(hn:Free 520 σ):Ws (Y4 520 2 Y3) [.ref 1,.int g] σ (fun v σ'=>v = .str x.kind/\σ'=σ):=by
 have hlt:=(Z2y.mp hg).1
 refine Ws.fn rfl ?_
 unfold Y3
 refine .seq (.ret (.op2 (.op1 (.getL (v:=.ref 1) rfl (W.kinds h (.call (.cons (.getL (v:=.int g) rfl (.nil (W.abs (W.itemL (u:=.str x.kind) (Jm h.k) (Z6j _) (by exact(Zw (Zd (Zb Z0 (Zo 1000)) (Zd (Zq Z1 Z0) (J6 Xm (Vt 2 40)))) rfl hl hlt)) (by rw [Z6v,Z30,hg];rfl) ⟨_,_,rfl,Zs fun _=>Z7i,rfl,Yg hn⟩)))))))))))
theorem Gc{g:Int}{x:G}(h:Yp gs kn σ)(hg:gs[g.natAbs]?=some x)(hl:gs.length<=1000)(hn:Free 500 σ):Ws (Y4 500 2 X5) [.ref 1,.int g] σ (fun v σ'=>v=J0 x.parts/\σ'=σ):=by
 have hlt:=(Z2y.mp hg).1
 refine Ws.fn rfl ?_
 unfold X5
 refine .seq (.ret (.op2 (.op1 (.getL (v:=.ref 1) rfl (W.partsNow h (.call (.cons (.getL (v:=.int g) rfl (.nil (W.abs (W.itemL (u:=J0 x.parts) (Jm h.p) (Z6j _) (by exact(Zw (Zd (Zb Z0 (Zo 1000)) (Zd (Zq Z1 Z0) (J6 Xm (Vt 2 40)))) rfl hl hlt)) (by rw [Z6v,Z30,hg];rfl) ⟨_,_,rfl,Zs fun _=>Z7i,rfl,Yg hn⟩)))))))))))
theorem To(x:G)(h:Yp gs kn σ)(hl:gs.length<=1000)(hn:Free 480 σ):Ws (Y4 480 3 X8) [.ref 1,.str x.kind,J0 x.parts] σ (fun v σ'=>v = .int gs.length/\Yp (gs ++ [x]) kn σ'/\Fr5 σ σ'):=by
 have l1000:1001<lim:=by decide
 refine Ws.fn rfl ?_
 unfold X8
 refine .seq (.expr (.meth (.op1 (.getL (v:=.ref 1) rfl (W.kinds h ⟨Xu h.k,.cons (.getL (v:=.str x.kind) rfl (.nil (W.app h.k rfl (lmLt (by exact(Z1h (Z17 hl (nlt 1000 1001 rfl)) l1000))) ?_)))⟩)))))
 have h2:CircR ((gs ++ [x]).map fun g=>V.str g.kind) (gs.map fun g=>J0 g.parts) kn (upd σ 3 (some (.list ((gs.map fun g=>V.str g.kind) ++ [.str x.kind])))):=⟨h.i,h.a,by rw [Z4,Z3q];rfl,h.p,h.n⟩
 have f2:Fr5 σ (upd σ 3 (some (.list ((gs.map fun g=>V.str g.kind) ++ [.str x.kind])))):=fun n h1 h2 h3=>by rw [Z5 _ _ h1]
 dsimp only
 generalize upd σ 3 (some (.list ((gs.map fun g=>V.str g.kind) ++ [.str x.kind])))=σ2 at h2 f2
 refine .seq (.expr (.meth (.op1 (.getL (v:=.ref 1) rfl (W.partsNow h2 ⟨Xu h2.p,.cons (.getL (v:=J0 x.parts) rfl (.nil (W.app h2.p rfl (lmLt (by exact(Z1h (Z17 hl (nlt 1000 1001 rfl)) l1000))) ?_)))⟩)))))
 have h3:Yp (gs ++ [x]) kn (upd σ2 4 (some (.list ((gs.map fun g=>J0 g.parts) ++ [J0 x.parts])))):=⟨h2.i,h2.a,h2.k,by rw [Z4,Z3q];rfl,h2.n⟩
 have f3:Fr5 σ (upd σ2 4 (some (.list ((gs.map fun g=>J0 g.parts) ++ [J0 x.parts])))):=fun n h1 h2 h3=>by rw [Z5 _ _ h2];exact f2 n h1 h2 h3
 dsimp only
 generalize upd σ2 4 (some (.list ((gs.map fun g=>J0 g.parts) ++ [J0 x.parts])))=σ3 at h3 f3
 refine .seq (.ret (.op2 (.call (.cons (.op1 (.getL (v:=.ref 1) rfl (W.kinds h3 (.nil (W.len (n:=gs.length+1) ?_ (by lia) (.pure (W.sub ⟨_,_,rfl,Zs fun _=>Z7i,?_⟩)))))))))))
 ·rw [Kd (Jm h3.k),Z3g,Z3b];rfl
 ·dsimp only
  rw [Yg (f3.free hn (by decide))]
  exact⟨by congr 1;lia,h3,f3⟩
theorem Eu(h:Yp gs kn σ)(hl:gs.length<=1000)(hn:Free 460 σ):Ws (Y4 460 1 W7) [.ref 1] σ (fun v σ'=>v = .int gs.length/\Yp (gs ++ [.inp]) kn σ'/\Fr5 σ σ'):=by
 refine Ws.fn rfl ?_
 unfold W7
 refine .seq (.ret (.meth (.getL (v:=.ref 1) rfl ⟨okC h (by rfl),.cons (.pure (.cons (.tup (.nil (.mkTup rfl (Z25 _) (.nil (.callM ((To .inp h hl (hn.mono (by decide))).mono ?_))))))))⟩)))
 rintro v σ' ⟨rfl,h2,h3⟩
 refine⟨_,_,rfl,Zs fun _=>Z7i,?_⟩
 dsimp only
 rw [Yg (h3.free hn (by decide))]
 exact⟨rfl,h2,h3⟩
end L01
end Lay
namespace Lay
namespace L01
noncomputable def evG(f:Nat->Bool)(T:List Bool):G->Bool
 |.non=>false
 |.tru=>true
 |.inp=>f T.length
 |.and ps=>ps.all fun p=>(T[p.natAbs]?).getD false==decide (0<p)
noncomputable def tr(f:Nat->Bool)(gs:List G):List Bool:=gs.foldl (fun T x=>T ++ [evG f T x]) []
theorem P5(f:Nat->Bool)(gs:List G)(x:G):tr f (gs ++ [x])=tr f gs ++ [evG f (tr f gs) x]:=by unfold tr;rw [Z2p];rfl
theorem By(f:Nat->Bool)(gs:List G):(tr f gs).length=gs.length:=by
 suffices h : ∀ n (gs:List G),gs.length=n->(tr f gs).length=n from h _ gs rfl
 intro n
 induction n with
 |zero=>intro gs h;rw [Z2i h];rfl
 |succ n ih =>
  intro gs h
  rcases Z2j gs with rfl|⟨q,x,rfl⟩
  ·cases h
  ·rw [Z2a] at h ⊢
   rw [P5,Z3b,ih q (by simpa using h)];rfl
theorem C6(f:Nat->Bool){gs:List G}{i:Nat}{x:G}(h:gs[i]?=some x):tr f (gs.take (i+1))=tr f (gs.take i) ++ [evG f (tr f (gs.take i)) x]:=by
 rw [Z4s,h];exact P5 _ _ _
theorem Uu(f:Nat->Bool){gs:List G}{i:Nat}(h:i<=gs.length):(tr f (gs.take i)).length=i:=by
 rw [By,Z3m];exact(Zw (Zd (Zj Z0 Z1) (J9 Z0 Z1)) rfl (Z1j (Zw (Zd (Zb Z0 Z1) (Zh Z0 Z1)) rfl h)))
theorem Z0k(f:Nat->Bool){gs:List G}{j:Nat}(hj:j<gs.length) : ∀ n,j<n->n<=gs.length->(tr f (gs.take n))[j]?=(tr f (gs.take (j+1)))[j]?:=by
 intro n
 induction n with
 |zero=>intro h;lia
 |succ n ih =>
  intro h1 h2
  by_cases e:n=j
  ·subst e;rfl
  ·have hx:gs[n]?=some gs[n]:=Z2v h2
   rw [C6 f hx,Z2r (by rw [Uu f (by exact ar8 h2)];omega)]
   exact ih (by omega) (by exact ar8 h2)
noncomputable def val(f:Nat->Bool)(gs:List G)(i:Nat):Bool:=((tr f gs)[i]?).getD false
theorem I9(f:Nat->Bool){gs:List G}{j n:Nat}(hj:j<n)(hn:n<=gs.length):(tr f (gs.take n))[j]?=some (val f gs j):=by
 have hl:j<(tr f gs).length:=by rw [By];exact(Z1a hj hn)
 have e:(tr f gs)[j]?=some (tr f gs)[j]:=Z2v hl
 have h1:=Z0k f (gs:=gs) (by exact(Z1a hj hn)) n hj hn
 have h2:=Z0k f (gs:=gs) (j:=j) (by exact(Z1a hj hn)) gs.length (by exact(Z1a hj hn)) (Z12 _)
 rw [Z4t] at h2
 unfold val
 rw [h1,<-h2,e];rfl
theorem Nx(f:Nat->Bool){gs:List G}{i:Nat}{x:G}(h:gs[i]?=some x):val f gs i=evG f (tr f (gs.take i)) x:=by
 have hl:=(Z2y.mp h).1
 have h1:=I9 f (gs:=gs) (j:=i) (n:=i+1) (by omega) (by lia)
 rw [C6 f h,Z2s (by rw [Uu f (by exact(Z0y hl))];exact(Z12 _)),Uu f (by exact(Z0y hl)),Z1y] at h1
 exact(Z54 h1).symm
theorem val_inp(f:Nat->Bool){gs:List G}{i:Nat}(h:gs[i]?=some .inp):val f gs i=f i:=by
 have hl:=(Z2y.mp h).1
 rw [Nx f h];unfold evG;rw [Uu f (by exact(Z0y hl))]
theorem Ih(f:Nat->Bool){gs t:List G}{j:Nat}(hj:j<gs.length):val f (gs++t) j=val f gs j:=by
 have h1:=I9 f (gs:=gs++t) (j:=j) (n:=gs.length) hj (by rw [Z3b];exact Z0u _ _)
 have h2:=I9 f (gs:=gs) (j:=j) (n:=gs.length) hj (Z12 _)
 rw [List.take_append_of_le_length (Z12 _)] at h1
 exact Z54 (h1.symm.trans h2)
end L01
end Lay
namespace Lay
namespace L01
noncomputable def Yes(τ:Nat->Bool)(x:Int):Prop:=τ x.natAbs=decide (0<x)
theorem Yes.neg{τ:Nat->Bool}{x:Int}(h:x≠0):Yes τ (-x)↔¬ Yes τ x:=by
 unfold Yes
 rw [Z6h]
 by_cases q:0<x
 ·rw [decide_eq_true q,decide_eq_false (show ¬ 0 < -x by lia)];cases τ x.natAbs<;>simp
 ·rw [decide_eq_false q,decide_eq_true (show 0 < -x by exact((Z6b h).elim (Wc (Zd (Xp Zg X0) (J6 X0 (Wj Zg))) rfl) (Wc (Ze 2 (Qu X0 Zg) (Zd (Xp X0 Zg) (J6 X0 (Wj Zg)))) rfl q)))];cases τ x.natAbs<;>simp
structure PsOk(i:Nat)(ps:List Int):Prop where
 two:2<=ps.length
 four:ps.length<=4
 lt : ∀ p∈ps,2<=p.natAbs/\p.natAbs<i
 ne:ps.Pairwise fun a b=>a.natAbs≠b.natAbs
inductive Well(i:Nat):G->Prop
 |non (h:i=0):Well i .non
 |tru (h:i=1):Well i .tru
 |inp (h:2<=i):Well i .inp
 |and (h:2<=i) {ps:List Int} (k:PsOk i ps):Well i (.and ps)
structure COk(gs:List G)(kn:List (List Int×V)):Prop where
 len:2<=gs.length
 well : ∀ i x,gs[i]?=some x->Well i x
 known : ∀ ps u,Y1 kn ps=some u->∃ i:Nat,u = .int i/\gs[i]?=some (.and ps)
 knl:kn.length<=gs.length
variable{gs:List G}{kn:List (List Int×V)}
theorem COk.add{ps:List Int}(h:COk gs kn)(hp:PsOk gs.length ps):COk (gs ++ [.and ps]) (Y6 kn ps (.int gs.length)):=by
 refine⟨by rw [Z3b];exact Z16 h.len (Z0u _ _),fun i x hx=>?_,fun qs u hu=>?_,?_⟩
 ·by_cases hi:i<gs.length
  ·rw [Z2r hi] at hx;exact h.well i x hx
  ·have hl:=(Z2y.mp hx).1
   rw [Z3b] at hl
   obtain rfl:i=gs.length:=Z0v (Z0z hl) (Z10 hi)
   rw [Z2s (Z12 _),Z1y] at hx
   obtain rfl:G.and ps=x:=Z54 hx
   exact .and h.len hp
 ·rw [Xe] at hu
  by_cases e:qs=ps
  ·rw [if_pos e] at hu
   exact⟨_,(Z54 hu).symm,by rw [Z2s (Z12 _),Z1y,e];rfl⟩
  ·rw [if_neg e] at hu
   obtain⟨i,h1,h2⟩:=h.known _ _ hu
   exact⟨i,h1,by rw [Z2r (Z2y.mp h2).1];exact h2⟩
 ·have:=Wu kn ps (.int gs.length)
  have:=h.knl
  rw [Z3b]
  exact Z16 (Wu _ _ _) (Z20 h.knl)
theorem COk.parts{i:Nat}{ps:List Int}(h:COk gs kn)(hi:gs[i]?=some (.and ps)):2<=i/\PsOk i ps:=by
 cases h.well i _ hi with
 |and a b=>exact⟨a,b⟩
theorem Ca(h:COk gs kn)(f:Nat->Bool){i:Nat}{ps:List Int}(hi:gs[i]?=some (.and ps)):val f gs i=true↔∀ p∈ps,Yes (val f gs) p:=by
 have hl:=(Z2y.mp hi).1
 rw [Nx f hi]
 unfold evG
 rw [Z27]
 refine forall_congr' fun p=>forall_congr' fun hp=>?_
 rw [I9 f (gs:=gs) ((h.parts hi).2.lt p hp).2 (Z0y hl),beq_iff_eq]
 rfl
end L01
end Lay
namespace Lay
namespace L01
theorem Fr5.cut{B:Nat}{σ τ:Hp}{o:Option O}(h:Fr5 (upd σ B o) τ)(hn:Free B σ)(hB:5<B):Fr5 σ (cut B τ):=fun n h1 h2 h3=>by
 unfold Lay.cut
 by_cases q:n<B
 ·rw [if_pos q,h n h1 h2 h3,Z5 _ _ (Z1o q)]
 ·rw [if_neg q];exact(hn n (Z10 q)).symm
theorem CircR.cut{K P:List V}{kn:List (List Int×V)}{B:Nat}{τ:Hp}(h:CircR K P kn τ)(hB:5<B):CircR K P kn (cut B τ):=h.mono fun n hn=>if_pos (Z17 hn hB)
inductive Hs(gs:List G)(P:(Nat->Bool)->Prop)(d:Nat)(σ:Hp)(v:V)(σ':Hp):Prop
 |mk (g:Int) (t:List G) (kn':List (List Int×V)) (h1:v = .int g) (h2:1<=g.natAbs) (h3:g.natAbs<(gs++t).length) (h4:COk (gs++t) kn') (h5:Yp (gs++t) kn' σ') (h6:Fr5 σ σ') (h7:t.length<=d) (nw:t = []\/∃ ps,t = [.and ps]/\g=gs.length)
   (sem : ∀ f,Yes (val f (gs++t)) g↔P f)
theorem val_tru{gs:List G}{kn:List (List Int×V)}(h:COk gs kn)(f:Nat->Bool):val f gs 1=true:=by
 have hl:1<gs.length:=Z1a (by decide) h.len
 have hx:gs[1]?=some gs[1]:=Z2v hl
 have w:=h.well 1 _ hx
 generalize gs[1]=x at hx w
 cases w with
 |non q=>exact absurd q (by decide)
 |tru _=>rw [Nx f hx];rfl
 |inp q=>exact absurd q (by decide)
 |and q _=>exact absurd q (by decide)
theorem My{gs:List G}{kn:List (List Int×V)}(h:COk gs kn)(f:Nat->Bool):Yes (val f gs) 1:=by
 unfold Yes;rw [show (1:Int).natAbs=1 from rfl,val_tru h];rfl
theorem Z0i{gs:List G}{kn:List (List Int×V)}(h:COk gs kn)(f:Nat->Bool) : ¬ Yes (val f gs) (-1):=fun q=>(Yes.neg (by decide)).mp q (My h f)
theorem Yes.take{gs t:List G}{f:Nat->Bool}{x:Int}(h:x.natAbs<gs.length):Yes (val f (gs++t)) x↔Yes (val f gs) x:=by unfold Yes;rw [Ih f h]
inductive AllI(v:V)(L:List Int)(σ:Hp)(i:Nat)(s:St):Prop
 |mk (h1:s.loc 0=some (.ref 1)) (h2:s.loc 1=some v) (h3:s.loc 2=some (.ref 440)) (kvs:List (Int×V)) (h4:s.hp=upd σ 440 (some (.idict kvs))) (nd:(kvs.map (·.1)).Nodup) (km : ∀ x,x∈kvs.map (·.1)↔x∈L.take i/\x≠1)
   (no : ∀ x∈kvs.map (·.1),x≠ -1/\ -x∉kvs.map (·.1))
end L01
end Lay
namespace Lay
namespace L01
variable{gs:List G}{kn:List (List Int×V)}{σ:Hp}
theorem Ck{v:V}{L:List Int}(h:Yp gs kn σ)(ok:COk gs kn)(hl:gs.length<=900)(hn:Free 440 σ)(hst:v.stays 440=true)(hit : ∀ s:St,Yh v s=some (L.map .int))(hL:L.length<=4)(hg : ∀ x∈L,1<=x.natAbs/\x.natAbs<gs.length) :
  Ws (Y4 440 2 Jf) [.ref 1,v] σ (Hs gs (fun f => ∀ x∈L,Yes (val f gs) x) 1 σ):=by
 have l1000:1001<lim:=by decide
 have l5:=ok.len
 refine Ws.fn rfl ?_
 unfold Jf
 refine .seq (.assign (.new (hn 440 (Z12 _)) ?_))
 refine .seq (.for (.getL (v:=v) rfl ⟨hst,.forS (xs:=L.map .int) (AllI v L σ) ⟨rfl,rfl,rfl,[],rfl,Z4e,fun x=>by simp,fun _ h=>nomatch h⟩ (fun _ s _=>hit s) ?_ ?_⟩))
 ·rintro i s x ⟨a0,a1,a2,kvs,a3,a4,km,no⟩ hx
  rw [Z30] at hx
  obtain⟨y,hy,rfl⟩:=Z50.mp hx
  have hyL:=Z45 hy
  have y1:=(hg y hyL).1
  have htk:L.take (i+1)=L.take i ++ [y]:=by rw [Z4s,hy];rfl
  have hk:s.hp 440=some (.idict kvs):=by rw [a3,Z4]
  have hkl:kvs.length<=L.length:=by have:=Y8 a4 (b:=L) fun x hx=>Z47 ((km x).mp hx).1;rwa [Z3g] at this
  have stop:(∀ f,¬ ∀ x∈L,Yes (val f gs) x)->∃ v v',flV (.ret (.int (-1)))=some v/\Ud 440 v s.hp=some v'/\Hs gs (fun f => ∀ x∈L,Yes (val f gs) x) 1 σ v' (cut 440 s.hp):=fun w=>by
   refine⟨_,_,rfl,Zs fun _=>Z7i,-1,[],kn,rfl,by decide,by rw [Z29];show 1<_;exact(Z1a (nlt 1 2 rfl) l5),by rw [Z29];exact ok,?_,?_,Z25 _,.inl rfl,fun f=>⟨fun q=>?_,fun q=>absurd q (w f)⟩⟩
   ·rw [a3,B7 hn (Z12 _),Z29];exact h
   ·rw [a3,B7 hn (Z12 _)];exact Fr5.refl _
   ·rw [Z29] at q;exact absurd q (Z0i ok f)
  refine .setL (.seq (.ite (.or1 (.tcmp (.getL (v:=.int y) rfl (.op1 (.pure (W.neg (W.eqI (.asBool ⟨fun hb=>⟨fun _=>.seq (.ret (.op1 (.pure (W.neg (stop fun f q=>?_))))),nofun⟩,fun hb=>?_⟩))))))))))
  ·have hb:y = -1:=by simpa using hb
   subst hb
   exact Z0i ok f (q _ hyL)
  have hb:y≠ -1:=by simpa using hb
  refine .or1 (.tcmp (.op1 (.getL (v:=.int y) rfl (W.neg (.getL (v:=.ref 440) a2 (W.inD (X7 hk) (.asBool ⟨fun hc=>⟨fun _=>.seq (.ret (.op1 (.pure (W.neg (stop fun f q=>?_))))),nofun⟩,fun hc=>.or0 ⟨nofun,fun _=>.end ?_⟩⟩)))))))
  ·rw [Z5z] at hc
   have h1:=(km _).mp ((Yk _ _).mp hc)
   exact(Yes.neg (by lia)).mp (q _ (Z47 h1.1)) (q _ hyL)
  rw [Z5z] at hc
  have hno : -y∉kvs.map (·.1):=fun q=>Bool.noConfusion (hc.symm.trans ((Yk _ _).mpr q))
  refine .seq (.ite (.tcmp (.getL (v:=.int y) rfl (.pure (W.eqI (.asBool ⟨fun hb2=>?_,fun hb2=>.end (.end ⟨a0,a1,a2,kvs,a3,a4,fun x=>?_,no⟩)⟩))))))
  ·have hb2:y≠1:=by simpa using hb2
   refine .seq (.assignSub (.pure (.getL (v:=.ref 440) a2 (.getL (v:=.int y) rfl (W.setD hk rfl (by exact(Z1h (Z17 (Z16 hkl hL) (nlt 4 1001 rfl)) l1000)) (.end (.end ⟨a0,a1,a2,Y6 kvs y (.bool true),by dsimp only;rw [a3,P7],Jt _ _ _ a4,fun x=>?_,fun x hx=>?_⟩)))))))
   ·rw [Bj,km,htk,Z3w,Z49]
    constructor
    ·rintro(⟨q1,q2⟩|rfl)
     ·exact⟨.inl q1,q2⟩
     ·exact⟨.inr rfl,hb2⟩
    ·rintro⟨q|q,q2⟩
     ·exact .inl ⟨q,q2⟩
     ·exact .inr q
   ·rw [Bj] at hx ⊢
    rcases hx with q|rfl
    ·exact⟨(no x q).1,fun w=>w.elim (no x q).2 fun e=>hno (by rw [<-e,Z6o];exact q)⟩
    ·exact⟨hb,fun w=>w.elim hno fun e=>by exact(J1 (Ze 2 (Zb Yi Z0) (Ze (-1) (Yr (Wj Zg) Zg) (Ze 2 (Yr Zu Zg) (Xn 1 Ho)))) rfl y1 e (Z6i (Wc (Zd (Yr (Wj Zg) Zg) (Xn 1 (Yv X0 Zg))) rfl e)))⟩
  ·have hb2:y=1:=by simpa using hb2
   rw [km,htk,Z3w,Z49]
   exact⟨fun q=>⟨.inl q.1,q.2⟩,fun q=>⟨q.1.elim id fun e=>absurd (e.trans hb2) q.2,q.2⟩⟩
 ·rintro s ⟨a0,a1,a2,kvs,a3,a4,km,no⟩
  rw [Z3g,Z4t] at km
  have hk:s.hp 440=some (.idict kvs):=by rw [a3,Z4]
  have hkl:(kvs.map (·.1)).length<=L.length:=Y8 a4 fun x hx=>((km x).mp hx).1
  have pm:=Uh (kvs.map (·.1))
  have nd:=pm.nodup_iff.mpr a4
  have sl:=pm.length_eq
  refine .seq (.assign (.call (.cons (.call (.cons (.getL (v:=.ref 440) a2 (.nil (W.sorted (Pm (X7 hk)) (by exact(Z17 (Z16 hkl hL) (nlt 4 64 rfl))) (.nil (W.tuple J4 (W6 _) (lmLe (by exact(Xw (Ze 501 (Zb Z0 Xi) (Ze 2 (Zq (Zo 1001) Z1) (Ze 501 (Zb Za Z0) (Ze 501 (Zj Zp Za) (Xn 500 (Zh Zp Z1)))))) rfl hL l1000 hkl sl))) ?_))))))))))
  have sm : ∀ x,x∈Gj (kvs.map (·.1))↔x∈L/\x≠1:=fun x=>pm.mem_iff.trans (km x)
  have no' : ∀ x∈Gj (kvs.map (·.1)),x≠ -1/\ -x∉Gj (kvs.map (·.1)):=fun x hx=>⟨(no x (pm.mem_iff.mp hx)).1,fun q=>(no x (pm.mem_iff.mp hx)).2 (pm.mem_iff.mp q)⟩
  generalize Gj (kvs.map (·.1))=ps at sm sl nd no'
  have pl:ps.length<=4:=by exact(Z16 (Z16 (Z0x sl) hkl) hL)
  have pg : ∀ p∈ps,2<=p.natAbs/\p.natAbs<gs.length:=fun p hp=>by
   have q1:=hg p ((sm p).mp hp).1
   have q2:=((sm p).mp hp).2
   have q3:=(no' p hp).1
   lia
  have psem : ∀ f,(∀ x∈L,Yes (val f gs) x)↔∀ p∈ps,Yes (val f gs) p:=fun f=>⟨fun q p hp=>q p ((sm p).mp hp).1,fun q x hx=>by
   by_cases e:x=1
   ·rw [e];exact My ok f
   ·exact q x ((sm x).mpr ⟨hx,e⟩)⟩
  have h':Yp gs kn s.hp:=h.mono fun n q=>by rw [a3,Z5 _ _ (by exact(Z1o (Z17 q (nlt 5 440 rfl))))]
  have fin : ∀ g:Int,1<=g.natAbs->g.natAbs<gs.length->(∀ f,Yes (val f gs) g↔∀ p∈ps,Yes (val f gs) p)->∃ v v',flV (.ret (.int g))=some v/\Ud 440 v s.hp=some v'/\Hs gs (fun f => ∀ x∈L,Yes (val f gs) x) 1 σ v' (cut 440 s.hp):=fun g q1 q2 q3=>by
   refine⟨_,_,rfl,Zs fun _=>Z7i,g,[],kn,rfl,q1,by rwa [Z29],by rwa [Z29],by rw [Z29];exact h'.cut (by decide),?_,Z25 _,.inl rfl,fun f=>?_⟩
   ·rw [a3,B7 hn (Z12 _)];exact Fr5.refl _
   ·rw [Z29,psem f];exact q3 f
  have tail : ∀ (t:List G) (kn':List (List Int×V)) (τ:Hp) (loc:Nat->Option V),Yp (gs++t) kn' τ->COk (gs++t) kn'->Fr5 s.hp τ->t.length<=1->(t = []\/∃ ps',t = [.and ps']/\Y1 kn' ps=some (.int gs.length))->(Y1 kn' ps).isSome=true->loc 0=some (.ref 1)->loc 4=some (J0 ps)->
    Wp (Z73 (Z7f (Z78 Yz (Z77 (Yn 224 (Z5k "known")) (Z71 0)) (Z71 4))) (Y.end)) ⟨loc,τ⟩ (Qk.fn 440 (Hs gs (fun f => ∀ x∈L,Yes (val f gs) x) 1 σ)):=fun t kn' τ loc c1 c2 c3 c5 c9 c6 c7 c8=>by
   obtain⟨u,hu⟩:=Option.isSome_iff_exists.mp c6
   obtain⟨i,rfl,hi⟩:=c2.known _ _ hu
   have i1:=(c2.parts hi).1
   refine .seq (.ret (.op2 (.op1 (.getL (v:=.ref 1) c7 (W.known c1 (.getL (v:=J0 ps) c8 (W.itemK c1.n hu ⟨_,_,rfl,Zs fun _=>Z7i,i,t,kn',rfl,by exact(Y2 (Zd (Zb Ys Z0) (Xn 1 (Zh Yi Z0))) rfl i1),(Z2y.mp hi).1,c2,c1.cut (by decide),?_,c5,c9.imp id fun⟨ps',q1,q2⟩=>⟨ps',q1,V.int.inj (Z54 (hu.symm.trans q2))⟩,fun f=>?_⟩)))))))
   ·refine Fr5.cut (o:=s.hp 440) ?_ hn (by decide)
    intro n q1 q2 q3
    dsimp only
    rw [c3 n q1 q2 q3,hk,a3]
   ·refine Iff.trans ?_ (((Ca c2 f hi).trans (forall_congr' fun p=>forall_congr' fun hp=>Yes.take (pg p hp).2)).trans (psem f).symm)
    unfold Yes
    rw [Z6g,decide_eq_true (show 0<(i:Int) by lia)]
  have rest:2<=ps.length->∀ loc:Nat->Option V,loc 0=some (.ref 1)->loc 4=some (J0 ps)->Wp (Z73 (Z7b (Z7a (vIn true) (Z71 4) (Z77 (Yn 224 (Z5k "known")) (Z71 0))) (Z73 (Z7d (Z76 (Y9 224 (Z5k "new_gate")) (callM (Y4 480 3 X8)) (Z71 0) (Z74 (pure (.str (Z5k "and"))) (Z74 (Z71 4) Z75))) (Z77 (Yn 224 (Z5k "known")) (Z71 0)) (Z71 4))
 (Y.end)) (Y.end))
 (Z73 (Z7f (Z78 Yz (Z77 (Yn 224 (Z5k "known")) (Z71 0)) (Z71 4)))
 (Y.end))) ⟨loc,s.hp⟩ (Qk.fn 440 (Hs gs (fun f => ∀ x∈L,Yes (val f gs) x) 1 σ)):=fun p2 loc c7 c8=>by
   refine .seq (.ite (.tcmp (.getL (v:=J0 ps) c8 (.op1 (.getL (v:=.ref 1) c7 (W.known h' (W.inT h'.n (.asBool ⟨fun hb=>?_,fun hb=>.end (tail [] kn _ _ (by rw [Z29];exact h') (by rw [Z29];exact ok) (Fr5.refl _) (Z25 _) (.inl rfl) (by simpa using hb) c7 c8)⟩))))))))
   refine .seq (.assignSub (.meth (.getL (v:=.ref 1) c7 ⟨okC h' (by rfl),.cons (.pure (.cons (.getL (v:=J0 ps) c8 (.nil (.callM ((To (.and ps) h' (by exact(Z16 hl (nle 900 1000 rfl))) (by rw [a3];exact(hn.mono (by decide)).upd (by decide))).mono ?_))))))⟩)))
   rintro _ τ ⟨rfl,h5,f5⟩
   have k1:=ok.knl
   refine .op1 (.getL (v:=.ref 1) c7 (W.known h5 (.getL (v:=J0 ps) c8 (W.setT h5.n rfl (by exact(Z1h (Z17 (Z16 k1 hl) (nlt 900 1001 rfl)) l1000)) (.end (tail [.and ps] (Y6 kn ps (.int gs.length)) (upd τ 5 (some (.tdict (Y6 kn ps (.int gs.length))))) loc ⟨h5.i,h5.a,h5.k,h5.p,Z4 _ _ _⟩ (ok.add ⟨p2,pl,pg,?_⟩) (fun n q1 q2 q3=>by rw [Z5 _ _ q3];exact f5 n q1 q2 q3) (Z12 _) (.inr ⟨_,rfl,by rw [Xe,if_pos rfl]⟩) (by rw [Xe,if_pos rfl];rfl) c7 c8))))))
   refine nd.imp_of_mem fun {a b} ha hb q e=>?_
   rcases Int.natAbs_eq_natAbs_iff.mp e with w|w
   ·exact q w
   ·exact(no' b hb).2 (w▸ha)
  refine .seq (.ite (.tcmp (.call (.cons (.getL (v:=J0 ps) rfl (.nil (W.len (n:=ps.length) (by rw [show J0 ps = .tup (ps.map .int) from rfl,Dc,Z3g]) (by exact(Z0y (Z1h (Z17 pl (nlt 4 1001 rfl)) l1000))) (.pure (W.lt (.asBool ⟨fun hb=>?_,fun hb=>.end (rest (by simp at hb;lia) _ a0 rfl)⟩))))))))))
  have hb:ps.length<2:=by have:=of_decide_eq_true hb;lia
  refine .seq (.ret (.ife (.tcmp (.call (.cons (.getL (v:=J0 ps) rfl (.nil (W.len (n:=ps.length) (by rw [show J0 ps = .tup (ps.map .int) from rfl,Dc,Z3g]) (by exact(Z0y (Z1h (Z17 pl (nlt 4 1001 rfl)) l1000))) (.pure (W.eqI (.asBool ⟨fun hb2=>?_,fun hb2=>.pure (fin 1 (by decide) (by show 1<_;exact(Z1a (nlt 1 2 rfl) l5)) fun f=>?_)⟩)))))))))))
  ·have hb2:ps.length=1:=by simp at hb2;lia
   obtain⟨p,rfl⟩:=len1 hb2
   have pg:=pg p (Z49.mpr rfl)
   exact .op2 (.getL (v:=J0 [p]) rfl (.pure (W.itemT (u:=.int p) (by decide) (by decide) rfl (fin p (by exact(Z16 (nle 1 2 rfl) pg.1)) pg.2 fun f=>by simp))))
  ·obtain rfl:ps = []:=Z2i (by simp at hb2;exact(Z0v ((Z6b hb2).elim (Y2 (Zd (Xp Zu Xx) (Zh Z0 Wt)) rfl) (Y2 (Ze 2 (Zq Z0 Ys) (Zd (Xp Xx Zu) (Zh Z0 Wt))) rfl hb)) (Y2 (Zh Wt Z0) rfl)))
   exact iff_of_true (My ok f) fun _ q=>nomatch q
end L01
end Lay
namespace Lay
namespace L01
variable{gs:List G}{kn:List (List Int×V)}{σ:Hp}{a b:Int}
theorem V3{L:List Int}(s:St):Yh (.tup (L.map .int)) s=some (L.map .int):=Dr
noncomputable abbrev In(gs:List G)(a:Int):Prop:=1<=a.natAbs/\a.natAbs<gs.length
theorem In.neg{gs:List G}{a:Int}(h:In gs a):In gs (-a):=by unfold In;rw [Z6h];exact h
theorem In.app{gs t:List G}{a:Int}(h:In gs a):In (gs++t) a:=⟨h.1,by rw [Z3b];exact Z1a h.2 (Z0u _ _)⟩
noncomputable def upK(n:Nat):List Int:=(Z4o n).map fun i=>((i+1:Nat):Int)
theorem upK_mem{k i:Nat}:((i:Nat):Int)∈upK k↔1<=i/\i<=k:=by
 unfold upK
 rw [Z44]
 constructor
 ·rintro⟨j,hj,e⟩;rw [Z48] at hj;exact⟨(Zw (Zd (Yr (Xh (Y0 Z0)) Xm) (Zh Yi Z1)) rfl e),(Ye (Zd (Zq Z0 Z1) (Ze (-1) (Yr (Xh (Y0 Z0)) Qt) (Zh Za Z1))) rfl hj e)⟩
 ·rintro⟨h1,h2⟩;exact⟨i-1,Z48.mpr (by lia),by omega⟩
theorem upK_succ{k:Nat}:upK (k+1)=upK k ++ [((k+1:Nat):Int)]:=by unfold upK;rw [List.range_succ,Z3q];rfl
end L01
end Lay
namespace Lay
namespace L01
noncomputable def Msk(P:Nat->Prop)(m:Nat):Prop:=m<2^16/\∀ r,r<16->(m.testBit r=true↔P r)
theorem Msk.eq{P:Nat->Prop}{m k:Nat}(h:Msk P m)(h':Msk P k):m=k:=by
 refine Z0r fun i=>?_
 by_cases q:i<16
 ·exact Bool.eq_iff_iff.mpr ((h.2 i q).trans (h'.2 i q).symm)
 ·have q:2^16<=2^i:=Z1s (by decide) (Z10 q)
  rw [Z22 (Z1a h.1 q),Z22 (Z1a h'.1 q)]
theorem Msk.iff{P Q:Nat->Prop}{m:Nat}(h:Msk P m)(k : ∀ r,r<16->(P r↔Q r)):Msk Q m:=⟨h.1,fun r q=>(h.2 r q).trans (k r q)⟩
section
variable{P Q:Nat->Prop}{m k:Nat}(h:Msk P m)(h':Msk Q k)
include h
theorem Msk.not:Msk (fun r => ¬ P r) (65535-m):=by
 have e:65535-m=2^16-(m+1):=(Nat.sub_add_eq 65536 1 m).symm.trans (congrArg (65536 - ·) (Nat.add_comm 1 m))
 refine⟨Z17 (Z1v 65535 m) (by decide),fun r q=>?_⟩
 rw [e,Nat.testBit_two_pow_sub_succ h.1]
 show _↔¬ P r
 rw [<-h.2 r q];simp [q]
include h'
theorem Msk.and:Msk (fun r=>P r/\Q r) (m&&&k):=⟨Nat.and_lt_two_pow _ h'.1,fun r q=>by rw [Nat.testBit_and,Z5q,h.2 r q,h'.2 r q]⟩
theorem Msk.or:Msk (fun r=>P r\/Q r) (m|||k):=⟨Z1r h.1 h'.1,fun r q=>by rw [Z23,Z5x,h.2 r q,h'.2 r q]⟩
end
theorem Mm{a:Nat}:Builtin.bitNot (a:Int)=Z6m a:=by
 show -(a:Int)-1=_
 rw [Int.negSucc_eq,Int.neg_add];rfl
theorem Mn{a:Nat}:Builtin.bitNot (Z6m a)=a:=by
 show -Z6m a-1=_
 rw [Int.neg_negSucc];exact Int.add_sub_cancel (a:Int) 1
theorem Ma{a b:Nat}:Builtin.bitOr a b=((a|||b:Nat):Int):=by
 unfold Builtin.bitOr
 rw [Mm,Mm]
 show Builtin.bitNot (Builtin.bitNot (((Builtin.bitNot (Z6m a)).toNat|||(Builtin.bitNot (Z6m b)).toNat:Nat):Int))=_
 rw [Mn,Mn,Mm,Mn];rfl
theorem Ju{a b:Nat}:Builtin.bitAnd a b=((a&&&b:Nat):Int):=rfl
noncomputable def mkOf(kvs:List (Int×V))(i:Nat):Nat:=((Y1 kvs (i:Int)).bind (un V.int)).elim 0 Z6u
noncomputable def row(kvs:List (Int×V))(r i:Nat):Bool:=(mkOf kvs i).testBit r
theorem mkOf_eq{kvs:List (Int×V)}{i m:Nat}(h:Y1 kvs (i:Int)=some (.int m)):mkOf kvs i=m:=by
 unfold mkOf;rw [h];show ((un V.int (.int (m:Int))).elim 0 Z6u)=m;rw [Wm];exact Z6v m
theorem msk_all:Msk (fun _=>True) 65535:=⟨by decide,fun r h=>⟨fun _=>trivial,fun _=>by
 have e:(65535:Nat)=2^16-1:=by decide
 rw [e,Z24];exact decide_eq_true h⟩⟩
theorem msk_none:Msk (fun _=>False) 0:=⟨by decide,fun r _=>⟨(fun q=>by rw [Z26] at q;cases q),False.elim⟩⟩
end L01
end Lay
namespace Lay
namespace L01
noncomputable def Hc(xs:List Int)(k:Int):O:=.sdict [(Z5k "cells",.lst (xs.map .int)),(Z5k "at",.int k)]
theorem Tt{xs:List Int}{k:Int}:Y1 [(Z5k "cells",V.lst (xs.map .int)),(Z5k "at",.int k)] (Z5k "cells")=some (.lst (xs.map .int)):=by rw [Yx,if_pos rfl]
theorem F8{xs:List Int}{k:Int}:Y1 [(Z5k "cells",V.lst (xs.map .int)),(Z5k "at",.int k)] (Z5k "at")=some (.int k):=by rw [Yx,if_neg (by decide),Yx,if_pos rfl]
theorem Am{xs:List Int}{k:Int}:Y6 [(Z5k "cells",V.lst (xs.map .int)),(Z5k "at",.int k)] (Z5k "at") (.int (k+1)) = [(Z5k "cells",V.lst (xs.map .int)),(Z5k "at",.int (k+1))]:=by
 have e1:Z5k "cells" ≠Z5k "at" :=by decide
 unfold Y6;simp [e1]
inductive Sack(xs:List Int)(n:Nat)(σ:Hp):Prop
 |mk (k:Int) (h0:0<=k) (h1:k<=n) (h:σ 101=some (Hc xs k))
theorem Sack.weak{xs:List Int}{n m:Nat}{σ:Hp}(h:Sack xs n σ)(q:n<=m):Sack xs m σ:=by
 obtain⟨k,h0,h1,h2⟩:=h;exact⟨k,h0,by exact(Vg (Zd (Zb Z0 Z1) (Zd (Xq Zg Zu) (Yv Zg Xm))) rfl q h1),h2⟩
theorem Sack.at{xs:List Int}{n:Nat}{σ τ:Hp}(h:Sack xs n σ)(q:τ 101=σ 101):Sack xs n τ:=by
 obtain⟨k,h0,h1,h2⟩:=h;exact⟨k,h0,h1,q.trans h2⟩
noncomputable def FrS(σ σ':Hp):Prop := ∀ m,m≠101->σ' m=σ m
theorem FrS.free{B:Nat}{σ σ':Hp}(h:FrS σ σ')(hf:Free B σ)(hB:101<B):Free B σ':=fun n hn=>(h n (by exact(Z1n (Z1a hB hn)))).trans (hf n hn)
theorem FrS.trans{a b c:Hp}(h:FrS a b)(k:FrS b c):FrS a c:=fun m q=>(k m q).trans (h m q)
theorem Kg{xs:List Int}{many:Int}{n:Nat}{σ:Hp}(hc:Sack xs n σ)(hk:n<2^39)(hl:xs.length<=60)(hm:0<many)(hn:Free 580 σ) :
  Ws (Y4 580 2 Xd) [.ref 101,.int many] σ (fun v σ' => ∃ r,v = .int r/\0<=r/\r<many/\Sack xs (n+1) σ'/\FrS σ σ'):=by
 obtain⟨k,h0,h1,h⟩:=hc
 refine Ws.fn rfl ?_
 unfold Xd
 refine .seq (.assignSub (.op2 (.op2 (.getL (v:=.ref 101) rfl (.pure (W.itemS h F8 (.pure (W.add (.getL (v:=.ref 101) rfl (.pure (W.setS h rfl (show 2<lim by decide) ?_)))))))))))
 rw [Am]
 have h2:(upd σ 101 (some (Hc xs (k+1)))) 101=some (Hc xs (k+1)):=Z4 _ _ _
 have fin : ∀ r:Int,0<=r->r<many->∃ v v',flV (.ret (.int r))=some v/\Ud 580 v (upd σ 101 (some (Hc xs (k+1))))=some v'/\∃ r,v' = .int r/\0<=r/\r<many/\Sack xs (n+1) (cut 580 (upd σ 101 (some (Hc xs (k+1)))))/\FrS σ (cut 580 (upd σ 101 (some (Hc xs (k+1))))):=fun r a b=>by
  refine⟨_,_,rfl,Zs fun _=>Z7i,r,rfl,a,b,?_,fun m hm=>?_⟩
  ·rw [Yg (hn.upd (by decide))]
   exact⟨k+1,by exact ar27 h0,by exact(J1 (Zd (Xq Zg Zu) (Yv (Xb Zg Xx) (Xh (Y0 Z0)))) rfl h1),h2⟩
  ·rw [Yg (hn.upd (by decide)),Z5 _ _ hm]
 refine .seq (.ite (.tcmp (.op2 (.getL (v:=.ref 101) rfl (.pure (W.itemS h2 F8 (.call (.cons (.op2 (.getL (v:=.ref 101) rfl (.pure (W.itemS h2 Tt (.nil (W.len (Kd J4) ?_ (W.le (.asBool ⟨fun hb=>?_,fun hb=>.end ?_⟩))))))))))))))))
 ·rw [Z3g];exact Z16 hl (by decide)
 ·have hb:=of_decide_eq_true hb
  rw [Z3g] at hb
  have hj:k.toNat<xs.length:=by exact(Vg (Zd (Xq (Xb Zg Xx) Zu) (Zd (Yr Xm Zg) (Zy Z1 Z0))) rfl hb (Z6w (Wc (Zd (Xq X0 Zg) (Yv X0 Zg)) rfl h0)))
  refine .seq (.ret (.op2 (.op2 (.op2 (.getL (v:=.ref 101) rfl (.pure (W.itemS h2 Tt (.op2 (.op2 (.getL (v:=.ref 101) rfl (.pure (W.itemS h2 F8 (.pure (W.sub (W.itemL (u:=.int xs[k.toNat]) J4 (by lia) (by exact(J1 (Zd (Zq Z0 (Zo (2^39))) (Zd (Xq Zg Zu) (J6 (Yl (Xb Zg Xx) Xx) (Vt 2 40)))) rfl hk h1)) ?_ (.getL (v:=.int many) rfl (W.mod hm (fin _ (Z66 _ (Z6k hm)) (Z65 _ hm)))))))))))))))))))
  rw [show k+1-1=k by lia,Z30,Z2v hj];rfl
 ·refine .seq (.ret (.op2 (.op2 (.op2 (.op2 (.op2 (.op2 (.pure (.op2 (.getL (v:=.ref 101) rfl (.pure (W.itemS h2 F8 (W.mul (.inl (by decide)) (.op2 (.getL (v:=.ref 101) rfl (.pure (W.itemS h2 F8 (W.mul (.inr (by exact(Vg (Zd (Zq Z0 (Zo (2^39))) (Zd (Xq Zg Zu) (Zd (Yr Xm (Xb Zg Xx)) (Zy Z1 (Zo (2^63)))))) rfl hk h1 (Z6i (Wc (Zd (Xq X0 Zg) (Yv X0 (Xb Zg Xx))) rfl h0))))) (.op2 (.pure (.op2 (.getL (v:=.ref 101) rfl (.pure (W.itemS h2 F8 (W.mul (.inl (by decide)) (W.add (.pure (W.add (.pure (W.mod (by decide) (.getL (v:=.int many) rfl (W.mod hm (fin _ (Z66 _ (Z6k hm)) (Z65 _ hm))))))))))))))))))))))))))))))))))
theorem Dw{xs L:List Int}{n:Nat}{σ:Hp}{v:V}(hc:Sack xs n σ)(hl:n+2<2^39)(hx:xs.length<=60)(hv : ∀ s:St,FrS σ s.hp->Wv v s=some (L.map .int))(p0:0<L.length)(pl:L.length<=60)(hn:Free 570 σ) :
  Ws (Y4 570 2 Jj) [.ref 101,v] σ (fun u σ' => ∃ g p,u = .int g/\p∈L/\g.natAbs=p.natAbs/\Sack xs (n+2) σ'/\FrS σ σ'):=by
 have l1000:1001<lim:=by decide
 have ln:N7 v ⟨fun i => [V.ref 101,v][i]?,σ⟩=some L.length:=by rw [Kd (hv _ fun _ _=>rfl),Z3g]
 refine Ws.fn rfl ?_
 unfold Jj
 refine .seq (.assign (.op2 (.getL (v:=v) rfl (.op2 (.op2 (.call (.cons (.getL (v:=v) rfl (.nil (W.len ln (by exact(Z0y (Z1h (Z17 pl (nlt 60 1001 rfl)) l1000))) (.pure (W.sub (.call (.cons (.getL (v:=.ref 101) rfl (.cons (.call (.cons (.getL (v:=v) rfl (.nil (W.len ln (by exact(Z0y (Z1h (Z17 pl (nlt 60 1001 rfl)) l1000))) (.nil (.callM ((Kg hc (by lia) hx (by lia) (hn.mono (by decide))).mono ?_))))))))))))))))))))))))
 rintro _ σ1 ⟨r,rfl,r0,r1,c1,f1⟩
 obtain⟨k,hk⟩ : ∃ k:Nat,(L.length:Int)-1-r=k:=⟨_,(Z6w (by lia)).symm⟩
 have hk2:k<L.length:=by exact(Vg (Zd (Xq X0 Zg) (Ze (-1) (Yr (Yl (Yl Zu Xx) Zg) Xm) (Zy Z1 Z0))) rfl r0 hk)
 refine W.sub (W.itemL (u:=.int L[k]) (hv _ f1) (by exact(J1 (Zd (Xp Zg Zu) (Yv X0 (Yl (Yl Zu Xx) Zg))) rfl r1)) (by exact(Vg (Zd (Zb Z0 (Zo 60)) (Zd (Yr (Yl (Yl Zu Xx) Zg) Xm) (Zd (Zq Z1 Z0) (J6 (Yl (Yl Zu Xx) Zg) (Vt 2 40))))) rfl pl hk hk2)) ?_ ?_)
 ·rw [hk,Z6v,Z30,Z2v hk2];rfl
 refine .seq (.ret (.ife (.tcmp (.call (.cons (.getL (v:=.ref 101) rfl (.cons (.pure (.nil (.callM ((Kg c1 (by exact(Y2 (Zd (Zq (Z8 Z0 Ys) (Zo (2^39))) (Zy (Y0 Z0) (Zo (2^39)))) rfl hl)) hx (by decide) ((FrS.free f1 hn (by decide)).mono (by decide))).mono ?_)))))))))))
 rintro _ σ2 ⟨r',rfl,_,_,c2,f2⟩
 have fr:=f1.trans f2
 have hf:=Yg (fr.free hn (by decide))
 refine .pure (W.eqI (.asBool ⟨fun _=>.getL (v:=.int L[k]) rfl ?_,fun _=>.op1 (.getL (v:=.int L[k]) rfl (W.neg ?_))⟩))
 ·refine⟨_,_,rfl,Zs fun _=>Z7i,_,_,rfl,Z35 hk2,rfl,?_⟩
  dsimp only
  rw [hf];exact⟨c2,fr⟩
 ·refine⟨_,_,rfl,Zs fun _=>Z7i,_,_,rfl,Z35 hk2,Z6h _,?_⟩
  dsimp only
  rw [hf];exact⟨c2,fr⟩
theorem in_of{gs:List G}{pool:List Int}{g p:Int}(h : ∀ p∈pool,In gs p)(hp:p∈pool)(e:g.natAbs=p.natAbs):In gs g:=by unfold In;rw [e];exact h p hp
inductive SmI(gs:List G)(xs pool:List Int)(s0:St)(n:Nat)(i:Nat)(acc:List V)(s:St):Prop
 |mk (h1 : ∀ k,k≠13->s.loc k=s0.loc k) (f:FrS s0.hp s.hp) (d:Sack xs (n+2*i) s.hp) (L:List Int) (e:acc=L.map .int) (l:L.length=i) (hg : ∀ x∈L,In gs x)
theorem some_w{gs:List G}{xs pool:List Int}{n:Nat}{Q:V->St->Prop}{s:St}{k:Int}(h:Sack xs n s.hp)(hx:xs.length<=60)(hpo:s.hp 15=some (.list (pool.map .int)))(p0:0<pool.length)(pl:pool.length<=60)(hp : ∀ p∈pool,In gs p)(hn:Free 170 s.hp)(hk:0<=k/\k<=4)(hl:n+8<2^39)(l0:s.loc 0=some (.ref 101))(l2:s.loc 2=some (.ref 15))
  (q : ∀ (L:List Int) (s':St),L.length=k.toNat->(∀ x∈L,In gs x)->Sack xs (n+8) s'.hp->FrS s.hp s'.hp->(∀ k,k≠13->s'.loc k=s.loc k)->Q (.lst (L.map .int)) s') :
  Wp (M.comp none (.rng 0 k 1) 13 (X.and0) (Z79 (callM (Y4 570 2 Jj)) (Z74 (Z71 0) (Z74 (Z71 2) Z75)))) s Q:=by
 have l1000:1001<lim:=by decide
 refine .compM (xs:=_) (SmI gs xs pool s n) ⟨fun _ _=>rfl,fun _ _=>rfl,h,[],rfl,rfl,fun _ q=>nomatch q⟩ (fun i acc s _=>Uf (by decide) (by exact(J1 (Zd (Xq Zg (Xh Xi)) (Zd (Yr Zu Zg) (Zy Z0 (Zo (2^40))))) rfl hk.2 (Z6i (Wc (Zd (Xq X0 Zg) (Yv X0 Zg)) rfl hk.1))))) ?_ ?_
 ·rintro i acc s' x ⟨b1,b2,b3,L,rfl,b4,b5⟩ hxx
  obtain⟨_,hi⟩:=Bx hxx
  refine .and0 ⟨nofun,fun _=>.call (.cons (.getL (v:=.ref 101) ((b1 0 (by decide)).trans l0) (.cons (.getL (v:=.ref 15) ((b1 2 (by decide)).trans l2) (.nil (.callM ((Dw (L:=pool) b3 (by exact(Vg (Ze 2 (Xq Zg (Xh Xi)) (Zd (Zq (Z8 Z0 (Zo 8)) (Zo (2^39))) (Ze 2 (Xp (Xb X0 Xm) Zg) (Zy (Z8 (Z8 Z0 (Zm 2 Z1)) Ys) (Zo (2^39)))))) rfl hk.2 hl hi)) hx (fun s2 f2=>Jm ((f2 15 (by decide)).trans ((b2 15 (by decide)).trans hpo))) p0 pl ((b2.free hn (by decide)).mono (by decide))).mono ?_)))))))⟩
  rintro _ τ ⟨g,p,rfl,g1,g2,g3,g4⟩
  refine⟨rfl,by rw [Z3g];exact(Ee (Ze 501 (Xq Zg (Xh Xi)) (Ze 2 (Zq (Zo 1001) Z0) (Ze 501 (Zj Z1 Za) (Ze 501 (Xp (Xb X0 Qt) Zg) (Xn 500 (Zy Z1 Z0)))))) rfl hk.2 l1000 b4 hi),fun k hk=>?_,fun m q=>(g4 m q).trans (b2 m q),g3,L ++ [g],by rw [Z3q];rfl,by rw [Z3b,b4];rfl,fun x hx=>?_⟩
  ·show upd _ _ _ _=_
   rw [Z5 _ _ hk];exact b1 k hk
  ·rcases Z3w.mp hx with q|q
   ·exact b5 x q
   ·rw [Z49.mp q];exact in_of hp g1 g2
 ·rintro acc s' ⟨b1,b2,b3,L,rfl,b4,b5⟩
  rw [Z3g,Z3j] at b3 b4
  refine .mkLst (W6 _) (lmLe (by exact(Ee (Ze 501 (Xq Zg (Xh Xi)) (Ze 2 (Zq (Zo 1001) Z0) (Ze 501 (Zj Z1 Za) (Ze 501 (Yr Qt (Yl Zg X0)) (Xn 500 (Zh Z1 Z0)))))) rfl hk.2 l1000 b4 (Z6w (Wc (Zd (Xq X0 Zg) (Yv X0 (Yl Zg X0))) rfl hk.1))))) (q L _ (by rw [b4,Int.sub_zero]) b5 (b3.weak (by exact(Vg (Ze 2 (Xq Zg (Xh Xi)) (Ze 2 (Yr Zu (Yl Zg X0)) (Zh (Z8 Z1 (Zm 2 Z0)) (Z8 Z1 (Zo 8))))) rfl hk.2 (Z6w (Wc (Zd (Xq X0 Zg) (Yv X0 (Yl Zg X0))) rfl hk.1))))) b2 fun k hk=>?_)
  show upd _ _ _ _=_
  rw [Z5 _ _ hk];exact b1 k hk
end L01
end Lay
namespace Lay
namespace L01
variable{gs:List G}{kn:List (List Int×V)}{σ:Hp}{kvs:List (Int×V)}{n:Nat}
theorem atS{α:Type}{m:M α}{s:St}{Q:α->St->Prop}(P:St->Prop)(h:P s)(k : ∀ s,P s->Wp m s Q):Wp m s Q:=k s h
theorem Au{f f':Nat->Bool}(n:Nat) : ∀ gs:List G,gs.length=n->(∀ i,i<gs.length->f i=f' i)->tr f gs=tr f' gs:=by
 induction n with
 |zero=>intro gs h _;rw [Z2i h];rfl
 |succ n ih =>
  intro gs h q
  rcases Z2j gs with rfl|⟨g,x,rfl⟩
  ·cases h
  ·rw [Z2a] at h q ⊢
   rw [Z3b] at h
   have hl:g.length=n:=Nat.succ.inj h
   have e:=ih g hl fun i hi=>q i (by rw [Z3b];exact Z1f hi)
   rw [P5,P5,e]
   congr 2
   cases x with
   |inp=>show f _=f' _;rw [By];exact q _ (by rw [Z3b];exact Z1g _)
   |_=>rfl
theorem Nv{f f':Nat->Bool}(q : ∀ i,i<gs.length->f i=f' i):val f gs=val f' gs:=by
 funext i;unfold val;rw [Au _ gs rfl q]
structure MkOk(gs:List G)(kvs:List (Int×V)):Prop where
 keys:kvs.map (·.1)=upK (gs.length-1)
 val : ∀ i:Nat,1<=i->i<gs.length->∃ m:Nat,Y1 kvs i=some (.int m)/\Msk (fun r=>val (row kvs r) gs i=true) m
theorem MkOk.add{x:G}{m:Nat}(mo:MkOk gs kvs)(l:1<=gs.length)(hm:Msk (fun r=>L01.val (row (Y6 kvs gs.length (.int m)) r) (gs ++ [x]) gs.length=true) m):MkOk (gs ++ [x]) (Y6 kvs gs.length (.int m)):=by
 have hk:kvs.map (·.1)=upK (gs.length-1):=mo.keys
 have hn:(gs.length:Int)∉kvs.map (·.1):=by rw [hk,upK_mem];omega
 refine⟨?_,fun i h1 h2=>?_⟩
 ·rw [Jk,if_neg hn,hk,Z3b]
  obtain⟨k,e⟩ : ∃ k,gs.length=k+1:=⟨gs.length-1,by exact(Zw (Ze (-1) (Zj (Y0 Z0) Z1) (J9 Z1 (Y0 Z0))) rfl (Z1u (Y2 (Zd (Zb Yi Z0) (Zh Yi Z0)) rfl l)))⟩
  rw [e];exact upK_succ.symm
 ·rw [Z3b] at h2
  by_cases e:i=gs.length
  ·subst e;exact⟨m,by rw [Xe,if_pos rfl],hm⟩
  ·obtain⟨k,q1,q2⟩:=mo.val i h1 (Z18 (Z0z h2) e)
   refine⟨k,by rw [Xe,if_neg (by lia)];exact q1,q2.iff fun r _=>?_⟩
   rw [Ih _ (Z18 (Z0z h2) e),Nv (f:=row kvs r) (f':=row (Y6 kvs gs.length (.int m)) r) fun j hj=>?_]
   unfold row mkOf
   rw [Xe,if_neg (by omega)]
theorem Rw{g:Int}(h:σ 100=some (.idict kvs))(mo:MkOk gs kvs)(hn:Free 700 σ)(hg:In gs g) :
  Ws (Y4 700 2 W9) [.ref 100,.int g] σ (fun v σ'=>σ'=σ/\∃ m:Nat,v = .int m/\Msk (fun r=>Yes (L01.val (row kvs r) gs) g) m):=by
 obtain⟨m,h1,h2⟩:=mo.val _ hg.1 hg.2
 refine Ws.fn rfl ?_
 unfold W9
 refine .seq (.ret (.ife (.tcmp (.getL (v:=.int g) rfl (.pure (W.gt (.asBool ⟨fun hb=>?_,fun hb=>?_⟩)))))))
 ·have hb:=of_decide_eq_true hb
  refine .op2 (.getL (v:=.ref 100) rfl (.getL (v:=.int g) rfl (W.itemD (X7 h) (u:=.int m) (by rw [<-h1];congr 1;exact(J1 (Ze (-1) (Yr Zu Zg) (K6 Zg Zu)) rfl (Z6i (Wc (Zd (Xp X0 Zg) (Yv X0 Zg)) rfl hb)))) ⟨_,_,rfl,Zs fun _=>Z7i,Yg hn,m,rfl,h2.iff fun r _=>?_⟩)))
  unfold Yes;rw [decide_eq_true hb]
 ·have hb:=of_decide_eq_false hb
  have l:=h2.1
  refine .op2 (.pure (.op2 (.getL (v:=.ref 100) rfl (.op1 (.getL (v:=.int g) rfl (W.neg (W.itemD (X7 h) (u:=.int m) (by rw [<-h1];congr 1;exact(J1 (Ze (-1) (Yr Zu (Wj Zg)) (K6 (Wj Zg) Zu)) rfl (Z6q (Wc (Zd (Qu X0 Zg) (Yv Zg X0)) rfl hb)))) (W.sub ⟨_,_,rfl,Zs fun _=>Z7i,Yg hn,65535-m,?_,h2.not.iff fun r _=>?_⟩))))))))
  ·congr 1;exact(Zw (Ze (-1) (Zj (Z8 Z0 Z1) (Zo 65535)) (K6 (Yl (Xh (Zo 65535)) Xm) Zu)) rfl (Z1u (Y2 (Zd (Zq Z0 (Zo 65536)) (Zh Z0 (Zo 65535))) rfl l)))
  ·unfold Yes;rw [decide_eq_false hb,Z5v]
inductive GtR(gs:List G)(xs:List Int)(n:Nat)(pool:List Int)(σ σ':Hp):Prop
 |mk (t:List G) (kn':List (List Int×V)) (kvs':List (Int×V)) (g:Int) (tl:t.length<=1) (ti : ∀ x∈t,∃ ps,x = .and ps) (ok:COk (gs++t) kn') (hc:Yp (gs++t) kn' σ') (hm:σ' 100=some (.idict kvs')) (mo:MkOk (gs++t) kvs') (sk:Sack xs n σ')
   (po:σ' 15=some (.list ((pool ++ [g]).map .int))) (ig:In (gs++t) g) (fr : ∀ m,m≠3->m≠4->m≠5->m≠15->m≠100->m≠101->σ' m=σ m)
inductive DueI(gs:List G)(kvs:List (Int×V))(L:List Int)(τ:Hp)(loc:Nat->Option V)(i:Nat)(s:St):Prop
 |mk (m:Nat) (h5:s.loc 5=some (.int m)) (hm:Msk (fun r => ∀ x∈L.take i,Yes (val (row kvs r) gs) x) m) (hp:s.hp=τ) (hl : ∀ k,k≠5->k≠6->s.loc k=loc k)
theorem gate_ws{xs pool:List Int}(hc:Yp gs kn σ)(ok:COk gs kn)(hl:gs.length<=800)(hm:σ 100=some (.idict kvs))(mo:MkOk gs kvs)(sk:Sack xs n σ)(hx:xs.length<=60)(hpo:σ 15=some (.list (pool.map .int)))(p0:0<pool.length)(pl:pool.length<=60)(hp : ∀ p∈pool,In gs p)(hn:Free 160 σ)(hl2:n+9<2^39) :
  Ws (Y4 160 4 Wx) [.ref 101,.ref 1,.ref 15,.ref 100] σ (fun v σ'=>v = .bool true/\GtR gs xs (n+9) pool σ σ'):=by
 have l1000:1001<lim:=by decide
 have l1:1<=gs.length:=Z16 (by decide) ok.len
 refine Ws.fn rfl ?_
 unfold Wx
 refine .seq (.assignSwap (.cons (.comp (.call (.cons (.op2 (.pure (.call (.cons (.getL (v:=.ref 101) rfl (.cons (.pure (.nil (.callM ((Kg sk (by lia) hx (show (0:Int)<2 by decide) (hn.mono (by decide))).mono ?_)))))))))))))))
 rintro _ σ1 ⟨k,rfl,k0,k1,c1,f1⟩
 have n1:Free 160 σ1:=FrS.free f1 hn (by decide)
 refine W.add (.nil (W.range1 ⟨rfl,some_w c1 hx ((f1 15 (by decide)).trans hpo) p0 pl hp (n1.mono (by decide)) ⟨by exact(Wc (Zd (Xq X0 Zg) (Yv X0 (Xb (Xh Ys) Zg))) rfl k0),by exact(Wc (Zd (Xp Zg (Xh Ys)) (Yv (Xb (Xh Ys) Zg) (Xh Xi))) rfl k1)⟩ (by omega) rfl rfl fun L s' hL hin dL fL lL=>?_⟩))
 have hc2:Yp gs kn s'.hp:=hc.mono fun m q=>(fL m (by exact(Z1o (Z17 q (nlt 5 101 rfl))))).trans (f1 m (by exact(Z1o (Z17 q (nlt 5 101 rfl)))))
 have hm2:s'.hp 100=some (.idict kvs):=(fL 100 (by decide)).trans ((f1 100 (by decide)).trans hm)
 have hp2:s'.hp 15=some (.list (pool.map .int)):=(fL 15 (by decide)).trans ((f1 15 (by decide)).trans hpo)
 have n2:Free 160 s'.hp:=FrS.free fL n1 (by decide)
 have ff:FrS σ s'.hp:=f1.trans fL
 obtain⟨loc2,τ⟩:=s'
 dsimp only at hc2 hm2 hp2 n2 ff dL lL
 refine .cons (.pure (.nil ⟨show 2<=100 by decide,.sets1 (.sets1 (.sets0 ?_))⟩))
 have e1:loc2 1=some (.ref 1):=lL 1 (by decide)
 have e2:loc2 2=some (.ref 15):=lL 2 (by decide)
 have e3:loc2 3=some (.ref 100):=lL 3 (by decide)
 refine .seq (.for (.getL (v:=.lst (L.map .int)) rfl ⟨rfl,.forS (xs:=L.map .int) (DueI gs kvs L τ (upd (upd loc2 5 (some (.int 65535))) 4 (some (.lst (L.map .int))))) ⟨65535,rfl,msk_all.iff fun r _=>⟨fun _ _ q=>(nomatch q),fun _=>trivial⟩,rfl,fun _ _ _=>rfl⟩ (fun _ _ _=>Vv) ?_ ?_⟩))
 ·rintro i s x ⟨m,h5,hms,rfl,hlo⟩ hx
  rw [Z30] at hx
  obtain⟨y,hy,rfl⟩:=Z50.mp hx
  have hyL:=Z45 hy
  have h3:s.loc 3=some (.ref 100):=(hlo 3 (by decide) (by decide)).trans e3
  refine .setL (.seq (.assign (.op2 (.getL (v:=.int m) h5 (.call (.cons (.getL (v:=.ref 100) h3 (.cons (.getL (v:=.int y) rfl (.nil (.callM ((Rw hm2 mo (n2.mono (by decide)) (hin y hyL)).mono ?_))))))))))))
  rintro _ _ ⟨rfl,m2,rfl,hm3⟩
  refine W.band (.end ⟨m&&&m2,by dsimp only;rw [Z4,Ju],(hms.and hm3).iff fun r _=>?_,rfl,fun k k5 k6=>?_⟩)
  ·rw [Z4s,hy]
   simp only [Option.toList,Z3w,Z49]
   exact⟨fun q x hx=>hx.elim (q.1 x) fun e=>e▸q.2,fun q=>⟨fun x hx=>q x (.inl hx),q y (.inr rfl)⟩⟩
  ·dsimp only;rw [Z5 _ _ k5,Z5 _ _ k6];exact hlo k k5 k6
 rintro s ⟨due,h5,hms,rfl,hlo⟩
 rw [Z3g,Z4t] at hms
 have h1:s.loc 1=some (.ref 1):=(hlo 1 (by decide) (by decide)).trans e1
 have h2:s.loc 2=some (.ref 15):=(hlo 2 (by decide) (by decide)).trans e2
 have h3:s.loc 3=some (.ref 100):=(hlo 3 (by decide) (by decide)).trans e3
 have h4:s.loc 4=some (.lst (L.map .int)):=hlo 4 (by decide) (by decide)
 clear hlo e1 e2 e3 lL
 obtain⟨loc,τ⟩:=s
 dsimp only at *
 have kl:kvs.length<=900:=by have:=congrArg Z3a mo.keys;unfold upK at this;simp at this;exact(Ye (Zd (Zb Z0 (Zo 800)) (Zd (Zj Z1 Za) (Zd (Zj (Y0 Za) Z0) (Zh Z1 (Zo 900))))) rfl hl this (Z1u (Y2 (Zd (Zb Yi Z0) (Zh Yi Z0)) rfl l1)))
 refine .seq (.assign (.meth (.getL (v:=.ref 1) h1 ⟨okC hc2 (by rfl),.cons (.getL (v:=.lst (L.map .int)) h4 (.nil (.callM ((Ck (L:=L) hc2 ok (by exact(Z16 hl (nle 800 900 rfl))) (n2.mono (by decide)) rfl (fun _=>Vv) (by exact(Vg (Zd (Xp Zg (Xh Ys)) (Zd (Zj Z0 Z1) (Zd (Yr Xm (Xb (Xh Ys) Zg)) (Zh Z0 Xi)))) rfl k1 hL (Z6w (Wc (Zd (Xq X0 Zg) (Yv X0 (Xb (Xh Ys) Zg))) rfl k0)))) hin).mono ?_))))⟩)))
 rintro _ σ3 ⟨g,t,kn',rfl,g1,g2,ok3,hc3,f3,tl,nw,sem⟩
 have ig:In (gs++t) g:=⟨g1,g2⟩
 have hm3:σ3 100=some (.idict kvs):=(f3 100 (by decide) (by decide) (by decide)).trans hm2
 have hp3:σ3 15=some (.list (pool.map .int)):=(f3 15 (by decide) (by decide) (by decide)).trans hp2
 have sk3:Sack xs (n+9) σ3:=(dL.at (f3 101 (by decide) (by decide) (by decide))).weak (by lia)
 have n3:Free 160 σ3:=f3.free n2 (by decide)
 obtain⟨kvs',hset,mo',hdue⟩ : ∃ kvs',(∀ {Q:V->St->Prop} {s:St},s.hp 100=some (.idict kvs)->(∀ v,Q v {s with hp:=upd s.hp 100 (some (.idict kvs'))})->Wp (Df [.ref 100,.int g.natAbs,.int due]) s Q)/\MkOk (gs++t) kvs'/\Msk (fun r=>Yes (val (row kvs' r) (gs++t)) g) due:=by
  rcases nw with rfl|⟨ps,rfl,e⟩
  ·rw [Z29] at *
   obtain⟨m,q1,_⟩:=mo.val _ g1 g2
   refine⟨kvs,fun {Q s} hs k=>W.setDOld hs q1 rfl (by exact(Z1h (Z17 kl (nlt 900 1001 rfl)) l1000)) ?_,mo,hms.iff fun r _=>(sem _).symm⟩
   have:=k (.int m)
   rwa [show upd s.hp 100 (some (.idict kvs))=s.hp from Ic hs] at this
  ·subst e
   have hno:Y1 kvs (gs.length:Int)=none:=by
    refine Option.not_isSome_iff_eq_none.mp fun q=>?_
    have:=(Yk _ _).mp q
    rw [mo.keys,upK_mem] at this
    lia
   have hd2:Msk (fun r=>Yes (val (row (Y6 kvs gs.length (.int due)) r) (gs ++ [.and ps])) (gs.length:Int)) due:=hms.iff fun r _=>by
    rw [sem]
    have e:val (row kvs r) gs=val (row (Y6 kvs gs.length (.int due)) r) gs:=Nv fun j hj=>by
     unfold row mkOf
     rw [Xe,if_neg (by omega)]
    rw [e]
   refine⟨Y6 kvs gs.length (.int due),fun {Q s} hs k=>W.setDNew hs hno rfl (by exact(Z1h (Z17 kl (nlt 900 1001 rfl)) l1000)) (k _),mo.add l1 (hd2.iff fun r _=>?_),hd2⟩
   unfold Yes
   rw [Z6g,decide_eq_true (show (0:Int)<(gs.length:Int) by omega)]
 refine .seq (.expr (.meth (.getL (v:=.ref 100) h3 ⟨Qx hm3,.cons (.call (.cons (.getL (v:=.int g) rfl (.nil (W.abs (.cons (.getL (v:=.int due) h5 (.nil (hset hm3 fun v=>?_)))))))))⟩)))
 have hc4:Yp (gs++t) kn' (upd σ3 100 (some (.idict kvs'))):=hc3.mono fun m q=>Z5 _ _ (by exact(Z1o (Z17 q (nlt 5 100 rfl))))
 have hm4:upd σ3 100 (some (.idict kvs')) 100=some (.idict kvs'):=Z4 _ _ _
 refine .seq (.expr (.meth (.getL (v:=.ref 15) h2 ⟨Xu (xs:=pool.map .int) (by dsimp only;rw [Z5 _ _ (by decide)];exact hp3),.cons (.getL (v:=.int g) rfl (.nil (W.app (xs:=pool.map .int) (by dsimp only;rw [Z5 _ _ (by decide)];exact hp3) rfl (by rw [Z3g];exact(Z1h (Z17 pl (nlt 60 1001 rfl)) l1000)) ?_)))⟩)))
 dsimp only
 have hl4:(loc 1=some (.ref 1)/\loc 3=some (.ref 100))/\loc 5=some (.int due):=⟨⟨h1,h3⟩,h5⟩
 refine atS (fun s=>((s.loc 3=some (.ref 100)/\s.loc 5=some (.int due))/\s.loc 7=some (.int g))/\s.hp=upd (upd σ3 100 (some (.idict kvs'))) 15 (some (.list (pool.map .int ++ [.int g])))) ⟨⟨⟨h3,h5⟩,rfl⟩,rfl⟩ ?_
 rintro⟨loc',_⟩ ⟨⟨⟨k3,k5⟩,k7⟩,rfl⟩
 have hm5:upd (upd σ3 100 (some (.idict kvs'))) 15 (some (.list (pool.map .int ++ [.int g]))) 100=some (.idict kvs'):=by rw [Z5 _ _ (by decide),Z4]
 have n5:Free 160 (upd (upd σ3 100 (some (.idict kvs'))) 15 (some (.list (pool.map .int ++ [.int g])))):=(n3.upd (by decide)).upd (by decide)
 refine .seq (.ret (.op2 (.call (.cons (.getL (v:=.ref 100) k3 (.cons (.getL (v:=.int g) k7 (.nil (.callM ((Rw hm5 mo' (n5.mono (by decide)) ig).mono ?_))))))))))
 rintro _ _ ⟨rfl,m,rfl,hmm⟩
 obtain rfl:m=due:=hmm.eq hdue
 refine .getL (v:=.int m) k5 (W.eqI ⟨_,_,rfl,Zs fun _=>Z7i,by rw [decide_eq_true rfl];rfl,?_⟩)
 rw [Yg n5]
 refine⟨t,kn',kvs',g,tl,fun x hx=>?_,ok3,hc4.mono fun m q=>Z5 _ _ (by exact(Z1o (Z17 q (nlt 5 15 rfl)))),hm5,mo',sk3.at (by rw [Z5 _ _ (by decide),Z5 _ _ (by decide)]),by rw [Z4,Z3q];rfl,ig,fun m q3 q4 q5 q6 q7 q8=>?_⟩
 ·rcases nw with rfl|⟨ps,rfl,_⟩
  ·cases hx
  ·exact⟨ps,Z49.mp hx⟩
 ·rw [Z5 _ _ q6,Z5 _ _ q7,f3 m q3 q4 q5];exact ff m q8
end L01
end Lay
namespace Lay
namespace L01
variable{gs:List G}{kn:List (List Int×V)}{σ:Hp}{kvs:List (Int×V)}{n:Nat}
theorem Zv(g:G):SeqAt.shaped (.str g.kind)=true:=by cases g<;>with_unfolding_all rfl
noncomputable def Ka(gs:List G)(k:Int):Bool:=(gs[k.natAbs]?).elim false fun x=>x.kind==Z5k "input"
noncomputable def Pa(gs:List G):Nat:=((upK (gs.length-1)).filter (Ka gs)).length
theorem Ez{gs t:List G}{k:Int}(h:k.natAbs<gs.length):Ka (gs++t) k=Ka gs k:=by unfold Ka;rw [Z2r h]
theorem Nd{gs:List G}{x:G}(l:1<=gs.length):Pa (gs ++ [x])=Pa gs+(if x.kind==Z5k "input" then 1 else 0):=by
 obtain⟨k,e⟩ : ∃ k,gs.length=k+1:=⟨gs.length-1,by exact(Zw (Ze (-1) (Zj (Y0 Z0) Z1) (J9 Z1 (Y0 Z0))) rfl (Z1u (Y2 (Zd (Zb Yi Z0) (Zh Yi Z0)) rfl l)))⟩
 unfold Pa
 rw [Z3b,e]
 show ((upK (k+1)).filter _).length=_
 rw [upK_succ,Z2n,Z3b]
 congr 1
 ·congr 1
  refine List.filter_congr fun y hy=>Ez ?_
  obtain⟨j,hj,rfl⟩:=Z44.mp hy
  rw [Z48] at hj
  exact(Ye (Ze (-1) (Zj Z0 (Y0 Z1)) (Zd (Zq Za Z1) (Zy (Y0 Za) Z0))) rfl e hj)
 ·have:Ka (gs ++ [x]) ((k+1:Nat):Int)=(x.kind==Z5k "input"):=by
   unfold Ka
   rw [Z6g,Z2s (by lia),e,Z1y];rfl
  rw [Z2o,this]
  split<;>rfl
theorem Ae{gs:List G}{ps:List Int}(l:1<=gs.length):Pa (gs ++ [.and ps])=Pa gs:=by rw [Nd l];rfl
theorem Lz{gs:List G}(l:1<=gs.length):Pa (gs ++ [.inp])=Pa gs+1:=by rw [Nd l];rfl
theorem COk.inp(h:COk gs kn):COk (gs ++ [.inp]) kn:=by
 refine⟨by rw [Z3b];exact Z16 h.len (Z0u _ _),fun i x hx=>?_,fun qs u hu=>?_,?_⟩
 ·by_cases hi:i<gs.length
  ·rw [Z2r hi] at hx;exact h.well i x hx
  ·have hl:=(Z2y.mp hx).1
   rw [Z3b] at hl
   obtain rfl:i=gs.length:=Z0v (Z0z hl) (Z10 hi)
   rw [Z2s (Z12 _),Z1y] at hx
   obtain rfl:G.inp=x:=Z54 hx
   exact .inp h.len
 ·obtain⟨i,h1,h2⟩:=h.known _ _ hu
  exact⟨i,h1,by rw [Z2r (Z2y.mp h2).1];exact h2⟩
 ·rw [Z3b];exact Z15 h.knl
inductive InR(gs:List G)(kn:List (List Int×V))(pool:List Int)(σ σ':Hp):Prop
 |mk (kvs':List (Int×V)) (ok:COk (gs ++ [.inp]) kn) (hc:Yp (gs ++ [.inp]) kn σ') (hm:σ' 100=some (.idict kvs')) (mo:MkOk (gs ++ [.inp]) kvs') (po:σ' 15=some (.list ((pool ++ [(gs.length:Int)]).map .int)))
   (fr : ∀ m,m≠3->m≠4->m≠5->m≠15->m≠100->σ' m=σ m)
theorem col_lt{c:Nat}(h:c<=3) : ∃ x:Nat,([43690,52428,61680,65280]:List Int)[c]?=some (x:Int)/\x<2^16:=by
 have:c=0\/c=1\/c=2\/c=3:=by lia
 rcases this with rfl|rfl|rfl|rfl
 ·exact⟨43690,rfl,by decide⟩
 ·exact⟨52428,rfl,by decide⟩
 ·exact⟨61680,rfl,by decide⟩
 ·exact⟨65280,rfl,by decide⟩
noncomputable abbrev tInp:M Bool:=Z7a (vEq false) (Z76 (Y9 224 (Z5k "kind")) (callM (Y4 520 2 Y3)) (Z71 0) (Z74 (Z71 5) Z75)) (pure (.str (Z5k "input")))
theorem Ea{items:St->Option (List V)}{bind:V->M Unit}{test:M Bool}{elt:M V}{xs:List V}{s:St}{X:Prop}(P:Nat->List V->St->Prop)(hit : ∀ i acc s,P i acc s->items s=some xs)(h0:P 0 [] s)
  (step : ∀ i acc s x,P i acc s->xs[i]?=some x->∃ s1 s2 b,R (bind x) s () s1/\R test s1 b s2/\((b=false/\P (i+1) acc s2)\/(b=true/\∃ y s3,R elt s2 y s3/\y.low=true/\acc.length<lim/\P (i+1) (acc ++ [y]) s3)))
  (k : ∀ acc s',R (M.compN items bind test elt (xs.length+1) 0 []) s acc s'->P xs.length acc s'->X):X:=by
 obtain⟨acc,s',h1,h2⟩:=Qp P hit step (xs.length+1) 0 [] s (by exact ar328) h0 (Z25 _)
 exact k acc s' h1 h2
theorem W.lastL{v:V}{xs:List V}{u:V}{s:St}{Q:V->St->Prop}(hv:Wv v s=some xs)(hl:xs.length<2^40)(hu:xs.getLast?=some u)(q:Q u s):Wp (Yz v (.int (-1))) s Q:=by
 have e:un V.tup v=none:=by
  rcases oro hv with h|h
  ·rw [Zi h];exact Yc fun _=>Z7i
  ·obtain⟨n,rfl,_⟩:=Wz h;exact Yc fun _=>Z7i
 exact⟨_,_,ors (bs Wm (orn (bn e) (ors (bs hv (Hf hl hu))))),q⟩
theorem Cz{pool:List Int}(hc:Yp gs kn σ)(ok:COk gs kn)(hl:gs.length<=800)(hm:σ 100=some (.idict kvs))(mo:MkOk gs kvs)(hpo:σ 15=some (.list (pool.map .int)))(pl:pool.length<=60)(hn:Free 380 σ)(h3:Pa gs<=3) :
  Ws (Y4 380 3 W4) [.ref 1,.ref 15,.ref 100] σ (fun v σ'=>v = .none/\InR gs kn pool σ σ'):=by
 have l1000:1001<lim:=by decide
 have l1:1<=gs.length:=Z16 (by decide) ok.len
 refine Ws.fn rfl ?_
 unfold W4
 refine .seq (.expr (.meth (.getL (v:=.ref 15) rfl ⟨Xu hpo,.cons (.meth (.getL (v:=.ref 1) rfl ⟨okC hc (by rfl),.nil (.callM ((Eu hc (by exact(Z16 hl (nle 800 1000 rfl))) (hn.mono (by decide))).mono ?_))⟩))⟩)))
 rintro _ σ1 ⟨rfl,hc1,f1⟩
 have hm1:σ1 100=some (.idict kvs):=(f1 100 (by decide) (by decide) (by decide)).trans hm
 have hp1:σ1 15=some (.list (pool.map .int)):=(f1 15 (by decide) (by decide) (by decide)).trans hpo
 have n1:Free 380 σ1:=f1.free hn (by decide)
 refine .nil (W.app hp1 rfl (by rw [Z3g];exact(Z1h (Z17 pl (nlt 60 1001 rfl)) l1000)) ?_)
 dsimp only
 have e2:pool.map V.int ++ [V.int gs.length]=(pool ++ [(gs.length:Int)]).map V.int:=by rw [Z3q];rfl
 rw [e2]
 have hp2:upd σ1 15 (some (.list ((pool ++ [(gs.length:Int)]).map .int))) 15=some (.list ((pool ++ [(gs.length:Int)]).map .int)):=Z4 _ _ _
 have hm2:upd σ1 15 (some (.list ((pool ++ [(gs.length:Int)]).map .int))) 100=some (.idict kvs):=(Z5 _ _ (by decide)).trans hm1
 have hc2:Yp (gs ++ [.inp]) kn (upd σ1 15 (some (.list ((pool ++ [(gs.length:Int)]).map .int)))):=hc1.mono fun m q=>Z5 _ _ (by exact(Z1o (Z17 q (nlt 5 15 rfl))))
 have n2:Free 380 (upd σ1 15 (some (.list ((pool ++ [(gs.length:Int)]).map .int)))):=n1.upd (by decide)
 have f2 : ∀ m,m≠3->m≠4->m≠5->m≠15->upd σ1 15 (some (.list ((pool ++ [(gs.length:Int)]).map .int))) m=σ m:=fun m q3 q4 q5 q6=>(Z5 _ _ q6).trans (f1 m q3 q4 q5)
 generalize upd σ1 15 (some (.list ((pool ++ [(gs.length:Int)]).map .int)))=σ2 at *
 have kl:kvs.length=gs.length-1:=by have:=congrArg Z3a mo.keys;unfold upK at this;simpa using this
 have cok:Q0 100 2 5 tInp (Z71 5) ⟨fun i => [V.ref 1,V.ref 15,V.ref 100][i]?,σ2⟩ (((kvs.map (·.1)).filter (Ka gs)).map .int) kvs:=by
  refine⟨rfl,fun k hk q=>?_,rfl,hm2,W6 _,?_,fun x=>?_⟩
  ·match k with
   |0=>cases q
   |1=>cases q
   |2=>exact hk rfl
   |k+3=>cases q
  ·rw [Z3g];exact Z16 (Z3f _ _) (by rw [Z3g];exact(Xw (Ze 1002 (Zb Z0 (Zo 800)) (Ze 799 (Zq (Zo 1001) Z1) (Ze 1002 (Zj Za Zp) (Ze 1002 (Zj (Y0 Zp) Z0) (Xn 1001 (Zh Za Z1)))))) rfl hl l1000 kl (Z1u (Y2 (Zd (Zb Yi Z0) (Zh Yi Z0)) rfl l1))))
  ·refine Ea (items:=fun _=>some (kvs.map fun kv=>V.int kv.1)) (bind:=fun u=>Z72 5 u) (test:=tInp) (elt:=Z71 5) (xs:=kvs.map fun kv=>V.int kv.1) (s:=hid 100 2 x ⟨fun i => [V.ref 1,V.ref 15,V.ref 100][i]?,σ2⟩) (P:=(fun i acc s=>acc=(((kvs.map (·.1)).take i).filter (Ka gs)).map .int/\∃ w,s=⟨upd (hid 100 2 x ⟨fun i => [V.ref 1,V.ref 15,V.ref 100][i]?,σ2⟩).loc 5 w,(hid 100 2 x ⟨fun i => [V.ref 1,V.ref 15,V.ref 100][i]?,σ2⟩).hp⟩)) (fun _ _ _ _=>rfl) ⟨rfl,none,congrArg (fun l=>St.mk l (upd σ2 100 none)) (Ic (f:=(hid 100 2 x ⟨fun i => [V.ref 1,V.ref 15,V.ref 100][i]?,σ2⟩).loc) (n:=5) (b:=none) rfl).symm⟩ ?_ ?_
   ·rintro i acc s y ⟨rfl,w,rfl⟩ hy
    rw [Z30] at hy
    obtain⟨kv,hkv,rfl⟩:=Z50.mp hy
    have hk2:(kvs.map (·.1))[i]?=some kv.1:=by rw [Z30,hkv];rfl
    have hin:kv.1∈upK (gs.length-1):=mo.keys▸Z45 hk2
    obtain⟨j,hj,ej⟩:=Z44.mp hin
    rw [Z48] at hj
    have hlt:kv.1.natAbs<gs.length:=by exact(fk4_1 (Zd (Zq Z0 Z1) (Ze (-1) (Yr (Xh (Y0 Z0)) Zg) (Zd (Zj (Y0 Z1) Za) (Zd (Yr fk_c3 Zg) (Zy Zp Za))))) rfl hj ej (Z1u (Y2 (Zd (Zb Yi Z0) (Zh Yi Z0)) rfl l1)) (Z6i (J1 (Zd (Yr (Xh (Y0 Z0)) Zg) (Yv X0 Zg)) rfl ej)))
    have hg:(gs ++ [G.inp])[kv.1.natAbs]?=some gs[kv.1.natAbs]:=by rw [Z2r hlt];exact Z2v hlt
    have hcH:Yp (gs ++ [.inp]) kn (upd σ2 100 none):=hc2.mono fun m q=>Z5 _ _ (by exact(Z1o (Z17 q (nlt 5 100 rfl))))
    have nH:Free 520 (upd σ2 100 none):=(n2.mono (by decide)).upd (by decide)
    have ei:Ka gs kv.1=(gs[kv.1.natAbs].kind==Z5k "input"):=by unfold Ka;rw [Z2v hlt];rfl
    obtain⟨b,s2,h1,rfl,h2⟩:Wp tInp ⟨upd (upd (hid 100 2 x ⟨fun i => [V.ref 1,V.ref 15,V.ref 100][i]?,σ2⟩).loc 5 w) 5 (some (.int kv.1)),upd σ2 100 none⟩
      (fun b s2=>s2=⟨upd (upd (hid 100 2 x ⟨fun i => [V.ref 1,V.ref 15,V.ref 100][i]?,σ2⟩).loc 5 w) 5 (some (.int kv.1)),upd σ2 100 none⟩/\b=Ka gs kv.1):=by
     refine .tcmp (.meth (.getL (v:=.ref 1) rfl ⟨okC hcH (by rfl),.cons (.getL (v:=.int kv.1) rfl (.nil (.callM ((Qd (g:=kv.1) hcH hg (by rw [Z3b];show gs.length+1<=_;lia) nH).mono ?_))))⟩))
     rintro _ _ ⟨rfl,rfl⟩
     exact .pure (W.eqS (Zv _) (Zv .inp) (.asBool ⟨rfl,by rw [Z5z,ei]⟩))
    refine⟨_,_,b,R.setL,h1,?_⟩
    have tk:(kvs.map (·.1)).take (i+1)=(kvs.map (·.1)).take i ++ [kv.1]:=by rw [Z4s,hk2];rfl
    rw [tk,Z2n,Z2o,<-h2]
    cases b with
    |false=>exact .inl ⟨rfl,by rw [if_neg Z5t,List.filter_nil,Z29],_,by rw [P7];rfl⟩
    |true =>
     refine .inr ⟨rfl,.int kv.1,_,R.getL rfl,rfl,?_,by rw [if_pos rfl,List.filter_nil,Z3q];rfl,_,by rw [P7];rfl⟩
     rw [Z3g]
     exact Z17 (Z16 (Z3f _ _) (List.length_take_le _ _)) (by have:=(Z2y.mp hkv).1;exact(Q6 (Ze 1002 (Zb Z0 (Zo 800)) (Ze 799 (Zq (Zo 1001) Z1) (Ze 1002 (Zj Za Zp) (Ze 1002 (Zq X4 Za) (Ze 1002 (Zj (Y0 Zp) Z0) (Xn 1001 (Zy X4 Z1))))))) rfl hl l1000 kl this (Z1u (Y2 (Zd (Zb Yi Z0) (Zh Yi Z0)) rfl l1))))
   ·rintro acc s' h1 ⟨rfl,w,rfl⟩
    have e:(kvs.map (·.1)).take (kvs.map fun kv=>V.int kv.1).length=kvs.map (·.1):=Z4u (by rw [Z3g,Z3g];exact Z12 _)
    rw [e] at h1
    exact⟨w,h1⟩
 obtain⟨c,hcc,hcl⟩:=col_lt h3
 have hlen:((kvs.map (·.1)).filter (Ka gs)).length=Pa gs:=by rw [mo.keys];rfl
 refine .seq (.assignSub (.op1 (.call (.cons (.compD cok (.nil (W.len (n:=Pa gs) ?_ (by exact(Z0y (Z1h (Z17 h3 (nlt 3 1001 rfl)) l1000))) (W.col hcc (by exact(Y2 (Zd (Zb Z0 Pu) (Zy Z0 (Zo (2^40)))) rfl h3)) (.getL (v:=.ref 100) rfl (.op2 (.getL (v:=.ref 15) rfl (.op1 (.pure (W.neg (W.lastL (u:=.int gs.length) (Jm hp2) (by rw [Z3g,Z3b];show pool.length+1<_;exact(Y2 (Zd (Zb Z0 (Zo 60)) (Zy (Y0 Z0) (Zo (2^40)))) rfl pl)) (by rw [List.getLast?_map,Z38];rfl) (W.setD hm2 rfl (by exact(Xw (Ze 501 (Zb Z0 (Zo 800)) (Ze 400 (Zq (Zo 1001) Z1) (Ze 501 (Zj Za Zp) (Ze 501 (Zj (Y0 Zp) Z0) (Xn 500 (Zy Za Z1)))))) rfl hl l1000 kl (Z1u (Y2 (Zd (Zb Yi Z0) (Zh Yi Z0)) rfl l1)))) (.end ⟨_,_,rfl,Zs fun _=>Z7i,rfl,?_⟩)))))))))))))))))
 ·rw [Kd J4,Z3g,hlen]
 ·dsimp only
  rw [Yg (n2.upd (by decide))]
  refine⟨_,ok.inp,hc2.mono fun m q=>Z5 _ _ (by exact(Z1o (Z17 q (nlt 5 100 rfl)))),Z4 _ _ _,mo.add l1 ⟨hcl,fun r _=>?_⟩,(Z5 _ _ (by decide)).trans hp2,fun m q3 q4 q5 q6 q7=>(Z5 _ _ q7).trans (f2 m q3 q4 q5 q6)⟩
  have hx:(gs ++ [G.inp])[gs.length]?=some .inp:=by rw [Z2s (Z12 _),Z1y];rfl
  dsimp only
  rw [val_inp _ hx]
  unfold row
  rw [mkOf_eq (m:=c) (by rw [Xe,if_pos rfl])]
end L01
end Lay
namespace Lay
namespace L01
structure Cl where
 w:Int
 cs:List (List Int)
 ga:List Int
 nu:List (Int×V)
 op:List (Int×V)
 wa:List Int
noncomputable abbrev kvK(w:Int):List (Str×V) := [(Z5k "circuit",.ref 1),(Z5k "whole",.int w),(Z5k "clauses",.ref 8),(Z5k "gates",.ref 9),(Z5k "numbers",.ref 10),(Z5k "opened",.ref 11),(Z5k "waiting",.ref 12)]
structure ClsAt(d:Cl)(σ:Hp):Prop where
 i:σ 6=some (.inst 112 7)
 a:σ 7=some (.attrs (kvK d.w))
 cs:σ 8=some (.list (d.cs.map J0))
 ga:σ 9=some (.list (d.ga.map .int))
 nu:σ 10=some (.idict d.nu)
 op:σ 11=some (.idict d.op)
 wa:σ 12=some (.list (d.wa.map .int))
theorem ClsAt.mono{d:Cl}{σ τ:Hp}(h:ClsAt d σ)(e : ∀ n,6<=n->n<=12->τ n=σ n):ClsAt d τ :=
 ⟨(e 6 (by decide) (by decide)).trans h.i,(e 7 (by decide) (by decide)).trans h.a,(e 8 (by decide) (by decide)).trans h.cs,(e 9 (by decide) (by decide)).trans h.ga,(e 10 (by decide) (by decide)).trans h.nu,(e 11 (by decide) (by decide)).trans h.op,(e 12 (by decide) (by decide)).trans h.wa⟩
noncomputable def Fr8(σ σ':Hp):Prop := ∀ n,n<8\/12<n->σ' n=σ n
theorem Fr8.refl(σ:Hp):Fr8 σ σ:=fun _ _=>rfl
theorem Fr8.trans{a b c:Hp}(h:Fr8 a b)(k:Fr8 b c):Fr8 a c:=fun n q=>(k n q).trans (h n q)
theorem Fr8.free{a b:Hp}{B:Nat}(h:Fr8 a b)(hf:Free B a)(hB:12<B):Free B b:=fun n hn=>(h n (.inr (by exact(Z1a hB hn)))).trans (hf n hn)
theorem Fr8.circ{a b:Hp}{gs:List G}{kn:List (List Int×V)}(h:Fr8 a b)(hc:Yp gs kn a):Yp gs kn b:=hc.mono fun n q=>h n (.inl (by exact(Z17 q (nlt 5 8 rfl))))
theorem Fr8.upd{σ τ:Hp}{n:Nat}{o:Option O}(f:Fr8 σ τ)(h:8<=n/\n<=12):Fr8 σ (upd τ n o):=fun m q=>by rw [Z5 _ _ (by lia)];exact f m q
section
variable{d:Cl}{s:St}{Q:V->St->Prop}
theorem U2(h:ClsAt d s.hp):K9 (.ref 6) s=some (112,kvK d.w):=Qa h.i h.a
theorem W.kCircuit(h:ClsAt d s.hp)(k:Q (.ref 1) s):Wp (Yn 112 (Z5k "circuit") (.ref 6)) s Q:=Ja (U2 h) (by rfl) rfl k
theorem W.kWhole(h:ClsAt d s.hp)(k:Q (.int d.w) s):Wp (Yn 112 (Z5k "whole") (.ref 6)) s Q:=Ja (U2 h) (by rfl) rfl k
theorem W.kClauses(h:ClsAt d s.hp)(k:Q (.ref 8) s):Wp (Yn 112 (Z5k "clauses") (.ref 6)) s Q:=Ja (U2 h) (by rfl) rfl k
theorem W.kGates(h:ClsAt d s.hp)(k:Q (.ref 9) s):Wp (Yn 112 (Z5k "gates") (.ref 6)) s Q:=Ja (U2 h) (by rfl) rfl k
theorem W.kNumbers(h:ClsAt d s.hp)(k:Q (.ref 10) s):Wp (Yn 112 (Z5k "numbers") (.ref 6)) s Q:=Ja (U2 h) (by rfl) rfl k
theorem W.kOpened(h:ClsAt d s.hp)(k:Q (.ref 11) s):Wp (Yn 112 (Z5k "opened") (.ref 6)) s Q:=Ja (U2 h) (by rfl) rfl k
theorem W.kWaiting(h:ClsAt d s.hp)(k:Q (.ref 12) s):Wp (Yn 112 (Z5k "waiting") (.ref 6)) s Q:=Ja (U2 h) (by rfl) rfl k
theorem okK(h:ClsAt d s.hp){name:Str}(e:Y1 (kvK d.w) name=none):Y9 112 name (.ref 6) s=true:=Tn (U2 h) e
end
noncomputable def Cd(cs:List (List Int)):Option (List Int)->List (List Int)
 |none=>cs
 |some r=>cs ++ [r]
theorem Fb{d:Cl}{σ:Hp}{L:List Int}(h:ClsAt d σ)(hn:Free 340 σ)(hl:L.length<=5)(hz : ∀ x∈L,x≠0)(hc:d.cs.length<=1000) :
  Ws (Y4 340 2 Xj) [.ref 6,.lst (L.map .int)] σ (fun u σ'=>Fr8 σ σ'/\∃ o,Res L o/\ClsAt {d with cs:=Cd d.cs o} σ'):=by
 have l1000:1001<lim:=by decide
 refine Ws.fn rfl ?_
 unfold Xj
 refine .seq (.assign (.call (.cons (.getL (v:=.lst (L.map .int)) rfl (.nil (.callM ((E7 (L:=L) (hn.mono (by decide)) hl hz).mono ?_)))))))
 rintro _ σ ⟨rfl,o,ho,rfl⟩
 cases o with
 |none =>
  refine .seq (.ite (.tcmp (.getL (v:=Oc none) rfl (.pure (W.isNone rfl (.asBool ⟨nofun,fun _=>.end (.end ⟨_,_,rfl,Zs fun _=>Z7i,?_⟩)⟩))))))
  dsimp only
  rw [Yg hn]
  exact⟨Fr8.refl _,none,ho,h⟩
 |some r =>
  refine .seq (.ite (.tcmp (.getL (v:=Oc (some r)) rfl (.pure (W.isNone rfl (.asBool ⟨fun _=>.seq (.expr (.meth (.op1 (.getL (v:=.ref 6) rfl (W.kClauses h ⟨Xu h.cs,.cons (.getL (v:=J0 r) rfl (.nil (W.app h.cs rfl (lmLt (by exact(Z1h (Z17 hc (nlt 1000 1001 rfl)) l1000))) (.end (.end ⟨_,_,rfl,Zs fun _=>Z7i,?_⟩)))))⟩))))),nofun⟩))))))
  dsimp only
  have f:=(Fr8.refl σ).upd (n:=8) (o:=some (.list (d.cs.map J0 ++ [J0 r]))) (by decide)
  rw [Yg (f.free hn (by decide))]
  exact⟨f,some r,ho,h.i,h.a,by rw [Z4];change _=some (O.list (Z3p J0 (d.cs ++ [r])));rw [Z3q];rfl,h.ga,h.nu,h.op,h.wa⟩
noncomputable def Jl(d:Cl)(g:Int):Cl:=if (Y1 d.nu g).isSome then d else {d with ga:=d.ga ++ [g],nu:=Y6 d.nu g (.int d.ga.length)}
theorem Nf{d:Cl}{σ:Hp}{g:Int}(h:ClsAt d σ)(hn:Free 300 σ)(h1:d.ga.length<=1000)(h2:d.nu.length<=1000)(hu : ∀ u,Y1 d.nu g=some u->∃ n:Nat,u = .int n) :
  Ws (Y4 300 2 Xk) [.ref 6,.int g] σ (fun u σ'=>Fr8 σ σ'/\ClsAt (Jl d g) σ'/\∃ n:Nat,u = .int n/\Y1 (Jl d g).nu g=some (.int n)):=by
 have l1000:1001<lim:=by decide
 refine Ws.fn rfl ?_
 unfold Xk
 have tail : ∀ (d':Cl) (τ:Hp) (loc:Nat->Option V),ClsAt d' τ->Fr8 σ τ->loc 0=some (.ref 6)->loc 1=some (.int g)->∀ n:Nat,Y1 d'.nu g=some (.int n)->
   Wp (Z73 (Z7f (Z78 Yz (Z77 (Yn 112 (Z5k "numbers")) (Z71 0)) (Z71 1))) (Y.end)) ⟨loc,τ⟩ (Qk.fn 300 fun u σ'=>Fr8 σ σ'/\ClsAt d' σ'/\∃ n:Nat,u = .int n/\Y1 d'.nu g=some (.int n)):=fun d' τ loc c1 c2 c3 c4 n c5=>by
  refine .seq (.ret (.op2 (.op1 (.getL (v:=.ref 6) c3 (W.kNumbers c1 (.getL (v:=.int g) c4 (W.itemD (X7 c1.nu) c5 ⟨_,_,rfl,Zs fun _=>Z7i,?_⟩)))))))
  dsimp only
  rw [Yg (c2.free hn (by decide))]
  exact⟨c2,c1,n,rfl,c5⟩
 refine .seq (.ite (.tcmp (.getL (v:=.int g) rfl (.op1 (.getL (v:=.ref 6) rfl (W.kNumbers h (W.inD (X7 h.nu) (.asBool ⟨fun hb=>?_,fun hb=>.end ?_⟩))))))))
 ·have hb:(Y1 d.nu g).isSome=false:=by simpa using hb
  have e:Jl d g={d with ga:=d.ga ++ [g],nu:=Y6 d.nu g (.int d.ga.length)}:=if_neg (by rw [hb];exact Z5t)
  rw [e]
  refine .seq (.assignSub (.call (.cons (.op1 (.getL (v:=.ref 6) rfl (W.kGates h (.nil (W.len (n:=d.ga.length) (Lv h.ga) (by exact(Z0y (Z1h (Z17 h1 (nlt 1000 1001 rfl)) l1000))) (.op1 (.getL (v:=.ref 6) rfl (W.kNumbers h (.getL (v:=.int g) rfl (W.setD h.nu rfl (by exact(Z1h (Z17 h2 (nlt 1000 1001 rfl)) l1000)) ?_)))))))))))))
  dsimp only
  have f2:=(Fr8.refl σ).upd (n:=10) (o:=some (.idict (Y6 d.nu g (.int d.ga.length)))) (by decide)
  have k2:ClsAt {d with nu:=Y6 d.nu g (.int d.ga.length)} (upd σ 10 (some (.idict (Y6 d.nu g (.int d.ga.length))))):=⟨h.i,h.a,h.cs,h.ga,Z4 _ _ _,h.op,h.wa⟩
  generalize upd σ 10 (some (.idict (Y6 d.nu g (.int d.ga.length))))=τ at f2 k2
  refine .seq (.expr (.meth (.op1 (.getL (v:=.ref 6) rfl (W.kGates k2 ⟨Xu k2.ga,.cons (.getL (v:=.int g) rfl (.nil (W.app k2.ga rfl (by rw [Z3g];show d.ga.length<lim;exact(Z1h (Z17 h1 (nlt 1000 1001 rfl)) l1000)) (.end ?_))))⟩)))))
  refine tail _ _ _ ⟨k2.i,k2.a,k2.cs,?_,k2.nu,k2.op,k2.wa⟩ (f2.upd (by decide)) rfl rfl d.ga.length ?_
  ·dsimp only;rw [Z4,Z3q];rfl
  ·dsimp only;rw [Xe,if_pos rfl]
 ·have hb:(Y1 d.nu g).isSome=true:=by simpa using hb
  have e:Jl d g=d:=if_pos hb
  rw [e]
  obtain⟨u,q⟩:=Option.isSome_iff_exists.mp hb
  obtain⟨n,rfl⟩:=hu u q
  exact tail d σ _ h (Fr8.refl _) rfl rfl n q
end L01
end Lay
namespace Lay
namespace L01
noncomputable def Qf(d:Cl)(x:Int):Cl:=if (Y1 d.op x).isSome then d else {d with op:=Y6 d.op x (.bool true),wa:=d.wa ++ [x]}
noncomputable def Qg(w g:Int):List Int:=if 0<w then [(g.natAbs:Int),-(g.natAbs:Int)] else [g]
noncomputable def Rm(d:Cl)(g:Int):Cl:=(Qg d.w g).foldl Qf (Jl d g.natAbs)
inductive EnI(σ:Hp)(g:Int)(n:Nat)(i:Nat)(e:Cl)(s:St):Prop
 |mk (h0:s.loc 0=some (.ref 6)) (h1:s.loc 1=some (.int g)) (h3:s.loc 3=some (.int n)) (f:Fr8 σ s.hp) (k:ClsAt e s.hp) (lo:e.op.length<=1000+i) (lw:e.wa.length<=1000+i)
theorem Cs{d:Cl}{σ:Hp}{g:Int}(h:ClsAt d σ)(hn:Free 260 σ)(h1:d.ga.length<=1000)(h2:d.nu.length<=1000)(h3:d.op.length<=1000)(h4:d.wa.length<=1000)(hu : ∀ u,Y1 d.nu (g.natAbs:Int)=some u->∃ n:Nat,u = .int n) :
  Ws (Y4 260 2 Yw) [.ref 6,.int g] σ (fun u σ'=>Fr8 σ σ'/\ClsAt (Rm d g) σ'/\∃ n:Nat,Y1 (Jl d g.natAbs).nu (g.natAbs:Int)=some (.int n)/\u = .int (if 0<g then n else -n)):=by
 have l1100:1100<lim:=by decide
 have sl:(Qg d.w g).length<=2:=by unfold Qg;split<;>simp
 have dw:(Jl d g.natAbs).w=d.w:=by unfold Jl;split<;>rfl
 have dop:(Jl d g.natAbs).op=d.op:=by unfold Jl;split<;>rfl
 have dwa:(Jl d g.natAbs).wa=d.wa:=by unfold Jl;split<;>rfl
 refine Ws.fn rfl ?_
 unfold Yw
 refine .seq (.assign (.call (.cons (.getL (v:=.int g) rfl (.nil (W.abs ?_))))))
 refine .seq (.assign (.meth (.getL (v:=.ref 6) rfl ⟨okK h (by rfl),.cons (.getL (v:=.int g.natAbs) rfl (.nil (.callM ((Nf (g:=g.natAbs) h (hn.mono (by decide)) h1 h2 hu).mono ?_))))⟩)))
 rintro _ τ ⟨f1,k1,n,rfl,hn1⟩
 refine .seq (.for (Wp.mono (Q:=fun v s1=>v = .tup ((Qg d.w g).map .int)/\s1.hp=τ/\s1.loc 0=some (.ref 6)/\s1.loc 1=some (.int g)/\s1.loc 3=some (.int n)) ?_ ?_))
 ·refine .ife (.tcmp (.op1 (.getL (v:=.ref 6) rfl (W.kWhole k1 (.pure (W.gt (.asBool ⟨fun hb=>?_,fun hb=>?_⟩)))))))
  ·have hb:0<d.w:=by rw [dw] at hb;exact of_decide_eq_true hb
   refine .tup (.cons (.getL (v:=.int g.natAbs) rfl (.cons (.op1 (.getL (v:=.int g.natAbs) rfl (W.neg (.nil (.mkTup rfl (show 2<=lim by decide) ⟨?_,rfl,rfl,rfl,rfl⟩))))))))
   unfold Qg;rw [if_pos hb];rfl
  ·have hb : ¬ 0<d.w:=by rw [dw] at hb;exact of_decide_eq_false hb
   refine .tup (.cons (.getL (v:=.int g) rfl (.nil (.mkTup rfl (show 1<=lim by decide) ⟨?_,rfl,rfl,rfl,rfl⟩))))
   unfold Qg;rw [if_neg hb];rfl
 rintro _ ⟨loc,_⟩ ⟨rfl,rfl,c0,c1,c3⟩
 refine⟨rfl,.forS (xs:=(Qg d.w g).map .int) (fun i s=>EnI σ g n i (((Qg d.w g).take i).foldl Qf (Jl d g.natAbs)) s) ⟨c0,c1,c3,f1,k1,by simp [dop,h3],by simp [dwa,h4]⟩ (fun _ _ _=>V3 _) ?_ ?_⟩
 ·rintro i s x ⟨a0,a1,a3,a4,a5,a7,a8⟩ hx
  rw [Z30] at hx
  obtain⟨y,hy,rfl⟩:=Z50.mp hx
  have hi:=(Z2y.mp hy).1
  rw [Z4s,hy]
  simp only [Option.toList,Z2p,Z2q,List.foldl_nil]
  generalize ((Qg d.w g).take i).foldl Qf (Jl d g.natAbs)=e at a5 a7 a8
  refine .setL (.seq (.ite (.tcmp (.getL (v:=.int y) rfl (.op1 (.getL (v:=.ref 6) a0 (W.kOpened a5 (W.inD (X7 a5.op) (.asBool ⟨fun hb=>?_,fun hb=>.end (.end ?_)⟩)))))))))
  ·have hb:(Y1 e.op y).isSome=false:=by simpa using hb
   rw [show Qf e y=_ from if_neg (by rw [hb];exact Z5t)]
   refine .seq (.assignSub (.pure (.op1 (.getL (v:=.ref 6) a0 (W.kOpened a5 (.getL (v:=.int y) rfl (W.setD a5.op rfl (by exact(Xw (Ze 334 (Zq (Zo 1100) Z0) (Ze 367 (Zb Z1 Ys) (Ze 367 (Zq Za Z1) (Ze 367 (Zb Zp (Z8 (Zo 1000) Za)) (Xn 366 (Zy Zp Z0)))))) rfl l1100 sl hi a7)) ?_)))))))
   dsimp only
   have f2:=a4.upd (n:=11) (o:=some (.idict (Y6 e.op y (.bool true)))) (by decide)
   have k2:ClsAt {e with op:=Y6 e.op y (.bool true)} (upd s.hp 11 (some (.idict (Y6 e.op y (.bool true))))):=⟨a5.i,a5.a,a5.cs,a5.ga,a5.nu,Z4 _ _ _,a5.wa⟩
   generalize upd s.hp 11 (some (.idict (Y6 e.op y (.bool true))))=τ2 at f2 k2
   refine .seq (.expr (.meth (.op1 (.getL (v:=.ref 6) a0 (W.kWaiting k2 ⟨Xu k2.wa,.cons (.getL (v:=.int y) rfl (.nil (W.app k2.wa rfl (by rw [Z3g];show e.wa.length<lim;exact(Xw (Ze 334 (Zq (Zo 1100) Z0) (Ze 367 (Zb Z1 Ys) (Ze 367 (Zq Za Z1) (Ze 367 (Zb Zp (Z8 (Zo 1000) Za)) (Xn 366 (Zy Zp Z0)))))) rfl l1100 sl hi a8)) (.end (.end ?_)))))⟩)))))
   have kl:=Wu e.op y (.bool true)
   refine⟨a0,a1,a3,f2.upd (by decide),⟨k2.i,k2.a,k2.cs,k2.ga,k2.nu,k2.op,?_⟩,by dsimp only;exact(Ye (Zd (Zb Z0 (Z8 (Zo 1000) Z1)) (Zd (Zb Za (Y0 Z0)) (Zh Za (Z8 (Zo 1000) (Y0 Z1))))) rfl a7 kl),by simp;exact(Zw (Zd (Zb Z0 (Z8 (Zo 1000) Z1)) (Zh (Y0 Z0) (Z8 (Zo 1000) (Y0 Z1)))) rfl a8)⟩
   dsimp only;rw [Z4,Z3q];rfl
  ·have hb:(Y1 e.op y).isSome=true:=by simpa using hb
   rw [show Qf e y=_ from if_pos hb]
   exact⟨a0,a1,a3,a4,a5,by lia,by lia⟩
 ·rintro s ⟨a0,a1,a3,a4,a5,_,_⟩
  rw [Z3g,Z4t] at a5
  have hc:cut 260 s.hp=s.hp:=Yg (a4.free hn (by decide))
  refine .seq (.ret (.ife (.tcmp (.getL a1 (.pure (W.gt (.asBool ⟨fun hb=>.getL a3 ⟨_,_,rfl,Zs fun _=>Z7i,?_⟩,fun hb=>.op1 (.getL a3 (W.neg ⟨_,_,rfl,Zs fun _=>Z7i,?_⟩))⟩)))))))
  ·rw [hc]
   exact⟨a4,a5,n,hn1,by rw [if_pos (of_decide_eq_true hb)]⟩
  ·rw [hc]
   exact⟨a4,a5,n,hn1,by rw [if_neg (of_decide_eq_false hb)]⟩
theorem many_ws{d:Cl}{σ:Hp}(h:ClsAt d σ)(hn:Free 320 σ)(h1:d.ga.length<=1000):Ws (Y4 320 1 Jy) [.ref 6] σ (fun v σ'=>v = .int (d.ga.length-1)/\σ'=σ):=by
 have l1100:1100<lim:=by decide
 refine Ws.fn rfl ?_
 unfold Jy
 refine .seq (.ret (.op2 (.call (.cons (.op1 (.getL (v:=.ref 6) rfl (W.kGates h (.nil (W.len (n:=d.ga.length) (Lv h.ga) (by exact(Z0y (Z1h (Z17 h1 (nlt 1000 1100 rfl)) l1100))) (.pure (W.sub ⟨_,_,rfl,Zs fun _=>Z7i,rfl,Yg hn⟩)))))))))))
theorem Es{d:Cl}{σ:Hp}{n:Nat}{g:Int}(h:ClsAt d σ)(hn:Free 680 σ)(h1:d.ga.length<=1000)(hg:d.ga[n]?=some g):Ws (Y4 680 2 J2) [.ref 6,.int n] σ (fun v σ'=>v = .int g/\σ'=σ):=by
 have hl:=(Z2y.mp hg).1
 refine Ws.fn rfl ?_
 unfold J2
 refine .seq (.ret (.op2 (.op1 (.getL (v:=.ref 6) rfl (W.kGates h (.getL (v:=.int n) rfl (W.itemL (u:=.int g) (Jm h.ga) (by lia) (by exact(Zw (Zd (Zb Z0 (Zo 1000)) (Zd (Zq Z1 Z0) (J6 Xm (Vt 2 40)))) rfl h1 hl)) (by rw [Z6v,Z30,hg];rfl) ⟨_,_,rfl,Zs fun _=>Z7i,rfl,Yg hn⟩)))))))
end L01
end Lay
namespace Lay
namespace L01
noncomputable def Num(d:Cl)(g n:Nat):Prop:=Y1 d.nu (g:Int)=some (.int n)
noncomputable def Lit(d:Cl)(s x:Int):Prop := ∃ n:Nat,Num d s.natAbs n/\x=if 0<s then (n:Int) else -(n:Int)
noncomputable def Model(gs:List G)(τ:Nat->Bool):Prop := ∀ (i:Nat) (x:G),gs[i]?=some x->match x with
 |.tru=>τ i=true
 |.and ps=>τ i=true↔∀ p∈ps,Yes τ p
 |_=>True
theorem Model.app{gs t:List G}{τ:Nat->Bool}(h:Model (gs++t) τ):Model gs τ:=fun i x q=>h i x (by rw [Z2r (Z2y.mp q).1];exact q)
noncomputable def Reads(d:Cl)(τ τ':Nat->Bool):Prop := ∀ g n,Num d g n->τ' n=τ g
noncomputable def Sat(τ:Nat->Bool)(cs:List (List Int)):Prop := ∀ c∈cs,∃ x∈c,Yes τ x
noncomputable def Fal(φ:Nat->Option Bool)(x:Int):Prop:=φ x.natAbs=some (!decide (0<x))
noncomputable def Tru(φ:Nat->Option Bool)(x:Int):Prop:=φ x.natAbs=some (decide (0<x))
theorem Fal.neg{φ:Nat->Option Bool}{x:Int}(h:x≠0):Fal φ (-x)↔Tru φ x:=by
 unfold Fal Tru
 rw [Z6h]
 by_cases q:0<x
 ·rw [decide_eq_true q,decide_eq_false (show ¬ 0 < -x by lia)];rfl
 ·rw [decide_eq_false q,decide_eq_true (show 0 < -x by exact((Z6b h).elim (Wc (Zd (Xp Zg X0) (J6 X0 (Wj Zg))) rfl) (Wc (Ze 2 (Qu X0 Zg) (Zd (Xp X0 Zg) (J6 X0 (Wj Zg)))) rfl q)))];rfl
noncomputable def OkC(φ:Nat->Option Bool)(c:List Int):Prop:=c≠[]/\∀ x∈c,(∀ y∈c,y≠x->Fal φ y)->Tru φ x
noncomputable def Closed(φ:Nat->Option Bool)(cs:List (List Int)):Prop := ∀ c∈cs,OkC φ c
noncomputable abbrev opK(d:Cl):List Int:=d.op.map (·.1)
noncomputable abbrev nuK(d:Cl):List Int:=d.nu.map (·.1)
structure Inv(gs:List G)(tops:List Int)(d:Cl):Prop where
 ga:d.ga=0::nuK d
 nd:(nuK d).Nodup
 key : ∀ k∈nuK d,1<=k/\k<gs.length
 num : ∀ g n,Num d g n->1<=n/\d.ga[n]?=some (g:Int)
 val : ∀ k u,Y1 d.nu k=some u->∃ n:Nat,u = .int n
 opn:(opK d).Nodup
 opk : ∀ s∈opK d,1<=s.natAbs/\(s.natAbs:Int)∈nuK d
 was : ∀ s∈d.wa,s∈opK d
 wan:d.wa.Nodup
 snd : ∀ τ τ',Model gs τ->Reads d τ τ'->(∀ t∈tops,Yes τ t)->Sat τ' d.cs
 row : ∀ c∈d.cs,(Asc c/\c.length<=5)/\∀ x∈c,1<=x.natAbs/\x.natAbs<d.ga.length
structure Ext(d d':Cl):Prop where
 w:d'.w=d.w
 num : ∀ g n,Num d g n->Num d' g n
 op : ∀ s∈opK d,s∈opK d'
 cs:d.cs<+:d'.cs
 ga:d.ga<+:d'.ga
 old : ∀ s∈opK d,s∉d.wa->s∉d'.wa
structure Stp(d d':Cl):Prop where
 new : ∀ s∈opK d',s∉d'.wa->s∈opK d/\s∉d.wa
 cnt:d'.op.length+d.wa.length=d.op.length+d'.wa.length
structure Low(B:Nat->Prop)(d d':Cl):Prop where
 nu : ∀ k∈nuK d',k∈nuK d\/B k.natAbs
 wa : ∀ s∈d'.wa,s∈d.wa\/B s.natAbs
theorem Ext.refl(d:Cl):Ext d d:=⟨rfl,fun _ _ h=>h,fun _ h=>h,Z4n,Z4n,fun _ _ h=>h⟩
theorem Ext.trans{a b c:Cl}(h:Ext a b)(k:Ext b c):Ext a c :=
 ⟨k.w.trans h.w,fun g n q=>k.num g n (h.num g n q),fun s q=>k.op s (h.op s q),h.cs.trans k.cs,h.ga.trans k.ga,fun s q r=>k.old s (h.op s q) (h.old s q r)⟩
theorem Stp.refl(d:Cl):Stp d d:=⟨fun _ h k=>⟨h,k⟩,rfl⟩
theorem Stp.trans{a b c:Cl}(h:Stp a b)(k:Stp b c):Stp a c :=
 ⟨fun s q r=>h.new s (k.new s q r).1 (k.new s q r).2,by have:=h.cnt;have:=k.cnt;exact(Ro (Zd (Zj (Z8 Z0 Z1) (Z8 Za Zp)) (Zd (Zj (Z8 X4 Zp) (Z8 Z0 Vh)) (J9 (Z8 X4 Z1) (Z8 Za Vh)))) rfl (by assumption) this)⟩
theorem Low.refl{B:Nat->Prop}(d:Cl):Low B d d:=⟨fun _ h=>.inl h,fun _ h=>.inl h⟩
theorem Low.trans{B:Nat->Prop}{a b c:Cl}(h:Low B a b)(k:Low B b c):Low B a c :=
 ⟨fun s q=>(k.nu s q).elim (h.nu s) .inr,fun s q=>(k.wa s q).elim (h.wa s) .inr⟩
theorem Low.mono{B B':Nat->Prop}{a b:Cl}(h:Low B a b)(k : ∀ i,B i->B' i):Low B' a b :=
 ⟨fun s q=>(h.nu s q).imp id (k _),fun s q=>(h.wa s q).imp id (k _)⟩
theorem Num.fn{d:Cl}{g n n':Nat}(h:Num d g n)(h':Num d g n'):n=n':=Int.ofNat.inj (V.int.inj (Z54 (h.symm.trans h')))
theorem Lit.fn{d:Cl}{s x x':Int}(h:Lit d s x)(h':Lit d s x'):x=x':=by
 obtain⟨n,h1,rfl⟩:=h
 obtain⟨n',h2,rfl⟩:=h'
 rw [h1.fn h2]
theorem Lit.ext{d d':Cl}{s x:Int}(e:Ext d d')(h:Lit d s x):Lit d' s x:=by
 obtain⟨n,h1,rfl⟩:=h
 exact⟨n,e.num _ _ h1,rfl⟩
theorem F3{s x:Int}{n:Nat}(h:x=if 0<s then (n:Int) else -(n:Int)):x.natAbs=n:=by
 subst h;split<;>lia
theorem Closed.ext{d d':Cl}(e:Ext d d'){φ:Nat->Option Bool}(h:Closed φ d'.cs):Closed φ d.cs:=fun c hc=>h c (e.cs.subset hc)
theorem P2{gs:List G}{L:List Int}(c:gs.length<=20)(nd:L.Nodup)(h : ∀ s∈L,In gs s):L.length<=38:=by
 refine Z16 (Y8 (b:=upK 19++(upK 19).map (fun x => -x)) nd fun s hs=>?_) (by decide)
 obtain⟨h1,h2⟩:=h s hs
 have q:((s.natAbs:Nat):Int)∈upK 19:=upK_mem.mpr ⟨h1,by exact(Zw (Zd (Zb Z0 (Zo 20)) (Zd (Zq Z1 Z0) (Zh Z1 (Zo 19)))) rfl c h2)⟩
 rw [Z3w,Z44]
 rcases Int.le_total 0 s with r|r
 ·exact .inl (by rwa [show ((s.natAbs:Nat):Int)=s by lia] at q)
 ·exact .inr ⟨_,q,by lia⟩
section
variable{gs:List G}{tops:List Int}{d:Cl}(h:Inv gs tops d)
include h
theorem Inv.app(t:List G):Inv (gs++t) tops d :=
 {h with key:=fun k q=>⟨(h.key k q).1,by rw [Z3b];have:=(h.key k q).2;exact(Vg (Zd (Xp Zg Zu) (J6 Zg (Xh (Z8 Z0 Z1)))) rfl this)⟩,snd:=fun τ τ' a=>h.snd τ τ' a.app}
theorem Inv.inj{g g' n:Nat}(a:Num d g n)(b:Num d g' n):g=g':=Int.ofNat.inj (Z54 ((h.num _ _ a).2.symm.trans (h.num _ _ b).2))
theorem Inv.numOf{g:Nat}(hg:(g:Int)∈nuK d) : ∃ n,Num d g n:=by
 obtain⟨u,hu⟩:=Option.isSome_iff_exists.mp ((Yk d.nu (g:Int)).mpr hg)
 obtain⟨n,rfl⟩:=h.val _ _ hu
 exact⟨n,hu⟩
theorem Inv.lit_row{s x:Int}(hl:Lit d s x):1<=x.natAbs/\x.natAbs<d.ga.length:=by
 obtain⟨n,h1,h2⟩:=hl
 rw [F3 h2]
 obtain⟨h3,h4⟩:=h.num _ _ h1
 exact⟨h3,(Z2y.mp h4).1⟩
theorem Lit.reads{s x:Int}{τ τ':Nat->Bool}(hl:Lit d s x)(hr:Reads d τ τ'):Yes τ' x↔Yes τ s:=by
 have h0:=(h.lit_row hl).1
 obtain⟨n,h1,h2⟩:=hl
 have:=F3 h2
 unfold Yes
 rw [this,hr _ _ h1]
 have:decide (0<x)=decide (0<s):=by
  rw [decide_eq_decide]
  subst h2
  split<;>omega
 rw [this]
theorem Inv.bounds(c:gs.length<=20):d.nu.length<=19/\d.ga.length<=20/\d.op.length<=38/\d.wa.length<=38:=by
 have h1:(nuK d).length<=(upK 19).length:=Y8 h.nd fun k q=>by
  have:=h.key k q
  rw [show k=((k.natAbs:Nat):Int) by omega,upK_mem];exact⟨(J1 (Zd (Xq Xx Zg) (Ze (-1) (Yr Zu Zg) (Zh Yi Z0))) rfl this.1 (Z6i (Wc (Zd (Xq Xx Zg) (Yv X0 Zg)) rfl this.1))),(Vg (Zd (Zb Z0 (Zo 20)) (Zd (Xp Zg Zu) (Zd (Yr Xm Zg) (Zh Z1 (Zo 19))))) rfl c this.2 (Z6i (Wc (Zd (Xq Xx Zg) (Yv X0 Zg)) rfl this.1)))⟩
 have h2:d.ga.length=1+d.nu.length:=by rw [h.ga];simp;lia
 have h3:=P2 c h.opn fun s hs=>by
  obtain⟨q1,q2⟩:=h.opk s hs
  have:=h.key _ q2
  exact⟨q1,by exact(Zw (Zd (Xp Zu Xm) (Zy Z0 Z1)) rfl this.2)⟩
 have h4:=Y8 h.wan h.was
 have h5:(upK 19).length=19:=by decide
 simp only [Z3g,h5] at h1 h3 h4
 exact⟨(Y2 (Zd (Zb Z0 (Zo 19)) (Zh Z0 (Zo 19))) rfl h1),⟨(Zw (Zd (Zj Z0 (Z8 Yi Z1)) (Zd (Zb Z1 (Zo 19)) (Zh Z0 (Zo 20)))) rfl h2 h1),⟨(Y2 (Zd (Zb Z0 (Zo 38)) (Zh Z0 (Zo 38))) rfl h3),(Zw (Zd (Zb Z0 (Zo 38)) (Zd (Zb Z1 Z0) (Zh Z1 (Zo 38)))) rfl h3 h4)⟩⟩⟩
end
end L01
end Lay
namespace Lay
namespace L01
variable{gs:List G}{tops:List Int}{d:Cl}
structure Step(gs:List G)(tops:List Int)(B:Nat->Prop)(d d':Cl):Prop where
 iv:Inv gs tops d'
 ext:Ext d d'
 stp:Stp d d'
 low:Low B d d'
theorem Step.refl{B:Nat->Prop}(h:Inv gs tops d):Step gs tops B d d:=⟨h,Ext.refl d,Stp.refl d,Low.refl d⟩
theorem Step.trans{B:Nat->Prop}{a b c:Cl}(h:Step gs tops B a b)(k:Step gs tops B b c):Step gs tops B a c:=⟨k.iv,h.ext.trans k.ext,h.stp.trans k.stp,h.low.trans k.low⟩
theorem Step.mono{B B':Nat->Prop}{a b:Cl}(h:Step gs tops B a b)(k : ∀ i,B i->B' i):Step gs tops B' a b:=⟨h.iv,h.ext,h.stp,h.low.mono k⟩
theorem Bq{g:Nat}{B:Nat->Prop}(h:Inv gs tops d)(h1:1<=g)(hg:g<gs.length)(hB:B g):Step gs tops B d (Jl d g)/\(g:Int)∈nuK (Jl d g)/\(Jl d g).cs=d.cs:=by
 unfold Jl
 split
 ·rename_i q
  exact⟨.refl h,(Yk _ _).mp q,rfl⟩
 ·rename_i q
  have hk:(g:Int)∉nuK d:=fun k=>q ((Yk _ _).mpr k)
  have hkeys:(Y6 d.nu (g:Int) (.int d.ga.length)).map (·.1)=nuK d ++ [(g:Int)]:=by rw [Jk,if_neg hk]
  have hnone:Y1 d.nu (g:Int)=none:=Option.not_isSome_iff_eq_none.mp q
  have hnum : ∀ g' n:Nat,Y1 d.nu (g':Int)=some (.int n)->Y1 (Y6 d.nu (g:Int) (.int d.ga.length)) (g':Int)=some (.int n):=fun g' n hn=>by
   rw [Xe]
   by_cases e:(g':Int)=g
   ·rw [e,hnone] at hn;cases hn
   ·rw [if_neg e];exact hn
  refine⟨⟨⟨?_,?_,?_,?_,?_,h.opn,?_,h.was,h.wan,?_,?_⟩,⟨rfl,hnum,fun _ k=>k,Z4n,Z4m _ _,fun _ _ k=>k⟩,⟨fun _ k r=>⟨k,r⟩,rfl⟩,?_,fun _ k=>.inl k⟩,?_,rfl⟩
  ·dsimp only [nuK];rw [hkeys,h.ga];rfl
  ·dsimp only [nuK];exact Jt _ _ _ h.nd
  ·dsimp only [nuK];rw [hkeys];intro k hk
   rcases Z3w.mp hk with q|q
   ·exact h.key k q
   ·rw [Z49.mp q];exact⟨(Y2 (Zd (Zb Yi Z0) (Yv Xx Zu)) rfl h1),(Zw (Zd (Zq Z0 Z1) (J6 Zu Xm)) rfl hg)⟩
  ·intro g' n hn
   unfold Num at hn
   dsimp only at hn ⊢
   rw [Xe] at hn
   split at hn
   ·rename_i e
    obtain rfl:d.ga.length=n:=Int.ofNat.inj (V.int.inj (Z54 hn))
    refine⟨by rw [h.ga];simp,?_⟩
    rw [Z2s (Z12 _),Z1y,e];rfl
   ·obtain⟨h1,h2⟩:=h.num g' n hn
    exact⟨h1,by rw [Z2r (Z2y.mp h2).1];exact h2⟩
  ·intro k u hu
   dsimp only at hu
   rw [Xe] at hu
   split at hu
   ·exact⟨_,(Z54 hu).symm⟩
   ·exact h.val k u hu
  ·intro s hs
   obtain⟨h1,h2⟩:=h.opk s hs
   exact⟨h1,by dsimp only [nuK];rw [hkeys];exact Z3x _ h2⟩
  ·intro τ τ' hm hr
   exact h.snd τ τ' hm fun g' n hn=>hr g' n (hnum g' n hn)
  ·intro c hc
   obtain⟨h1,h2⟩:=h.row c hc
   exact⟨h1,fun x hx=>⟨(h2 x hx).1,by have:=(h2 x hx).2;dsimp only;rw [Z3b];exact(Ye (Zd (Zq Z0 Z1) (Zy Z0 (Z8 Z1 Za))) rfl this)⟩⟩
  ·dsimp only [nuK];rw [hkeys]
   intro k hk
   rcases Z3w.mp hk with q|q
   ·exact .inl q
   ·rw [Z49.mp q];exact .inr hB
  ·dsimp only [nuK];rw [hkeys];exact Z3y _ (Z49.mpr rfl)
theorem H5{s:Int}{B:Nat->Prop}(h:Inv gs tops d)(hs:1<=s.natAbs)(hk:(s.natAbs:Int)∈nuK d)(hB:B s.natAbs):Step gs tops B d (Qf d s)/\s∈opK (Qf d s)/\(Qf d s).nu=d.nu/\(Qf d s).cs=d.cs:=by
 unfold Qf
 split
 ·rename_i q
  exact⟨.refl h,(Yk _ _).mp q,rfl,rfl⟩
 ·rename_i q
  have hk2:s∉opK d:=fun k=>q ((Yk _ _).mpr k)
  have hkeys:(Y6 d.op s (.bool true)).map (·.1)=opK d ++ [s]:=by rw [Jk,if_neg hk2]
  have hw:s∉d.wa:=fun k=>hk2 (h.was s k)
  have hw2 : ∀ x,x∈d.wa ++ [s]->x∈d.wa\/x=s:=fun x hx=>(Z3w.mp hx).imp id Z49.mp
  refine⟨⟨⟨h.ga,h.nd,h.key,h.num,h.val,Jt _ _ _ h.opn,?_,?_,?_,h.snd,h.row⟩,⟨rfl,fun _ _ k=>k,?_,Z4n,Z4n,fun x hx r q=>(hw2 x q).elim r fun(e:x=s)=>hk2 (e▸hx)⟩,⟨?_,?_⟩,fun _ k=>.inl k,fun x hx=>(hw2 x hx).imp id fun(e:x=s)=>e▸hB⟩,?_,rfl,rfl⟩
  ·intro x hx
   dsimp only [opK] at hx
   rw [hkeys] at hx
   rcases Z3w.mp hx with q|q
   ·exact h.opk x q
   ·rw [Z49.mp q];exact⟨hs,hk⟩
  ·intro x hx
   dsimp only [opK] at hx ⊢
   rw [hkeys]
   rcases Z3w.mp hx with q|q
   ·exact Z3x _ (h.was x q)
   ·exact Z3y _ q
  ·dsimp only
   rw [List.nodup_append]
   refine⟨h.wan,Z4k _ _,fun a ha b hb e=>hw ?_⟩
   rw [<-Z49.mp hb,<-e];exact ha
  ·intro x hx
   dsimp only [opK];rw [hkeys];exact Z3x _ hx
  ·intro x hx hx2
   dsimp only [opK] at hx hx2
   rw [hkeys] at hx
   rw [Z3w,not_or] at hx2
   rcases Z3w.mp hx with q|q
   ·exact⟨q,hx2.1⟩
   ·exact absurd q hx2.2
  ·have:=congrArg Z3a hkeys
   simp only [Z3g,Z3b,Z3c,Z3h] at this ⊢
   exact(Ye (Zd (Zj Z0 (Z8 Z1 (Y0 Wt))) (J9 (Z8 Z0 Za) (Z8 Z1 (Z8 Za (Y0 Wt))))) rfl this)
  ·dsimp only [opK];rw [hkeys];exact Z3y _ (Z49.mpr rfl)
inductive EntR(gs:List G)(tops:List Int)(B:Nat->Prop)(d:Cl)(g:Int)(d':Cl):Prop
 |mk (st:Step gs tops B d d') (op:g∈opK d') (cs:d'.cs=d.cs) (li : ∀ n:Nat,Y1 (Jl d g.natAbs).nu (g.natAbs:Int)=some (.int n)->Lit d' g (if 0<g then (n:Int) else -(n:Int))) (all : ∀ s,s.natAbs=g.natAbs->0<d.w->s∈opK d')
theorem H6{B:Nat->Prop}(L:List Int) : ∀ (e:Cl),Inv gs tops e->(∀ s∈L,(1<=s.natAbs/\(s.natAbs:Int)∈nuK e)/\B s.natAbs)->Step gs tops B e (L.foldl Qf e)/\(∀ s∈L,s∈opK (L.foldl Qf e))/\(L.foldl Qf e).nu=e.nu/\(L.foldl Qf e).cs=e.cs:=by
 induction L with
 |nil=>intro e he _;exact⟨.refl he,(fun _ q=>nomatch q),rfl,rfl⟩
 |cons s r ih =>
  intro e he hs
  have hs1:=hs s (Z41 ..)
  obtain⟨b1,b3,b4,b6⟩:=H5 he hs1.1.1 hs1.1.2 hs1.2
  obtain⟨c1,c3,c4,c5⟩:=ih (Qf e s) b1.iv fun x hx=>by
   have:=hs x (Z40 _ hx)
   rw [nuK,b4];exact this
  rw [Z2q]
  refine⟨b1.trans c1,fun x hx=>?_,c4.trans b4,c5.trans b6⟩
  rcases Z3z.mp hx with rfl|q
  ·exact c1.ext.op _ b3
  ·exact c3 x q
theorem Pr{g:Int}{B:Nat->Prop}(h:Inv gs tops d)(hg:In gs g)(hB:B g.natAbs):EntR gs tops B d g (Rm d g):=by
 obtain⟨a1,a3,a6⟩:=Bq h hg.1 hg.2 hB
 unfold Rm
 have hab : ∀ s∈Qg d.w g,s.natAbs=g.natAbs:=by
  unfold Qg
  split<;>simp
 obtain⟨c1,c3,c4,c5⟩:=H6 (B:=B) (Qg d.w g) _ a1.iv fun s hs=>by rw [hab s hs];exact⟨⟨hg.1,a3⟩,hB⟩
 have hmem:g∈Qg d.w g:=by
  unfold Qg
  split
  ·have:g=(g.natAbs:Int)\/g = -(g.natAbs:Int):=by lia
   simpa using this
  ·simp
 refine⟨a1.trans c1,c3 g hmem,c5.trans a6,fun n hn=>⟨n,?_,rfl⟩,fun s hs hw=>c3 s ?_⟩
 ·unfold Num
  rw [c4];exact hn
 ·unfold Qg
  rw [if_pos hw]
  have:s=(g.natAbs:Int)\/s = -(g.natAbs:Int):=by lia
  simpa using this
theorem Asc.le{L r:List Int}(h:Hu L r):r.length<=L.length:=Y8 h.2.nodup fun x hx=>(h.1 x).mp hx
theorem OkC.clash{φ:Nat->Option Bool}{L:List Int}(h:Hq L)(hz : ∀ x∈L,x≠0):OkC φ L:=by
 obtain⟨a,h1,h2⟩:=h
 refine⟨Z4b h1,fun x hx q=>?_⟩
 have a0:=hz a h1
 by_cases e:a=x
 ·subst e;exact(Fal.neg a0).mp (q _ h2 (by lia))
 ·by_cases e2 : -a=x
  ·subst e2
   have:=q a h1 e
   rw [<-Z6o a] at this
   exact(Fal.neg (by lia)).mp this
  ·have k1:=q a h1 e
   have k2:=(Fal.neg a0).mp (q _ h2 e2)
   unfold Fal at k1
   unfold Tru at k2
   rw [k1] at k2
   have:=Z54 k2
   cases q:decide (0<a)<;>rw [q] at this<;>cases this
structure TelR(gs:List G)(tops:List Int)(d:Cl)(L:List Int)(o:Option (List Int)):Prop where
 st:Step gs tops (fun _=>False) d {d with cs:=Cd d.cs o}
 ok : ∀ φ,Closed φ (Cd d.cs o)->OkC φ L
 le:(Cd d.cs o).length<=d.cs.length+1
theorem Gl{L:List Int}{o:Option (List Int)}(h:Inv gs tops d)(ho:Res L o)(hl:L.length<=5)(hL : ∀ x∈L,1<=x.natAbs/\x.natAbs<d.ga.length)
  (hs : ∀ τ τ',Model gs τ->Reads d τ τ'->(∀ t∈tops,Yes τ t)->∃ x∈L,Yes τ' x):TelR gs tops d L o:=by
 cases o with
 |none=>exact⟨.refl h,fun φ _=>OkC.clash ho fun x hx e=>by have:=(hL x hx).1;subst e;exact absurd this (by decide),Z14 _⟩
 |some r =>
  obtain⟨h1,h2,h3⟩:=ho
  have hm : ∀ c,c∈Cd d.cs (some r)->c∈d.cs\/c=r:=fun c hc=>(Z3w.mp hc).imp id Z49.mp
  refine⟨⟨⟨h.ga,h.nd,h.key,h.num,h.val,h.opn,h.opk,h.was,h.wan,?_,?_⟩,⟨rfl,fun _ _ k=>k,fun _ k=>k,Z4m _ _,Z4n,fun _ _ k=>k⟩,⟨fun _ k r=>⟨k,r⟩,rfl⟩,fun _ k=>.inl k,fun _ k=>.inl k⟩,?_,by simp [Cd]⟩
  ·intro τ τ' hmo hr ht c hc
   rcases hm c hc with q|rfl
   ·exact h.snd τ τ' hmo hr ht c q
   ·obtain⟨x,hx,hy⟩:=hs τ τ' hmo hr ht
    exact⟨x,(h2 x).mpr hx,hy⟩
  ·intro c hc
   rcases hm c hc with q|rfl
   ·exact h.row c q
   ·exact⟨⟨h3,Z16 (Asc.le ⟨h2,h3⟩) hl⟩,fun x hx=>hL x ((h2 x).mp hx)⟩
  ·intro φ hc
   obtain⟨q1,q2⟩:=hc r (Z3y _ (Z49.mpr rfl))
   obtain⟨a,ha⟩:=Z2k _ q1
   exact⟨Z4b ((h2 a).mp ha),fun x hx q=>q2 x ((h2 x).mpr hx) fun y hy=>q y ((h2 y).mp hy)⟩
end L01
end Lay
namespace Lay
namespace L01
variable{gs:List G}{tops:List Int}{d:Cl}{kn:List (List Int×V)}{σ:Hp}
noncomputable def PartDone(d:Cl)(s p:Int):Prop:=p∈opK d/\∃ x y,Lit d s x/\Lit d p y/\∀ φ,Closed φ d.cs->Fal φ y->Fal φ x
noncomputable def Done(gs:List G)(d:Cl)(s:Int):Prop := ∀ x:G,gs[s.natAbs]?=some x->match x with
 |.tru => ∃ n,Num d s.natAbs n/\∀ φ,Closed φ d.cs->φ n=some true
 |.and ps=>if 0<s then ∀ p∈ps,PartDone d s p
   else (∀ p∈ps,-p∈opK d)/\∃ x,Lit d s x/\∀ φ,Closed φ d.cs->(∀ p∈ps,∀ y,Lit d (-p) y->Fal φ y)->Fal φ x
 |_=>True
theorem PartDone.ext{d d':Cl}{s p:Int}(e:Ext d d')(h:PartDone d s p):PartDone d' s p:=by
 obtain⟨h1,x,y,h2,h3,h4⟩:=h
 exact⟨e.op _ h1,x,y,h2.ext e,h3.ext e,fun φ q=>h4 φ (q.ext e)⟩
theorem Done.ext{d d':Cl}{s:Int}(e:Ext d d')(h:Done gs d s):Done gs d' s:=by
 intro x hx
 have:=h x hx
 cases x with
 |tru=>obtain⟨n,h1,h2⟩:=this;exact⟨n,e.num _ _ h1,fun φ q=>h2 φ (q.ext e)⟩
 |and ps =>
  dsimp only at this ⊢
  split
  ·rename_i c
   rw [if_pos c] at this
   exact fun p hp=>(this p hp).ext e
  ·rename_i c
   rw [if_neg c] at this
   obtain⟨h1,x,h2,h3⟩:=this
   exact⟨fun p hp=>e.op _ (h1 p hp),x,h2.ext e,fun φ q r=>h3 φ (q.ext e) fun p hp y hy=>r p hp y (hy.ext e)⟩
 |non=>trivial
 |inp=>trivial
inductive OpR(gs:List G)(tops:List Int)(B:Nat->Prop)(d:Cl)(σ:Hp)(s:Int)(τ:Hp):Prop
 |mk (d':Cl) (f:Fr8 σ τ) (k:ClsAt d' τ) (st:Step gs tops B d d') (le:d'.cs.length<=d.cs.length+4) (dn:Done gs d' s)
inductive OpF(gs:List G)(tops:List Int)(B:Nat->Prop)(d:Cl)(σ:Hp)(s:Int)(n:Nat)(ps:List Int)(i:Nat)(s':St):Prop
 |mk (h0:s'.loc 0=some (.ref 6)) (h3:s'.loc 3=some (.int n)) (d':Cl) (f:Fr8 σ s'.hp) (k:ClsAt d' s'.hp) (st:Step gs tops B d d') (le:d'.cs.length<=d.cs.length+i) (dn : ∀ p∈ps.take i,PartDone d' s p)
inductive OpC(gs:List G)(tops:List Int)(B:Nat->Prop)(d:Cl)(σ:Hp)(s:Int)(ps:List Int)(i:Nat)(acc:List V)(s':St):Prop
 |mk (h0:s'.loc 0=some (.ref 6)) (d':Cl) (ys:List Int) (e:acc=ys.map V.int) (f:Fr8 σ s'.hp) (k:ClsAt d' s'.hp) (st:Step gs tops B d d') (eq:d'.cs=d.cs) (l:ys.length=i) (h : ∀ j p,ps[j]?=some p->j<i-> -p∈opK d'/\∃ y,ys[j]?=some y/\Lit d' (-p) y)
inductive EnR(gs:List G)(tops:List Int)(B:Nat->Prop)(d:Cl)(σ:Hp)(g:Int)(u:V)(τ:Hp):Prop
 |mk (d':Cl) (x:Int) (e:u = .int x) (f:Fr8 σ τ) (k:ClsAt d' τ) (st:Step gs tops B d d') (cs:d'.cs=d.cs) (op:g∈opK d') (li:Lit d' g x) (all : ∀ s,s.natAbs=g.natAbs->0<d.w->s∈opK d')
theorem Qs{g:Int}{B:Nat->Prop}(c:gs.length<=20)(h:ClsAt d σ)(iv:Inv gs tops d)(hn:Free 260 σ)(hg:In gs g)(hB:B g.natAbs) :
  Ws (Y4 260 2 Yw) [.ref 6,.int g] σ (EnR gs tops B d σ g):=by
 obtain⟨b1,b2,b3,b4⟩:=iv.bounds c
 refine(Cs h hn (by exact(Z16 b2 (nle 20 1000 rfl))) (by exact(Z16 b1 (nle 19 1000 rfl))) (by exact(Z16 b3 (nle 38 1000 rfl))) (by exact(Z16 b4 (nle 38 1000 rfl))) (iv.val _)).mono ?_
 rintro _ σ' ⟨f,k,n,hn,rfl⟩
 obtain⟨e1,e2,e3,e4,e5⟩:=Pr iv hg hB
 exact⟨Rm d g,_,rfl,f,k,e1,e3,e2,e4 n hn,e5⟩
theorem G.kind_eq{x y:G}(h:(x.kind==y.kind)=true):x=y\/∃ ps qs,x = .and ps/\y = .and qs:=by
 cases x<;>cases y<;>first|exact .inl rfl|exact .inr ⟨_,_,rfl,rfl⟩|exact absurd h (by change ¬ ((Z5k _==Z5k _)=true);decide)
theorem G.kind_ne{x y:G}(h:(x.kind==y.kind)=false):x≠y:=fun e=>by subst e;rw [beq_self_eq_true] at h;cases h
end L01
end Lay
namespace Lay
namespace L01
variable{gs:List G}{tops:List Int}{d:Cl}{s:Int}{n:Nat}{o:Option (List Int)}{ps:List Int}
theorem fal_lit{φ:Nat->Option Bool}{y x:Int}(h:Fal φ y)(e:x=y):Fal φ x:=e▸h
theorem Mv{a b y:Int}(hy:y∈[a,b]):y=a\/y=b:=by simpa using hy
theorem Ai{p z:Int}(iv:Inv gs tops d)(hx:gs[s.natAbs]?=some (.and ps))(hs:0<s)(hp:p∈ps)(hlt:p.natAbs<s.natAbs)(ln:Lit d s n)(lz:Lit d p z)(op:p∈opK d)(ho:Res [-(n:Int),z] o) :
  TelR gs tops d [-(n:Int),z] o/\PartDone {d with cs:=Cd d.cs o} s p:=by
 have hz:=iv.lit_row lz
 have hnr:=iv.lit_row ln
 obtain⟨m,hm,hm2⟩:=lz
 obtain⟨k,hk,hk2⟩:=ln
 obtain rfl:n=k:=(F3 hk2)
 have hzm:=F3 hm2
 have nm:n≠m:=fun e=>by subst e;exact absurd (iv.inj hk hm) (by exact(Zw (Zd (Zq Z0 Z1) (Zd (Zj Z1 Z0) Ho)) rfl hlt))
 have t:=Gl iv ho (show 2<=5 by decide) (fun y hy=>by
   rcases Mv hy with rfl|rfl
   ·rw [Z6h];exact hnr
   ·exact hz) (fun τ τ' hmo hr _=>by
   by_cases q:Yes τ' n
   ·refine⟨z,by simp,(Lit.reads iv ⟨m,hm,hm2⟩ hr).mpr ?_⟩
    have q1:=(Lit.reads iv ⟨n,hk,hk2⟩ hr).mp q
    refine(hmo _ _ hx).mp ?_ p hp
    unfold Yes at q1
    rw [q1];exact decide_eq_true hs
   ·exact⟨-n,by simp,(Yes.neg (by exact(Z6k (Y2 (Zd (Zb Yi Z0) (J6 X0 Zu)) rfl hnr.1)))).mpr q⟩)
 refine⟨t,op,n,z,⟨n,hk,hk2⟩,⟨m,hm,hm2⟩,fun φ q1 q2=>?_⟩
 have:=(t.ok φ q1).2 (-n) (by simp) fun y hy hne=>(Mv hy).elim (fun e=>absurd e hne) fun e=>fal_lit q2 e
 rw [<-Fal.neg (by exact(Z6l (Y2 (Zd (Zb Yi Z0) (J6 (Wj Zu) X0)) rfl hnr.1))),Z6o] at this
 exact this
theorem Ab{ys:List Int}(iv:Inv gs tops d)(hx:gs[s.natAbs]?=some (.and ps))(hs : ¬ 0<s)(pk:PsOk s.natAbs ps)(hk:Num d s.natAbs n)(yl:ys.length=ps.length)(h : ∀ (j:Nat) (p:Int),ps[j]?=some p-> -p∈opK d/\∃ y,ys[j]?=some y/\Lit d (-p) y)(ho:Res ((n:Int)::ys) o) :
  TelR gs tops d ((n:Int)::ys) o/\Done gs {d with cs:=Cd d.cs o} s:=by
 have ln:Lit d s (-n):=⟨n,hk,by rw [if_neg hs]⟩
 have hnr:=iv.lit_row ln
 rw [Z6h] at hnr
 have s0:s≠0:=fun e=>by subst e;have:=(pk.lt _ (Z35 (Z1a (by decide:0<2) pk.two))).2;exact absurd this (by simp)
 have ysr : ∀ y∈ys,∃ p∈ps,Lit d (-p) y:=fun y hy=>by
  obtain⟨j,hj,rfl⟩:=Z43.mp hy
  have hjp:j<ps.length:=by exact(Z1a hj (Z0x yl))
  obtain⟨_,y,q2,q3⟩:=h j ps[j] (Z2v hjp)
  rw [Z2v hj] at q2
  exact⟨ps[j],Z35 hjp,Z54 q2▸q3⟩
 have psr : ∀ p∈ps,-p∈opK d/\∃ y∈ys,Lit d (-p) y:=fun p hp=>by
  obtain⟨j,hj,rfl⟩:=Z43.mp hp
  obtain⟨q1,y,q2,q3⟩:=h j ps[j] (Z2v hj)
  exact⟨q1,y,Z45 q2,q3⟩
 have lrow : ∀ x∈(n:Int)::ys,1<=x.natAbs/\x.natAbs<d.ga.length:=fun x hx=>by
  rcases Z3z.mp hx with rfl|q
  ·exact hnr
  ·obtain⟨p,_,q2⟩:=ysr x q;exact iv.lit_row q2
 have t:=Gl iv ho (by have:=pk.four;simp;exact(Z16 (Z0x yl) this)) lrow fun τ τ' hm hr _=>by
   by_cases q:Yes τ' n
   ·exact⟨n,by simp,q⟩
   ·have q1:=(Lit.reads iv ln hr).mp ((Yes.neg (by exact(Z6k (Y2 (Zd (Zb Yi Z0) (J6 X0 Zu)) rfl hnr.1)))).mpr q)
    have q3 : ¬ ∀ p∈ps,Yes τ p:=fun q4=>by
     have:=(hm _ _ hx).mpr q4
     unfold Yes at q1
     rw [this,decide_eq_false hs] at q1
     cases q1
    simp only [Classical.not_forall] at q3
    obtain⟨p,hp,q4⟩:=q3
    obtain⟨_,y,q5,q6⟩:=psr p hp
    have hp0:=(pk.lt p hp).1
    exact⟨y,Z40 _ q5,(Lit.reads iv q6 hr).mpr ((Yes.neg (by omega)).mpr q4)⟩
 refine⟨t,fun x' hx'=>?_⟩
 obtain rfl:=Z54 (hx.symm.trans hx')
 dsimp only
 rw [if_neg hs]
 refine⟨fun p hp=>(psr p hp).1,-n,ln,fun φ q1 q2=>(Fal.neg (by exact(Z6k (Y2 (Zd (Zb Yi Z0) (J6 X0 Zu)) rfl hnr.1)))).mpr ?_⟩
 refine(t.ok φ q1).2 n (Z41 ..) fun y hy hne=>?_
 rcases Z3z.mp hy with e|q
 ·exact absurd e hne
 ·obtain⟨p,hp,q4⟩:=ysr y q
  exact q2 p hp y q4
theorem Av(iv:Inv gs tops d)(hx:gs[s.natAbs]?=some .tru)(hk:Num d s.natAbs n)(ho:Res [(n:Int)] o) :
  TelR gs tops d [(n:Int)] o/\Done gs {d with cs:=Cd d.cs o} s:=by
 have hn:=iv.num _ _ hk
 have hl:=(Z2y.mp hn.2).1
 have t:=Gl iv ho (show 1<=5 by decide) (fun y hy=>by rw [Z49.mp hy];exact⟨hn.1,hl⟩) fun τ τ' hm hr _=>⟨n,Z49.mpr rfl,by
   have:τ s.natAbs=true:=hm _ _ hx
   unfold Yes
   rw [Z6g,hr _ _ hk,this,decide_eq_true (by lia)]⟩
 refine⟨t,fun x' hx'=>?_⟩
 obtain rfl:=Z54 (hx.symm.trans hx')
 refine⟨n,hk,fun φ q=>?_⟩
 have:=(t.ok φ q).2 n (Z49.mpr rfl) fun y hy hne=>absurd (Z49.mp hy) hne
 unfold Tru at this
 rwa [Z6g,decide_eq_true (by lia)] at this
end L01
end Lay
namespace Lay
namespace L01
variable{gs:List G}{tops:List Int}{d:Cl}{kn:List (List Int×V)}{σ:Hp}
theorem open_ws{s:Int}{B:Nat->Prop}(hB : ∀ ps,gs[s.natAbs]?=some (.and ps)->∀ p∈ps,B p.natAbs)(c:gs.length<=20)(ok:COk gs kn)(h:ClsAt d σ)(hc:Yp gs kn σ)(iv:Inv gs tops d)(hn:Free 240 σ)(hs:s∈opK d)(hl:d.cs.length<=900) :
  Ws (Y4 240 2 W8) [.ref 6,.int s] σ (fun _ τ=>OpR gs tops B d σ s τ):=by
 have l1000:1000<lim:=by decide
 obtain⟨s1,s2⟩:=iv.opk s hs
 obtain⟨n,hnum⟩:=iv.numOf s2
 have hlt:s.natAbs<gs.length:=by have:=iv.key _ s2;exact(Zw (Zd (Xp Zu Xm) (Zy Z0 Z1)) rfl this.2)
 obtain⟨n1,n2⟩:=iv.num _ _ hnum
 have hx:gs[s.natAbs]?=some gs[s.natAbs]:=Z2v hlt
 generalize gs[s.natAbs]=x at hx
 refine Ws.fn rfl ?_
 unfold W8
 refine .seq (.assignSwap (.cons (.meth (.op1 (.getL (v:=.ref 6) rfl (W.kCircuit h ⟨okC hc (by rfl),.cons (.call (.cons (.getL (v:=.int s) rfl (.nil (W.abs (.nil (.callM ((Qd (g:=(s.natAbs:Int)) (x:=x) hc hx (by exact(Z16 c (nle 20 1000 rfl))) (hn.mono (by decide))).mono ?_))))))))⟩))))))
 rintro _ σ ⟨rfl,rfl⟩
 refine .cons (.op2 (.op1 (.getL (v:=.ref 6) rfl (W.kNumbers h (.call (.cons (.getL (v:=.int s) rfl (.nil (W.abs (W.itemD (X7 h.nu) (u:=.int n) hnum (.nil ⟨show 2<=100 by decide,.sets1 (.sets1 (.sets0 ?_))⟩)))))))))))
 have done : ∀ s':St,OpR gs tops B d σ s s'.hp->Qk.fn 240 (fun _ τ=>OpR gs tops B d σ s τ) .next s':=fun s' a=>by
  refine⟨_,_,rfl,Zs fun _=>Z7i,?_⟩
  obtain⟨d',f,q⟩:=a
  rw [Yg (f.free hn (by decide))];exact⟨d',f,‹_›,‹_›,‹_›,‹_›⟩
 refine .seq (.ite (.tcmp (.getL (v:=.str x.kind) rfl (.pure (W.eqS (Zv x) (Zv .tru) (.asBool ⟨fun hb=>?_,fun hb=>?_⟩))))))
 ·rw [Z5z] at hb
  obtain rfl:x = .tru:=(G.kind_eq hb).elim id fun⟨_,_,_,q⟩=>nomatch q
  refine .seq (.expr (.meth (.getL (v:=.ref 6) rfl ⟨okK h (by rfl),.cons (.list (.cons (.getL (v:=.int n) rfl (.nil (.mkLst rfl (show 1<=lim by decide) (.nil (.callM ((Fb (L := [(n:Int)]) h (hn.mono (by decide)) (show 1<=5 by decide) ?_ (by exact(Z16 hl (nle 900 1000 rfl)))).mono ?_))))))))⟩)))
  ·intro y hy;rw [Z49.mp hy];lia
  rintro _ τ ⟨f,o,ho,k⟩
  obtain⟨t,dn⟩:=Av iv hx hnum ho
  exact .end (.end (done _ ⟨_,f,k,t.st.mono fun _ q=>q.elim,Z16 t.le (by exact ar315),dn⟩))
 rw [Z5z] at hb
 refine .seq (.ite (.and1 (.tcmp (.getL (v:=.str x.kind) rfl (.pure (W.eqS (Zv x) (Zv (.and [])) (.asBool ⟨fun hb2=>?_,fun hb2=>⟨nofun,fun _=>?_⟩⟩)))))))
 ·rw [Z5z] at hb2
  obtain⟨ps,rfl⟩ : ∃ ps,x = .and ps:=by rcases G.kind_eq (y:=.and []) hb2 with q|⟨ps,_,q,_⟩<;>exact⟨_,q⟩
  have pk:=(ok.parts hx).2
  have pin : ∀ p∈ps,In gs p:=fun p hp=>by have:=pk.lt p hp;exact⟨by exact(Z16 (nle 1 2 rfl) this.1),by exact(Z1h this.2 hlt)⟩
  refine .and1 (.tcmp (.getL (v:=.int s) rfl (.pure (W.gt (.asBool ⟨fun hs0=>.and0 ⟨fun _=>?_,nofun⟩,fun hs0=>⟨nofun,fun _=>?_⟩⟩)))))
  ·have hs0:=of_decide_eq_true hs0
   have ln:Lit d s n:=⟨n,hnum,by rw [if_pos hs0]⟩
   refine .seq (.for (.meth (.op1 (.getL (v:=.ref 6) rfl (W.kCircuit h ⟨okC hc (by rfl),.cons (.getL (v:=.int s) rfl (.nil (.callM ((Gc (g:=s) (x:=.and ps) hc hx (by exact(Z16 c (nle 20 1000 rfl))) (hn.mono (by decide))).mono ?_))))⟩)))))
   rintro _ σ ⟨rfl,rfl⟩
   refine⟨rfl,.forS (xs:=ps.map .int) (OpF gs tops B d σ s n ps) ⟨rfl,rfl,d,Fr8.refl _,h,.refl iv,Z12 _,(fun _ q=>nomatch q)⟩ (fun _ _ _=>V3 _) ?_ ?_⟩
   ·rintro i s' y ⟨a0,a3,d1,f,k1,st,le,dn⟩ hy
    rw [Z30] at hy
    obtain⟨p,hp,rfl⟩:=Z50.mp hy
    have hi:=(Z2y.mp hp).1
    have hpm:=Z45 hp
    have htk:ps.take (i+1)=ps.take i ++ [p]:=by rw [Z4s,hp];rfl
    have p4:=pk.four
    refine .setL (.seq (.expr (.meth (.getL (v:=.ref 6) a0 ⟨okK k1 (by rfl),.cons (.list (.cons (.op1 (.getL (v:=.int n) a3 (W.neg (.cons (.meth (.getL (v:=.ref 6) a0 ⟨okK k1 (by rfl),.cons (.getL (v:=.int p) rfl (.nil (.callM ((Qs c k1 st.iv ((f.free hn (by decide)).mono (by decide)) (pin p hpm) (hB ps hx p hpm)).mono ?_))))⟩))))))))⟩))))
    rintro _ τ ⟨d2,z,rfl,f2,k2,st2,c2,o2,l2,_⟩
    have hz:=st2.iv.lit_row l2
    refine .nil (.mkLst rfl (show 2<=lim by decide) (.nil (.callM ((Fb (L := [-(n:Int),z]) k2 ((f.trans f2).free (hn.mono (by decide)) (by decide)) (show 2<=5 by decide) ?_ (by rw [c2];exact(Xw (Zd (Zb Z0 (Zo 900)) (Zd (Zb Z1 (Z8 Z0 Za)) (Zd (Zq Za Zp) (Zd (Zb Zp Xi) (Zh Z1 (Zo 1000)))))) rfl hl le hi p4))).mono ?_))))
    ·intro y hy
     rcases Mv hy with rfl|rfl<;>lia
    rintro _ τ2 ⟨f3,o,ho,k3⟩
    obtain⟨t,pd⟩:=Ai st2.iv hx hs0 hpm (pk.lt p hpm).2 ((ln.ext st.ext).ext st2.ext) l2 o2 ho
    have le':=t.le
    rw [c2] at le'
    refine .end ⟨a0,a3,_,(f.trans f2).trans f3,k3,(st.trans st2).trans (t.st.mono fun _ q=>q.elim),by rw [c2];dsimp only;lia,fun q hq=>?_⟩
    rw [htk] at hq
    rcases Z3w.mp hq with q|q
    ·exact((dn _ q).ext st2.ext).ext t.st.ext
    ·rw [Z49.mp q];exact pd
   ·rintro s' ⟨a0,a3,d1,f,k1,st,le,dn⟩
    rw [Z3g] at le dn
    rw [Z4t] at dn
    have p4:=pk.four
    refine .end (.end (.end (done _ ⟨d1,f,k1,st,by exact(Ye (Zd (Zb Z0 (Z8 Z1 Za)) (Zd (Zb Za Xi) (Zh Z0 (Z8 Z1 Xi)))) rfl le p4),fun x' hx'=>?_⟩)))
    obtain rfl:=Z54 (hx.symm.trans hx')
    dsimp only
    rw [if_pos hs0]
    exact dn
  ·have hs0:=of_decide_eq_false hs0
   refine .seq (.ite (.tcmp (.getL (v:=.str (G.and ps).kind) rfl (.pure (W.eqS (Zv (.and ps)) (Zv (.and [])) (.asBool ⟨fun _=>?_,fun hb3=>absurd hb3 (by simp only [G.kind];decide)⟩))))))
   refine .seq (.expr (.meth (.getL (v:=.ref 6) rfl ⟨okK h (by rfl),.cons (.op2 (.list (.cons (.getL (v:=.int n) rfl (.nil (.mkLst rfl (show 1<=lim by decide) (.comp (.meth (.op1 (.getL (v:=.ref 6) rfl (W.kCircuit h ⟨okC hc (by rfl),.cons (.op1 (.getL (v:=.int s) rfl (W.neg (.nil (.callM ((Gc (g := -s) (x:=.and ps) hc (by rw [Z6h];exact hx) (by exact(Z16 c (nle 20 1000 rfl))) (hn.mono (by decide))).mono ?_))))))⟩)))))))))))⟩)))
   rintro _ σ ⟨rfl,rfl⟩
   refine⟨rfl,.compM (xs:=ps.map .int) (OpC gs tops B d σ s ps) ⟨rfl,d,[],rfl,Fr8.refl _,h,.refl iv,rfl,rfl,fun _ _ _ q=>absurd q (Z1q _)⟩ (fun _ _ _ _=>V3 _) ?_ ?_⟩
   ·rintro i acc s' y ⟨a0,d1,ys,rfl,f,k1,st,eq,yl,hh⟩ hy
    rw [Z30] at hy
    obtain⟨p,hp,rfl⟩:=Z50.mp hy
    have hi:=(Z2y.mp hp).1
    have hpm:=Z45 hp
    have p4:=pk.four
    refine .and0 ⟨nofun,fun _=>.meth (.getL (v:=.ref 6) a0 ⟨okK k1 (by rfl),.cons (.op1 (.getL (v:=.int p) rfl (W.neg (.nil (.callM ((Qs (g := -p) (B:=B) c k1 st.iv (f.free (hn.mono (by decide)) (by decide)) (pin p hpm).neg (by rw [Z6h];exact hB ps hx p hpm)).mono ?_))))))⟩)⟩
    rintro _ τ ⟨d2,z,rfl,f2,k2,st2,c2,o2,l2,_⟩
    refine⟨rfl,by rw [Z3g];exact(Xw (Ze 4 (Zq (Zo 1000) Z0) (Ze 1001 (Zj Z1 Za) (Ze 1001 (Zq Za Zp) (Ze 1001 (Zb Zp Xi) (Xn 1000 (Zy Z1 Z0)))))) rfl l1000 yl hi p4),a0,d2,ys ++ [z],by rw [Z3q];rfl,f.trans f2,k2,st.trans st2,c2.trans eq,by rw [Z3b,yl];rfl,fun j p' hj hlt=>?_⟩
    by_cases q:j<i
    ·obtain⟨q1,y,q2,q3⟩:=hh j p' hj q
     exact⟨st2.ext.op _ q1,y,by rw [Z2r (by exact(Z1a q (Z0x yl.symm)))];exact q2,q3.ext st2.ext⟩
    ·obtain rfl:j=i:=by lia
     obtain rfl:=Z54 (hp.symm.trans hj)
     exact⟨o2,z,by rw [<-yl,Z2s (Z12 _),Z1y];rfl,l2⟩
   ·rintro acc s' ⟨a0,d1,ys,rfl,f,k1,st,eq,yl,hh⟩
    rw [Z3g] at yl hh
    have p4:=pk.four
    have sp:=fun {o:Option (List Int)}=>Ab (o:=o) st.iv hx hs0 pk (st.ext.num _ _ hnum) yl fun j p hj=>hh j p hj (Z2y.mp hj).1
    refine .mkLst (W6 _) (lmLe (by exact(Ye (Ze 4 (Zq (Zo 1000) Z0) (Ze 1001 (Zj Z1 Za) (Ze 1001 (Zb Za Xi) (Xn 1000 (Zh Z1 Z0))))) rfl l1000 yl p4))) (W.addL (x := [.int n]) (y:=ys.map .int) (Yc fun _=>Z7i) J4 J4 (W6 ((n:Int)::ys)) (by simp only [Z3b,Z3c,Z3h,Z3g];exact(Ye (Ze 5 (Zq (Zo 1000) Z0) (Ze 1001 (Zj Z1 Za) (Ze 1001 (Zb Za Xi) (Xn 1000 (Zh (Z8 (Y0 Wt) Z1) Z0))))) rfl l1000 yl p4)) (.nil (.callM ((Fb (L:=(n:Int)::ys) k1 (f.free (hn.mono (by decide)) (by decide)) (by simp only [Z3c];exact(Zw (Zd (Zj Z0 Z1) (Zd (Zb Z1 Xi) (Zh (Y0 Z0) (Zo 5)))) rfl yl p4)) (fun x hx0 e=>?_) (by rw [eq];exact(Z16 hl (nle 900 1000 rfl)))).mono ?_))))
    ·subst e
     rcases Z3z.mp hx0 with q|q
     ·lia
     ·obtain⟨j,hj,e⟩:=Z43.mp q
      obtain⟨_,y,q2,q3⟩:=hh j ps[j] (Z2v (by exact(Z1a hj (Z0x yl)))) (by exact(Z1a hj (Z0x yl)))
      rw [Z2v hj,e] at q2
      obtain rfl:=Z54 q2
      exact absurd (st.iv.lit_row q3).1 (by decide)
    rintro _ τ2 ⟨f3,o,ho,k3⟩
    obtain⟨t,dn⟩:=sp ho
    have le':=t.le
    rw [eq] at le'
    refine .end (.end (.end (.end (done _ ⟨_,f.trans f3,k3,st.trans (t.st.mono fun _ q=>q.elim),by rw [eq];dsimp only;exact(Zw (Zd (Zb Z0 (Y0 Z1)) (Zh Z0 (Z8 Z1 Xi))) rfl le'),dn⟩))))
 ·rw [Z5z] at hb2
  refine .seq (.ite (.tcmp (.getL (v:=.str x.kind) rfl (.pure (W.eqS (Zv x) (Zv (.and [])) (.asBool ⟨fun hb3=>?_,fun hb3=>.end (.end (.end (.end (done _ ⟨d,Fr8.refl _,h,.refl iv,Z0u _ _,fun x' hx'=>?_⟩))))⟩))))))
  ·rw [Z5z] at hb3
   exact absurd (hb2.symm.trans hb3) (by decide)
  ·obtain rfl:=Z54 (hx.symm.trans hx')
   cases x with
   |tru=>exact absurd rfl (G.kind_ne hb)
   |and ps=>exact absurd hb2 (by simp only [G.kind];decide)
   |non=>trivial
   |inp=>trivial
end L01
end Lay
namespace Lay
theorem Wp.whileW{mt:M Bool}{mb:M Fl}{s:St}{Q:Fl->St->Prop}(I:Nat->St->Prop){k:Nat}(h0:I k s)
  (step : ∀ k s,I k s->Wp mt s (fun b s1=>(b=false->Q .next s1)/\(b=true->Wp mb s1 (Qk.loop (fun s2 => ∃ j,j<k/\I j s2) Q)))):Wp (M.whileW mt mb) s Q:=by
 have ex : ∀ k s,I k s->∃ n r,M.whileN mt mb n s=some r/\Q r.1 r.2:=by
  intro k
  induction k using Z1t with
  |ind k ih =>
   intro s hs
   obtain⟨b,s1,h1,h2,h3⟩:=step k s hs
   cases b with
   |false=>exact⟨1,_,R.bind h1 (R.pure (a:=Fl.next)),h2 rfl⟩
   |true =>
    obtain⟨f,s2,h4,h5⟩:=h3 rfl
    cases f with
    |next =>
     obtain⟨j,h5,h6⟩:=h5
     obtain⟨n,⟨g,s3⟩,h7,h8⟩:=ih j h5 s2 h6
     exact⟨n+1,(g,s3),R.bind h1 (R.bind h4 h7),h8⟩
    |cont =>
     obtain⟨j,h5,h6⟩:=h5
     obtain⟨n,⟨g,s3⟩,h7,h8⟩:=ih j h5 s2 h6
     exact⟨n+1,(g,s3),R.bind h1 (R.bind h4 h7),h8⟩
    |brk=>exact h5.elim
    |ret v=>exact⟨1,_,R.bind h1 (R.bind h4 (R.pure (a:=Fl.ret v))),h5⟩
 have mono : ∀ n m s r,M.whileN mt mb n s=some r->n<=m->M.whileN mt mb m s=some r:=by
  intro n
  induction n with
  |zero=>intro m s r h;cases h
  |succ n ih =>
   intro m s r h hm
   obtain⟨m,rfl⟩ : ∃ k,m=k+1:=⟨m-1,by exact(Zw (Ze (-1) (Zj (Y0 Z0) Z1) (J9 Z1 (Y0 Z0))) rfl (Z1u (Zw (Zd (Zb (Y0 Z0) Z1) (Zh Yi Z1)) rfl hm)))⟩
   obtain⟨b,s1,e1,h⟩:=Z6z h
   cases b with
   |false=>exact R.bind e1 h
   |true =>
    rw [if_pos rfl] at h
    obtain⟨f,s2,e2,h⟩:=Z6z h
    cases f with
    |next=>exact R.bind e1 (R.bind e2 (ih m s2 r h (by lia)))
    |cont=>exact R.bind e1 (R.bind e2 (ih m s2 r h (by lia)))
    |brk=>exact R.bind e1 (R.bind e2 h)
    |ret v=>exact R.bind e1 (R.bind e2 h)
 obtain⟨n,r,h1,h2⟩:=ex k s h0
 have hex : ∃ n r,M.whileN mt mb n s=some r:=⟨n,r,h1⟩
 refine⟨r.1,r.2,?_,h2⟩
 unfold R M.whileW
 rw [dif_pos hex]
 have h3:=Classical.choose_spec (Classical.choose_spec hex)
 generalize Classical.choose (Classical.choose_spec hex)=r' at h3
 generalize Classical.choose hex=n' at h3
 have:=mono _ (n+n') _ _ h3 (by lia)
 rw [mono n (n+n') _ _ h1 (by exact ar184)] at this
 rw [<-this]
end Lay
namespace Lay
namespace L01
variable{gs:List G}{tops:List Int}{d:Cl}{kn:List (List Int×V)}{σ:Hp}
noncomputable def Did(d:Cl)(s:Int):Prop:=s∈opK d/\s∉d.wa
noncomputable def Hn(gs:List G)(d:Cl):Prop := ∀ s,Did d s->Done gs d s
structure FlR(gs:List G)(tops:List Int)(B:Nat->Prop)(d:Cl)(d':Cl):Prop where
 iv:Inv gs tops d'
 pe:Hn gs d'
 ext:Ext d d'
 low : ∀ k∈nuK d',k∈nuK d\/B k.natAbs
 le:d'.cs.length+4*d.op.length+4*d'.wa.length<=d.cs.length+4*d'.op.length+4*d.wa.length
inductive FlI(gs:List G)(tops:List Int)(B:Nat->Prop)(d:Cl)(σ:Hp)(k:Nat)(s:St):Prop
 |mk (h0:s.loc 0=some (.ref 6)) (d':Cl) (f:Fr8 σ s.hp) (k1:ClsAt d' s.hp) (r:FlR gs tops B d d') (wB : ∀ s∈d'.wa,B s.natAbs) (m:k+d'.op.length=38+d'.wa.length)
theorem Ix{B:Nat->Prop}{d1 d3:Cl}{w:List Int}{u:Int}(r:FlR gs tops B d d1)(hw:d1.wa=w ++ [u])(st:Step gs tops B {d1 with wa:=w} d3)(le:d3.cs.length<=d1.cs.length+4)(dn:Done gs d3 u)(hu:u∈opK d1)(huw:u∉w) :
  FlR gs tops B d d3:=by
 have e1:Ext d1 {d1 with wa:=w}:=⟨rfl,fun _ _ q=>q,fun _ q=>q,Z4n,Z4n,fun s _ q=>fun q2=>q (by rw [hw];exact Z3x _ q2)⟩
 have e3:=e1.trans st.ext
 refine⟨st.iv,fun x hx=>?_,r.ext.trans e3,fun k hk=>?_,?_⟩
 ·obtain⟨q1,q2⟩:=st.stp.new x hx.1 hx.2
  by_cases e:x=u
  ·rw [e];exact dn
  ·exact(r.pe x ⟨q1,by rw [hw,Z3w,not_or];exact⟨q2,by simpa using e⟩⟩).ext e3
 ·rcases st.low.nu k hk with q|q
  ·exact r.low k q
  ·exact .inr q
 ·have h1:=r.le
  have h2:=st.stp.cnt
  have h3:=congrArg Z3a hw
  rw [Z3b] at h3
  simp only [Z3c,Z3h] at h2 h3
  exact(fk10_0 (Zd (Zb Z0 (Z8 Z1 Xi)) (Zd (Zb (Z8 (Z8 Z1 (Zm 4 Za)) (Zm 4 Zp)) (Z8 (Z8 X4 (Zm 4 Vh)) (Zm 4 Mg))) (Ze (-4) (Zj (Z8 Cu fk_v8) (Z8 Vh fk_v9)) (Ze (-4) (Zj Zp (Z8 fk_v8 (Y0 Wt))) (Zh (Z8 (Z8 Z0 (Zm 4 Za)) (Zm 4 fk_v9)) (Z8 (Z8 X4 (Zm 4 Cu)) (Zm 4 Mg))))))) rfl le h1 h2 h3)
theorem Lm{B:Nat->Prop}(hB : ∀ i ps,B i->gs[i]?=some (.and ps)->∀ p∈ps,B p.natAbs)(c:gs.length<=20)(ok:COk gs kn)(h:ClsAt d σ)(hc:Yp gs kn σ)(iv:Inv gs tops d)(hn:Free 220 σ)(pe:Hn gs d)(hl:d.cs.length<=500)(wB : ∀ s∈d.wa,B s.natAbs) :
  Ws (Y4 220 1 Ww) [.ref 6] σ (fun _ σ' => ∃ d',Fr8 σ σ'/\ClsAt d' σ'/\FlR gs tops B d d'/\d'.wa = []):=by
 have l1000:1000<lim:=by decide
 obtain⟨b1,b2,b3,b4⟩:=iv.bounds c
 refine Ws.fn rfl ?_
 unfold Ww
 refine .seq (.whileW (FlI gs tops B d σ) (k:=38+d.wa.length-d.op.length) ⟨rfl,d,Fr8.refl _,h,⟨iv,pe,Ext.refl d,fun _ q=>.inl q,by lia⟩,wB,by exact(Ye (Zd (Zj (Z8 Z0 Z1) (Z8 (Zo 38) Za)) (J9 (Z8 Z0 Z1) (Z8 (Zo 38) Za))) rfl (Z1u (Zw (Zd (Zb Z0 (Zo 38)) (Zh Z0 (Z8 (Zo 38) Z1))) rfl b3)))⟩ ?_)
 rintro k s ⟨a0,d1,f1,k1,r,wB,m1⟩
 obtain⟨c1,c2,c3,c4⟩:=r.iv.bounds c
 have le:=r.le
 refine .tcmp (.call (.cons (.op1 (.getL (v:=.ref 6) a0 (W.kWaiting k1 (.nil (W.len (n:=d1.wa.length) (Lv k1.wa) (by exact(Z0y (Z1h (Z17 c4 (nlt 38 1000 rfl)) l1000))) (.pure (W.gt (.asBool ⟨fun hb=>?_,fun hb=>?_⟩))))))))))
 ·have hb:=of_decide_eq_false hb
  have hb:d1.wa = []:=Z2i (by lia)
  refine .end ⟨_,_,rfl,Zs fun _=>Z7i,d1,?_⟩
  rw [Yg (f1.free hn (by decide))]
  exact⟨f1,k1,r,hb⟩
 have hb:=of_decide_eq_true hb
 have hb:d1.wa≠[]:=by intro e;rw [e] at hb;exact absurd hb (by decide)
 obtain⟨w,u,hwu⟩ : ∃ w u,d1.wa=w ++ [u]:=⟨_,_,(Z2g hb).symm⟩
 have hwl:d1.wa.length=w.length+1:=by rw [hwu];simp
 have hnd:=List.nodup_append.mp (hwu▸r.iv.wan)
 have hu:u∈opK d1:=r.iv.was u (by rw [hwu];simp)
 have huw:u∉w:=fun q=>hnd.2.2 u q u (by simp) rfl
 have uB:B u.natAbs:=wB u (by rw [hwu];simp)
 have hpop:s.hp 12=some (.list (w.map .int ++ [.int u])):=by rw [k1.wa,hwu,Z3q];rfl
 refine .seq (.expr (.meth (.getL (v:=.ref 6) a0 ⟨okK k1 (by rfl),.cons (.meth (.op1 (.getL (v:=.ref 6) a0 (W.kWaiting k1 ⟨Xu k1.wa,.nil (W.pop hpop (lmLt (by exact(Ye (Ze 38 (Zq (Zo 1000) Z0) (Ze 1001 (Zb Z1 (Zo 38)) (Ze (-1001) (Zj Z1 (Y0 Za)) (Xn 1000 (Zy Za Z0))))) rfl l1000 c4 hwl))) (.nil ?_))⟩))))⟩)))
 have iv2:Inv gs tops {d1 with wa:=w}:={r.iv with was:=fun s hs=>r.iv.was s (by rw [hwu];exact Z3x _ hs),wan:=hnd.1}
 have k2:ClsAt {d1 with wa:=w} (upd s.hp 12 (some (.list (w.map .int)))):=⟨k1.i,k1.a,k1.cs,k1.ga,k1.nu,k1.op,Z4 _ _ _⟩
 have f2:=f1.upd (n:=12) (o:=some (.list (w.map .int))) (by decide)
 refine .callM ((open_ws (gs:=gs) (kn:=kn) (tops:=tops) (B:=B) (hB _ · uB) c ok k2 (f2.circ hc) iv2 ((f2.free hn (by decide)).mono (by decide)) hu (by dsimp only;exact(fk7_0 (Zd (Zb Z0 (Zo 500)) (Ze 4 (Zb Z1 (Zo 38)) (Ze 4 (Zj (Z8 Za Zp) (Z8 (Zo 38) X4)) (Zd (Zb (Z8 (Z8 Vh (Zm 4 Mg)) (Zm 4 X4)) (Z8 (Z8 Z0 (Zm 4 Zp)) (Zm 4 Z1))) (Zh Vh (Zo 900)))))) rfl hl b4 m1 le))).mono ?_)
 rintro v τ ⟨d3,f3,k3,st,le3,dn⟩
 have r3:=Ix r hwu st le3 dn hu huw
 have g7:=st.stp.cnt
 dsimp only at g7
 obtain⟨e1,e2,e3,e4⟩:=r3.iv.bounds c
 refine .end ⟨k-1,by exact(Zw (Zd (Zj (Y0 Z0) Z1) (Zy Z0 Z1)) rfl (Z1u (Ro (Ze (-1) (Zj (Z8 Z0 Z1) (Z8 (Zo 38) Za)) (Ze (-1) (Zj Za (Y0 Zp)) (Ze (-1) (Zj (Z8 X4 Zp) (Z8 Z1 Vh)) (Zd (Zb X4 (Zo 38)) (Zh Yi Z0))))) rfl m1 hwl g7 e3))),a0,d3,f2.trans f3,k3,r3,fun x hx=>?_,by exact(fk7_0 (Zd (Zj (Z8 Z0 Z1) (Z8 (Zo 38) Za)) (Zd (Zj Za (Y0 Zp)) (Zd (Zj (Z8 X4 Zp) (Z8 Z1 Vh)) (Zd (Zj (Y0 Mg) Z0) (J9 (Z8 Mg X4) (Z8 (Zo 38) Vh)))))) rfl m1 hwl g7 (Z1u (Ro (Ze (-1) (Zj (Z8 Z0 Z1) (Z8 (Zo 38) Za)) (Ze (-1) (Zj Za (Y0 Zp)) (Ze (-1) (Zj (Z8 X4 Zp) (Z8 Z1 Vh)) (Zd (Zb X4 (Zo 38)) (Zh Yi Z0))))) rfl m1 hwl g7 e3)))⟩
 rcases st.low.wa x hx with q|q
 ·exact wB x (by rw [hwu];exact Z3x _ q)
 ·exact q
inductive LitR(gs:List G)(tops:List Int)(B:Nat->Prop)(d:Cl)(σ:Hp)(g:Int)(u:V)(τ:Hp):Prop
 |mk (d':Cl) (x:Int) (e:u = .int x) (f:Fr8 σ τ) (k:ClsAt d' τ) (iv:Inv gs tops d') (ext:Ext d d') (wa:d'.wa = []) (pe:Hn gs d') (op:g∈opK d') (li:Lit d' g x) (all:0<d.w-> -g∈opK d') (low : ∀ k∈nuK d',k∈nuK d\/B k.natAbs) (le:d'.cs.length+4*d.op.length<=d.cs.length+4*d'.op.length)
theorem H3{g:Int}{B:Nat->Prop}(hB : ∀ i ps,B i->gs[i]?=some (.and ps)->∀ p∈ps,B p.natAbs)(hgB:B g.natAbs)(c:gs.length<=20)(ok:COk gs kn)(h:ClsAt d σ)(hc:Yp gs kn σ)(iv:Inv gs tops d)(hn:Free 200 σ)(pe:Hn gs d)(hl:d.cs.length<=500)(hwa:d.wa = [])(hg:In gs g) :
  Ws (Y4 200 2 Xf) [.ref 6,.int g] σ (LitR gs tops B d σ g):=by
 refine Ws.fn rfl ?_
 unfold Xf
 refine .seq (.assign (.meth (.getL (v:=.ref 6) rfl ⟨okK h (by rfl),.cons (.getL (v:=.int g) rfl (.nil (.callM ((Qs (B:=B) c h iv (hn.mono (by decide)) hg hgB).mono ?_))))⟩)))
 rintro _ τ ⟨d1,x,rfl,f,k1,st,c1,o1,l1,a1⟩
 have n1 : ∀ s,Did d1 s->Did d s:=fun s q=>st.stp.new s q.1 q.2
 refine .seq (.expr (.meth (.getL (v:=.ref 6) rfl ⟨okK k1 (by rfl),.nil (.callM ((Lm (B:=B) hB c ok k1 (f.circ hc) st.iv ((f.free hn (by decide)).mono (by decide)) (fun s q=>(pe s (n1 s q)).ext st.ext) (by rw [c1];exact hl) (fun s q=>(st.low.wa s q).elim (fun q=>?_) id)).mono ?_))⟩)))
 ·rw [hwa] at q;cases q
 rintro _ τ2 ⟨d2,f2,k2,r,w2⟩
 have cnt:=st.stp.cnt
 have le:=r.le
 have ext:=st.ext.trans r.ext
 refine .seq (.ret (.getL (v:=.int x) rfl ⟨_,_,rfl,Zs fun _=>Z7i,?_⟩))
 dsimp only
 rw [Yg ((f.trans f2).free hn (by decide))]
 refine⟨d2,x,rfl,f.trans f2,k2,r.iv,ext,w2,r.pe,r.ext.op _ o1,l1.ext r.ext,fun hw=>r.ext.op _ (a1 _ (Z6h _) hw),fun k hk=>(r.low k hk).elim (st.low.nu k) .inr,?_⟩
 ·rw [hwa] at cnt
  rw [w2,c1] at le
  simp only [Z3h] at cnt le
  exact(Ro (Ze (-4) (Zj (Z8 Z0 Wt) (Z8 Z1 Za)) (Zd (Zb (Z8 (Z8 Zp (Zm 4 Z0)) (Zm 4 Wt)) (Z8 (Z8 X4 (Zm 4 Vh)) (Zm 4 Za))) (Zh (Z8 Zp (Zm 4 Z1)) (Z8 X4 (Zm 4 Vh))))) rfl cnt le)
end L01
end Lay
namespace Lay
theorem W.setA{Cl:Addr}{n d:Nat}{name:Str}{u:V}{kvs:List (Str×V)}{s:St}{Q:Unit->St->Prop}(h:s.hp n=some (.inst Cl d))(h2:s.hp d=some (.attrs kvs))(hu:u.low=true)(hl:kvs.length<1000)(k:Q () {s with hp:=upd s.hp d (some (.attrs (Y6 kvs name u)))}):Wp (Lay.setA Cl name (.ref n) u) s Q :=
 ⟨_,_,bs Vx (bs (bs h (Ym (f:=Py) (a:=(Cl,d)) fun _ _ e=>Z6y (O.inst.inj e).1 (O.inst.inj e).2)) (bs (bs h2 (Ym fun _ _=>O.attrs.inj)) (if_pos ⟨rfl,hu,hl⟩))),k⟩
theorem Jb{K:Type} [DecidableEq K]{α:Type}{kvs:List (K×α)}{k:K}{v:α}(h:k∉kvs.map (·.1)):Y6 kvs k v=kvs ++ [(k,v)]:=by
 unfold Y6
 rw [if_neg]
 intro q
 rw [Xz,Yk] at q
 exact h q
namespace L01
variable{gs:List G}{kn:List (List Int×V)}{σ:Hp}
noncomputable def Cin(w:Int)(k:Nat):Cl:=⟨w,[],0 :: [2,3].take k,([(2,.int 1),(3,.int 2)]:List (Int×V)).take k,[],[]⟩
theorem E6{w:Int}{k:Nat}(h:k<2):Jl (Cin w k) ((2+k:Nat):Int)=Cin w (k+1):=by
 have:k=0\/k=1:=by lia
 rcases this with rfl|rfl<;>rfl
theorem inv0(gs:List G)(w:Int):Inv gs [] (Cin w 0) :=
 ⟨rfl,Z4e,(fun _ h=>nomatch h),(fun _ _ h=>nomatch h),(fun _ _ h=>nomatch h),Z4e,(fun _ h=>nomatch h),(fun _ h=>nomatch h),Z4e,(fun _ _ _ _ _ _ h=>nomatch h),(fun _ h=>nomatch h)⟩
theorem Ey{w:Int}(l5:4<=gs.length){k:Nat}(hk:k<=2):Inv gs [] (Cin w k):=by
 induction k with
 |zero=>exact inv0 gs w
 |succ k ih=>exact E6 (w:=w) hk▸(Bq (B:=fun _=>True) (ih (Z0y hk)) (by lia) (by exact(Zw (Zd (Zb Xi Z0) (Zd (Zb (Y0 Z1) Ys) (Zy (Z8 Ys Z1) Z0))) rfl l5 hk)) trivial).1.iv
inductive InI(w:Int)(τ:Hp)(i:Nat)(s:St):Prop
 |mk (h0:s.loc 0=some (.ref 6)) (h1:s.loc 1=some (.ref 1)) (f:Fr8 τ s.hp) (k:ClsAt (Cin w (min i 2)) s.hp)
theorem init_ws{w:Int}(c:gs.length<=20)(l5:4<=gs.length)(inp : ∀ i x,2<=i->gs[i]?=some x->(i<4↔x = .inp))(hc:Yp gs kn σ)(h6:σ 6=some (.inst 112 7))(h7:σ 7=some (.attrs []))(h8 : ∀ n,8<=n->n<=12->σ n=none)(hn:Free 280 σ) :
  Ws (Y4 280 3 Jh) [.ref 6,.ref 1,.int w] σ (fun u σ'=>u = .none/\(∀ n,n<6\/12<n->σ' n=σ n)/\ClsAt (Cin w 2) σ'):=by
 have l1000:1000<lim:=by decide
 refine Ws.fn rfl ?_
 unfold Jh
 refine .seq (.assignAttr (.getL (v:=.ref 1) rfl (.getL (v:=.ref 6) rfl (W.setA h6 h7 rfl (by decide) ?_))))
 rw [Jb (by simp)]
 refine .seq (.assignAttr (.getL (v:=.int w) rfl (.getL (v:=.ref 6) rfl (W.setA (d:=7) h6 rfl rfl (show 1<1000 by decide) ?_))))
 rw [Jb (by simp only [Z4c,Z3s,Z3u];decide)]
 refine .seq (.assignAttr (.list (.nil (.mkLstS rfl (Z25 _) (h8 8 (by decide) (by decide)) (.getL (v:=.ref 6) rfl (W.setA (d:=7) h6 rfl rfl (show 2<1000 by decide) ?_))))))
 rw [Jb (by simp only [Z4c,Z2b,Z3s,Z3u];decide)]
 refine .seq (.assignAttr (.list (.cons (.pure (.nil (.mkLstS rfl (show 1<=lim by decide) (h8 9 (by decide) (by decide)) (.getL (v:=.ref 6) rfl (W.setA (d:=7) h6 rfl rfl (show 3<1000 by decide) ?_))))))))
 rw [Jb (by simp only [Z4c,Z2b,Z3s,Z3u];decide)]
 refine .seq (.assignAttr (.new (h8 10 (by decide) (by decide)) (.getL (v:=.ref 6) rfl (W.setA (d:=7) h6 rfl rfl (show 4<1000 by decide) ?_))))
 rw [Jb (by simp only [Z4c,Z2b,Z3s,Z3u];decide)]
 refine .seq (.assignAttr (.new (h8 11 (by decide) (by decide)) (.getL (v:=.ref 6) rfl (W.setA (d:=7) h6 rfl rfl (show 5<1000 by decide) ?_))))
 rw [Jb (by simp only [Z4c,Z2b,Z3s,Z3u];decide)]
 refine .seq (.assignAttr (.list (.nil (.mkLstS rfl (Z25 _) (h8 12 (by decide) (by decide)) (.getL (v:=.ref 6) rfl (W.setA (d:=7) h6 rfl rfl (show 6<1000 by decide) ?_))))))
 rw [Jb (by simp only [Z4c,Z2b,Z3s,Z3u];decide)]
 refine atS (fun s=>(s.loc 0=some (.ref 6)/\s.loc 1=some (.ref 1))/\ClsAt (Cin w 0) s.hp/\∀ n,n<6\/12<n->s.hp n=σ n) ⟨⟨rfl,rfl⟩,⟨h6,rfl,rfl,rfl,rfl,rfl,rfl⟩,fun n q=>?_⟩ ?_
 ·simp only [Z5 _ _ (show n≠7 by lia),Z5 _ _ (show n≠8 by lia),Z5 _ _ (show n≠9 by lia),Z5 _ _ (show n≠10 by lia),Z5 _ _ (show n≠11 by lia),Z5 _ _ (show n≠12 by lia)]
 rintro⟨loc,τ⟩ ⟨⟨l0,l1⟩,k0,f0⟩
 dsimp only at l0 l1 k0 f0
 have hcτ:Yp gs kn τ:=hc.mono fun n q=>f0 n (.inl (by exact(Z17 q (nlt 5 6 rfl))))
 have hnτ:Free 280 τ:=fun n q=>(f0 n (.inr (by exact(Z1a (nlt 12 280 rfl) q)))).trans (hn n q)
 refine .seq (.for (.call (.cons (.pure (.cons (.op2 (.meth (.getL (v:=.ref 1) l1 ⟨okC hcτ (by rfl),.nil (.callM ((size_ws hcτ (by exact(Z16 c (nle 20 1000 rfl))) (hnτ.mono (by decide))).mono ?_))⟩))))))))
 rintro _ τ ⟨rfl,rfl⟩
 refine .pure (W.add (.nil (W.range2 ⟨rfl,.forS (xs:=_) (InI w τ) ⟨l0,l1,Fr8.refl _,k0⟩ (fun i s _=>Uf (by decide) (by exact(Zw (Zd (Zb Z0 (Zo 20)) (Zd (Yr Xm (Xb (Yl Zu Xx) Xx)) (Zy Z1 (Zo (2^40))))) rfl c (Z6i (Y2 (Yv X0 (Xb (Yl Zu Xx) Xx)) rfl))))) ?_ ?_⟩)))
 ·rintro i s x ⟨a0,a1,f1,k1⟩ hx
  obtain⟨rfl,hi⟩:=Bx hx
  have hlt:2+i<gs.length:=by exact(Zw (Zd (Xp (Xb (Xh Ys) Zu) (Xb (Yl Xm Xx) Xx)) (Zy (Z8 Ys Z0) Z1)) rfl hi)
  have ei:(2:Int)+i=((2+i:Nat):Int):=by exact(Y2 (K6 (Xb (Xh Ys) Zu) (Xh (Z8 Ys Z0))) rfl)
  have hg:gs[2+i]?=some gs[2+i]:=Z2v hlt
  generalize gs[2+i]=x at hg
  have hq:=inp _ _ (by lia) hg
  have hc1:=f1.circ hcτ
  have hn1:=f1.free hnτ (by decide)
  rw [ei]
  refine .setL (.seq (.ite (.tcmp (.meth (.getL (v:=.ref 1) a1 ⟨okC hc1 (by rfl),.cons (.getL (v:=.int (2+i:Nat)) rfl (.nil (.callM ((Qd (g:=((2+i:Nat):Int)) (x:=x) hc1 hg (by exact(Z16 c (nle 20 1000 rfl))) (hn1.mono (by decide))).mono ?_))))⟩)))))
  rintro _ σ2 ⟨rfl,rfl⟩
  refine .pure (W.eqS (Zv x) (Zv .inp) (.asBool ⟨fun hb=>?_,fun hb=>.end (.end ⟨a0,a1,f1,?_⟩)⟩))
  ·rw [Z5z] at hb
   have hxi:x = .inp:=(G.kind_eq (y:=.inp) hb).elim id fun⟨_,_,_,q⟩=>nomatch q
   have i3:i<2:=by have:=hq.mpr hxi;lia
   rw [show min i 2=i by exact(Zw (Zd (Zj Z0 Z1) (J9 Z0 Z1)) rfl (Z1j (Y2 (Zd (Zq Z0 Ys) (Zh Z0 Ys)) rfl i3)))] at k1
   have iv:=Ey (w:=w) l5 (Z0y i3)
   obtain⟨b1,b2,b3,b4⟩:=iv.bounds c
   refine .seq (.expr (.meth (.getL (v:=.ref 6) a0 ⟨okK k1 (by rfl),.cons (.getL (v:=.int (2+i:Nat)) rfl (.nil (.callM ((Nf (g:=((2+i:Nat):Int)) k1 (hn1.mono (by decide)) (by exact(Z16 b2 (nle 20 1000 rfl))) (by exact(Z16 b1 (nle 19 1000 rfl))) (iv.val _)).mono ?_))))⟩)))
   rintro _ τ2 ⟨f2,k2,_⟩
   rw [E6 i3] at k2
   exact .end (.end ⟨a0,a1,f1.trans f2,by rw [show min (i+1) 2=i+1 by exact(Zw (Zd (Zj Z0 (Y0 Z1)) (J9 Z0 (Y0 Z1))) rfl (Z1j (Y2 (Zd (Zq Z0 Ys) (Zh (Y0 Z0) Ys)) rfl i3)))];exact k2⟩)
  ·rw [Z5z] at hb
   have : ¬ 2+i<4:=fun q=>G.kind_ne (y:=.inp) hb (hq.mp q)
   rw [show min (i+1) 2=min i 2 by exact(Zw (Ze (-1) (Zj Z0 Ys) (Zd (Zj Z1 Ys) (J9 Z1 Z0))) rfl (Z1k (Y2 (Zd (K7 (Z8 Ys Z0) Xi) (Zh Ys Z0)) rfl this)) (Z1k (Y2 (Zd (K7 (Z8 Ys Z0) Xi) (Xn 1 (Zh Ys (Y0 Z0)))) rfl this)))];exact k1
 ·rintro s ⟨a0,a1,f1,k1⟩
  rw [Z3g,Z3j,show min ((gs.length:Int)-1+1-2).toNat 2=2 by exact(Y2 (Zd (Zj Z0 Ys) (J9 Z0 Ys)) rfl (Z1k (Zw (Zd (Zb Xi Z0) (Ze (-1) (Yr Xm (Yl (Xb (Yl Zu Xx) Xx) (Xh Ys))) (Zh Ys Z1))) rfl l5 (Z6w (Y2 (Zd (Zb Xi Z0) (Xn 1 (Yv X0 (Yl (Xb (Yl Zu Xx) Xx) (Xh Ys))))) rfl l5)))))] at k1
  refine .end ⟨_,_,rfl,Zs fun _=>Z7i,rfl,?_⟩
  rw [Yg (f1.free hnτ (by decide))]
  exact⟨fun n q=>by rw [f1 n (by omega),f0 n q],k1⟩
end L01
end Lay
namespace Lay
theorem Wp.extRev{mo me:M V}{s:St}{Q:V->St->Prop}(h:Wp mo s (fun o s1=>U9 o s1=true/\Wp me s1 (fun v s2=>Wp (Rv o v) s2 Q))):Wp (X.extRev mo me) s Q :=
 .bind (h.mono fun o s1 h=>.bind ⟨(),s1,R.guard h.1,.bind h.2⟩)
namespace L01
variable{gs:List G}{tops:List Int}{d:Cl}{kn:List (List Int×V)}{σ:Hp}{o:Option (List Int)}{s t:Int}
theorem Inv.top(h:Inv gs tops d)(t:Int):Inv gs (tops ++ [t]) d:={h with snd:=fun τ τ' a b c=>h.snd τ τ' a b fun x hx=>c x (Z3x _ hx)}
noncomputable def TopOk(gs:List G)(d:Cl)(s:Int):Prop := ∀ φ τ,Model gs τ->Closed φ d.cs->(∀ u∈opK d,¬ Yes τ u->∀ x,Lit d u x->Fal φ x)->Yes τ s
theorem TopOk.ext{d d':Cl}(e:Ext d d')(h:TopOk gs d s):TopOk gs d' s:=fun φ τ a b c=>h φ τ a (b.ext e) fun u hu q x hx=>c u (e.op u hu) q x (hx.ext e)
theorem TopOk.app{l:List G}(h:TopOk gs d s):TopOk (gs++l) d s:=fun φ τ a=>h φ τ a.app
theorem fal_tru{φ:Nat->Option Bool}{x:Int}(a:Fal φ x)(b:Tru φ x):False:=by
 unfold Fal at a
 unfold Tru at b
 rw [a] at b
 have:=Z54 b
 cases q:decide (0<x)<;>rw [q] at this<;>cases this
theorem OkC.some{φ:Nat->Option Bool}{L:List Int}(h:OkC φ L) : ¬ ∀ x∈L,Fal φ x:=fun q=>by
 obtain⟨a,ha⟩:=Z2k _ h.1
 exact fal_tru (q a ha) (h.2 a ha fun y hy _=>q y hy)
theorem Bk{L:List Int}{us:List Int}(iv:Inv gs (tops ++ [t]) d)(hl:L.length<=5)(h1 : ∀ y∈L,∃ u∈us,Lit d u y)(h2 : ∀ u∈us,u∈opK d/\∃ y∈L,Lit d u y)
  (hs : ∀ τ,Model gs τ->(Yes τ s↔∃ u∈us,Yes τ u)) (ht : ∀ τ,Model gs τ->Yes τ t->Yes τ s) (ho:Res L o):TelR gs (tops ++ [t]) d L o/\TopOk gs {d with cs:=Cd d.cs o} s:=by
 have hL : ∀ y∈L,1<=y.natAbs/\y.natAbs<d.ga.length:=fun y hy=>by obtain⟨u,_,q⟩:=h1 y hy;exact iv.lit_row q
 have te:=Gl iv ho hl hL fun τ τ' hm hr q=>by
  obtain⟨u,hu,q⟩:=(hs τ hm).mp (ht τ hm (q t (Z3y _ (Z49.mpr rfl))))
  obtain⟨_,y,hy,q2⟩:=h2 u hu
  exact⟨y,hy,(Lit.reads iv q2 hr).mpr q⟩
 refine⟨te,fun φ τ hm hc ha=>(hs τ hm).mpr (Z5f fun q=>(te.ok φ hc).some fun y hy=>?_)⟩
 obtain⟨u,hu,q2⟩:=h1 y hy
 exact ha u (h2 u hu).1 (fun q3=>q ⟨u,hu,q3⟩) y q2
theorem neg_and{τ:Nat->Bool}{ps:List Int}(hm:Model gs τ)(hx:gs[s.natAbs]?=some (.and ps))(hs : ¬ 0<s)(h0 : ∀ p∈ps,p≠0):Yes τ s↔∃ u∈ps.map (fun p => -p),Yes τ u:=by
 have hm:τ s.natAbs=true↔∀ p∈ps,Yes τ p:=hm _ _ hx
 unfold Yes
 rw [decide_eq_false hs]
 constructor
 ·intro q
  have : ¬ ∀ p∈ps,Yes τ p:=fun r=>by rw [hm.mpr r] at q;cases q
  simp only [Classical.not_forall] at this
  obtain⟨p,hp,r⟩:=this
  exact⟨-p,Z44.mpr ⟨p,hp,rfl⟩,(Yes.neg (h0 p hp)).mpr r⟩
 ·rintro⟨u,hu,q⟩
  obtain⟨p,hp,rfl⟩:=Z44.mp hu
  rw [<-Z5v]
  exact fun r=>(Yes.neg (h0 p hp)).mp q (hm.mp r p hp)
noncomputable def LeafN(gs:List G)(d:Cl)(s:Int):Prop := ∀ x:G,gs[s.natAbs]?=some x->match x with
 |.and ps => ∀ p∈ps,-p∈opK d
 |.inp=>s∈opK d
 |_=>True
theorem LeafN.ext{d d':Cl}{s:Int}(e:Ext d d')(h:LeafN gs d s):LeafN gs d' s:=fun x hx=>by
 have:=h x hx
 cases x with
 |and ps=>exact fun p hp=>e.op _ (this p hp)
 |inp=>exact e.op _ this
 |non=>trivial
 |tru=>trivial
noncomputable def TopSt(gs:List G)(d:Cl)(S:Int->Prop)(s:Int):Prop:=(TopOk gs d s/\LeafN gs d s)\/(0<s/\∃ ps,gs[s.natAbs]?=some (.and ps)/\∀ p∈ps,S p)
theorem TopSt.mono{d d':Cl}{S S':Int->Prop}(e:Ext d d')(h:TopSt gs d S s)(k : ∀ p,S p->S' p):TopSt gs d' S' s:=h.imp (fun q=>⟨q.1.ext e,q.2.ext e⟩) fun⟨a,ps,b,c⟩=>⟨a,ps,b,fun p hp=>k p (c p hp)⟩
theorem top_all(ok:COk gs kn){S:Int->Prop}(h : ∀ s,S s->TopSt gs d S s) : ∀ s,S s->TopOk gs d s:=by
 suffices key : ∀ k,∀ s,S s->s.natAbs=k->TopOk gs d s from fun s hs=>key _ s hs rfl
 intro k
 induction k using Z1t with
 |ind k ih =>
  intro s hs e
  rcases h s hs with⟨q,_⟩|⟨s0,ps,q1,q2⟩
  ·exact q
  ·intro φ τ a b c
   unfold Yes
   rw [decide_eq_true s0]
   refine(a _ _ q1).mpr fun p hp=>ih p.natAbs ?_ p (q2 p hp) rfl φ τ a b c
   have:=((ok.parts q1).2.lt p hp).2
   exact(Z1a this (Z0x e))
inductive TopR(gs:List G)(tops:List Int)(B:Nat->Prop)(d:Cl)(σ:Hp)(t:Int)(τ:Hp):Prop
 |mk (d':Cl) (f:Fr8 σ τ) (k:ClsAt d' τ) (iv:Inv gs (tops ++ [t]) d') (ext:Ext d d') (wa:d'.wa = []) (pe:Hn gs d') (ok:TopOk gs d' t) (low : ∀ k∈nuK d',k∈nuK d\/B k.natAbs) (S:Int->Prop) (St:S t) (Sn : ∀ s,S s->TopSt gs d' S s) (le:d'.cs.length+4*d.op.length<=d.cs.length+38+4*d'.op.length)
noncomputable def FrT(σ σ':Hp):Prop := ∀ n,n<8\/12<n->n≠180->n≠181->σ' n=σ n
structure TpG(gs:List G)(tops:List Int)(B R:Nat->Prop)(d:Cl)(t:Int)(sn W:List Int)(d':Cl):Prop where
 st:Step gs (tops ++ [t]) B d d'
 le:d'.cs.length<=d.cs.length+sn.length
 nd:sn.Nodup
 mem : ∀ s,s∈sn\/s∈W->(In gs s/\R s.natAbs)/\∀ τ,Model gs τ->Yes τ t->Yes τ s
 top:t∈sn\/t∈W
 don : ∀ s∈sn,TopSt gs d' (fun s=>s∈sn\/s∈W) s
inductive TpI(gs:List G)(tops:List Int)(B R:Nat->Prop)(d:Cl)(σ:Hp)(t:Int)(k:Nat)(s:St):Prop
 |mk (h0:s.loc 0=some (.ref 6)) (h2:s.loc 2=some (.ref 181)) (h3:s.loc 3=some (.ref 180)) (f:FrT σ s.hp) (kvs:List (Int×V)) (sn:s.hp 180=some (.idict kvs)) (W:List Int) (wt:s.hp 181=some (.list (W.map .int))) (d':Cl) (k1:ClsAt d' s.hp) (g:TpG gs tops B R d t (kvs.map (·.1)) W d')
   (wl:W.length<=1+4*kvs.length) (m:k+5*kvs.length=190+W.length)
end L01
end Lay
namespace Lay
namespace L01
variable{gs:List G}{tops:List Int}{d:Cl}{kn:List (List Int×V)}{σ:Hp}{B R:Nat->Prop}{t u:Int}{sn W W':List Int}{d1 d2:Cl}
theorem TpG.old(g:TpG gs tops B R d t sn (W ++ [u]) d1)(hu:u∈sn):TpG gs tops B R d t sn W d1:=by
 have k : ∀ s,s∈sn\/s∈W ++ [u]->s∈sn\/s∈W:=fun s q=>q.elim .inl fun q=>(Z3w.mp q).elim .inr fun q=>.inl (Z49.mp q▸hu)
 exact⟨g.st,g.le,g.nd,fun s q=>g.mem s (q.imp id (Z3x _)),k t g.top,fun s hs=>(g.don s hs).mono (Ext.refl _) k⟩
theorem TpG.new{ps:List Int}(g:TpG gs tops B R d t sn (W ++ [u]) d1)(hu:u∉sn)(st:Step gs (tops ++ [t]) B d1 d2)(le:d2.cs.length<=d1.cs.length+1)(hW : ∀ s,s∈W'↔s∈W\/s∈ps)(hp : ∀ p∈ps,(In gs p/\R p.natAbs)/\∀ τ,Model gs τ->Yes τ t->Yes τ p)
  (hd:TopSt gs d2 (fun s=>s∈sn ++ [u]\/s∈W') u):TpG gs tops B R d t (sn ++ [u]) W' d2:=by
 have k : ∀ s,s∈sn\/s∈W ++ [u]->s∈sn ++ [u]\/s∈W':=fun s q=>q.elim (fun q=>.inl (Z3x _ q)) fun q=>(Z3w.mp q).elim (fun q=>.inr ((hW s).mpr (.inl q))) fun q=>.inl (Z3y _ q)
 refine⟨g.st.trans st,by have:=g.le;rw [Z3b];exact Z16 le (Z20 this),List.nodup_append.mpr ⟨g.nd,Z4k _ _,fun a ha b hb e=>hu ?_⟩,fun s q=>?_,k t g.top,fun s hs=>?_⟩
 ·rw [<-Z49.mp hb,<-e];exact ha
 ·rcases q with q|q
  ·rcases Z3w.mp q with q|q
   ·exact g.mem s (.inl q)
   ·exact g.mem s (.inr (Z3y _ q))
  ·rcases(hW s).mp q with q|q
   ·exact g.mem s (.inr (Z3x _ q))
   ·exact hp s q
 ·rcases Z3w.mp hs with q|q
  ·exact(g.don s q).mono st.ext k
  ·rw [Z49.mp q];exact hd
theorem FrT.free(h:FrT σ σ')(hf:Free 180 σ):Free 200 σ':=fun n hn=>(h n (.inr (by exact(Z1a (nlt 12 200 rfl) hn))) (by exact(Z1n (Z1a (nlt 180 200 rfl) hn))) (by exact(Z1n (Z1a (nlt 181 200 rfl) hn)))).trans (hf n (by exact(Z16 (nle 180 200 rfl) hn)))
theorem FrT.up{τ:Hp}{n:Nat}{o:Option O}(h:FrT σ τ)(hn:n=180\/n=181):FrT σ (upd τ n o):=fun m q1 q2 q3=>by rw [Z5 _ _ (by lia)];exact h m q1 q2 q3
theorem ClsAt.up{n:Nat}{o:Option O}(h:ClsAt d σ)(hn:12<n):ClsAt d (upd σ n o):=h.mono fun m q1 q2=>Z5 _ _ (by exact(Z1o (Z17 q2 hn)))
theorem FrT.fr8{τ τ':Hp}(h:FrT σ τ)(k:Fr8 τ τ'):FrT σ τ':=fun n q1 q2 q3=>(k n q1).trans (h n q1 q2 q3)
inductive TpC(gs:List G)(tops:List Int)(B:Nat->Prop)(d:Cl)(σ:Hp)(ps:List Int)(i:Nat)(acc:List V)(s':St):Prop
 |mk (h0:s'.loc 0=some (.ref 6)) (h2:s'.loc 2=some (.ref 181)) (h3:s'.loc 3=some (.ref 180)) (d':Cl) (ys:List Int) (e:acc=ys.map V.int) (f:Fr8 σ s'.hp) (k:ClsAt d' s'.hp) (st:Step gs tops B d d') (eq:d'.cs=d.cs) (l:ys.length=i) (h : ∀ j p,ps[j]?=some p->j<i-> -p∈opK d'/\∃ y,ys[j]?=some y/\Lit d' (-p) y)
theorem At{ps ys:List Int}(yl:ys.length=ps.length)(h : ∀ (j:Nat) (p:Int),ps[j]?=some p->j<ps.length-> -p∈opK d/\∃ y,ys[j]?=some y/\Lit d (-p) y) :
  (∀ y∈ys,∃ u∈ps.map (fun p => -p),Lit d u y)/\∀ u∈ps.map (fun p => -p),u∈opK d/\∃ y∈ys,Lit d u y:=by
 refine⟨fun y hy=>?_,fun u hu=>?_⟩
 ·obtain⟨j,hj,rfl⟩:=Z43.mp hy
  have hjp:j<ps.length:=by exact(Z1a hj (Z0x yl))
  obtain⟨_,y,q2,q3⟩:=h j ps[j] (Z2v hjp) hjp
  rw [Z2v hj] at q2
  exact⟨_,Z44.mpr ⟨ps[j],Z35 hjp,rfl⟩,Z54 q2▸q3⟩
 ·obtain⟨p,hp,rfl⟩:=Z44.mp hu
  obtain⟨j,hj,rfl⟩:=Z43.mp hp
  obtain⟨q1,y,q2,q3⟩:=h j ps[j] (Z2v hj) hj
  exact⟨q1,y,Z45 q2,q3⟩
theorem Hm(ok:COk gs kn){τ:Nat->Bool}(a:Model gs τ):Yes τ 1:=by
 have hl:1<gs.length:=Z1a (by decide) ok.len
 have hx:gs[1]?=some gs[1]:=Z2v hl
 have w:=ok.well 1 _ hx
 generalize gs[1]=x at hx w
 cases w with
 |non q=>exact absurd q (by decide)
 |tru _=>exact a _ _ hx
 |inp q=>exact absurd q (by decide)
 |and q _=>exact absurd q (by decide)
theorem top_ws(c:gs.length<=20)(ok:COk gs kn)(h:ClsAt d σ)(hc:Yp gs kn σ)(iv:Inv gs tops d)(hn:Free 180 σ)(pe:Hn gs d)(hl:d.cs.length<=400)(hwa:d.wa = [])(hg:In gs t)(hR:R t.natAbs)(hRR : ∀ i ps,R i->gs[i]?=some (.and ps)->∀ p∈ps,R p.natAbs/\B p.natAbs)(hRi : ∀ i:Nat,R i->gs[i]?=some .inp->B i)(hB : ∀ i ps,B i->gs[i]?=some (.and ps)->∀ p∈ps,B p.natAbs) :
  Ws (Y4 180 2 W0) [.ref 6,.int t] σ (fun _ σ'=>TopR gs tops B d σ t σ'):=by
 have l1000:1000<lim:=by decide
 refine Ws.fn rfl ?_
 unfold W0
 refine .seq (.assignSwap (.cons (.list (.cons (.getL (v:=.int t) rfl (.nil (.mkLstS rfl (show 1<=lim by decide) (hn 181 (by decide)) (.cons (.new (by dsimp only;rw [Z5 _ _ (by decide)];exact hn 180 (by decide)) (.nil ⟨show 2<=100 by decide,.sets1 (.sets1 (.sets0 ?_))⟩))))))))))
 refine .seq (.whileW (TpI gs tops B R d σ t) (k:=191) ⟨rfl,rfl,rfl,FrT.up (FrT.up (fun _ _ _ _=>rfl) (.inr rfl)) (.inl rfl),[],rfl,[t],rfl,d,(h.up (n:=181) (by decide)).up (n:=180) (by decide),⟨.refl (iv.top t),Z12 _,Z4e,fun s q=>?_,.inr (Z49.mpr rfl),fun _ q=>nomatch q⟩,by simp,rfl⟩ ?_)
 ·rcases q with q|q
  ·cases q
  ·rw [Z49.mp q];exact⟨⟨hg,hR⟩,fun _ _ q=>q⟩
 rintro k s ⟨a0,a2,a3,f1,kvs,sn,L,wt,d1,k1,g,wl,m⟩
 have b1:=g.st.iv.bounds c
 have snl:=P2 c g.nd fun s hs=>(g.mem s (.inl hs)).1.1
 rw [Z3g] at snl
 have le1:=g.le
 rw [Z3g] at le1
 refine .tcmp (.call (.cons (.getL (v:=.ref 181) a2 (.nil (W.len (n:=L.length) (Lv wt) (by exact(Xw (Ze 765 (Zq (Zo 1000) Z0) (Ze 5005 (Zb Z1 (Z8 Yi (Zm 4 Za))) (Ze 4004 (Zj (Z8 Zp (Zm 5 Za)) (Z8 (Zo 190) Z1)) (Xn 1000 (Zh Z1 Z0))))) rfl l1000 wl m)) (.pure (W.gt (.asBool ⟨fun hb=>?_,fun hb=>?_⟩))))))))
 ·have hb:=of_decide_eq_false hb
  obtain rfl:L = []:=Z2i (by exact(Z0v (Y2 (Zd (Qu X0 Zu) (Zh Z0 Wt)) rfl hb) (Y2 (Zh Wt Z0) rfl)))
  have wB : ∀ s∈d1.wa,B s.natAbs:=fun s hs=>(g.st.low.wa s hs).elim (fun q=>by rw [hwa] at q;cases q) id
  have cnt:=g.st.stp.cnt
  rw [hwa] at cnt
  have hc1:Yp gs kn s.hp:=hc.mono fun n q=>f1 n (.inl (by exact(Z17 q (nlt 5 8 rfl)))) (by exact(Z1o (Z17 q (nlt 5 180 rfl)))) (by exact(Z1o (Z17 q (nlt 5 181 rfl))))
  refine .seq (.expr (.meth (.getL (v:=.ref 6) a0 ⟨okK k1 (by rfl),.nil (.callM ((Lm (B:=B) hB c ok k1 hc1 g.st.iv ((f1.free hn).mono (by decide)) (fun s q=>(pe s (g.st.stp.new s q.1 q.2)).ext g.st.ext) (by exact(Ye (Zd (Zb Z0 (Zo 400)) (Zd (Zb Z1 (Zo 38)) (Zd (Zb Za (Z8 Z0 Z1)) (Zh Za (Zo 500))))) rfl hl snl le1)) wB).mono ?_))⟩)))
  rintro _ τ2 ⟨d2,f2,k2,r,w2⟩
  have le:=r.le
  rw [w2] at le
  simp only [Z3h] at le cnt
  refine .end ⟨_,_,rfl,Zs fun _=>Z7i,d2,fun n q=>?_,k2.mono fun n q1 q2=>if_pos (by exact(Z17 q2 (nlt 12 180 rfl))),r.iv,g.st.ext.trans r.ext,w2,r.pe,?_,fun k hk=>?_,(fun s=>s∈kvs.map (·.1)\/s∈[]),g.top,fun s hs=>hs.elim (fun q=>(g.don s q).mono r.ext fun _ w=>w) (fun q=>nomatch q),by exact(fk8_0 (Zd (Zb Z0 (Zo 38)) (Zd (Zb Z1 (Z8 Za Z0)) (Ze (-4) (Zj (Z8 Zp Wt) (Z8 X4 Vh)) (Zd (Zb (Z8 (Z8 Mg (Zm 4 Zp)) (Zm 4 Wt)) (Z8 (Z8 Z1 (Zm 4 Cu)) (Zm 4 Vh))) (Zh (Z8 Mg (Zm 4 X4)) (Z8 (Z8 Za (Zo 38)) (Zm 4 Cu))))))) rfl snl le1 cnt le)⟩
  ·unfold cut
   split
   ·dsimp only
    rw [f2 n q];exact f1 n q (by exact(Z1o (Y2 (Zd (Zq Z0 (Zo 180)) (Zy Z0 (Zo 180))) rfl (by assumption)))) (by lia)
   ·exact(hn n (by omega)).symm
  ·exact(top_all ok (S:=fun s=>s∈kvs.map (·.1)\/s∈[]) (fun s hs=>hs.elim (g.don s) fun q=>nomatch q) t g.top).ext r.ext
  ·exact(r.low k hk).elim (g.st.low.nu k) .inr
 have hb:=of_decide_eq_true hb
 have hb:L≠[]:=by intro e;rw [e] at hb;exact absurd hb (by decide)
 obtain⟨L,u,rfl⟩ : ∃ w u,L=w ++ [u]:=⟨_,_,(Z2g hb).symm⟩
 have hpop:s.hp 181=some (.list (L.map .int ++ [.int u])):=by rw [wt,Z3q];rfl
 rw [Z3b] at wl m
 simp only [Z3c,Z3h] at wl m
 refine .seq (.assign (.meth (.getL (v:=.ref 181) a2 ⟨Xu hpop,.nil (W.pop hpop (lmLt (by exact(Xw (Ze 765 (Zq (Zo 1000) Z0) (Ze 5005 (Zb (Z8 Z1 (Y0 Wt)) (Z8 Yi (Zm 4 Za))) (Ze 4004 (Zj (Z8 Zp (Zm 5 Za)) (Z8 (Zo 190) (Z8 Z1 (Y0 Wt)))) (Xn 1000 (Zy Z1 Z0))))) rfl l1000 wl m))) ?_)⟩)))
 refine .seq (.ite (.tcmp (.getL (v:=.int u) rfl (.getL (v:=.ref 180) a3 (W.inD (X7 (xs:=kvs) (by exact sn)) (.asBool ⟨fun hb=>?_,fun hb=>.end ?_⟩))))))
 ·rw [Z5z] at hb
  refine .seq (.pure ⟨k-1,by exact(Zw (Zd (Zj (Y0 Z0) Z1) (Zy Z0 Z1)) rfl (Z1u (Ye (Ze 5 (Zb Z0 (Zo 38)) (Ze (-1) (Zj (Z8 Z1 (Zm 5 Z0)) (Z8 (Zo 190) (Z8 Za (Y0 Wt)))) (Zh Yi Z1))) rfl snl m))),a0,a2,a3,f1.up (.inr rfl),kvs,sn,L,rfl,d1,k1.up (by decide),g.old ((Yk _ _).mp hb),by exact(Zw (Zd (Zb (Z8 Z0 (Y0 Wt)) (Z8 Yi (Zm 4 Z1))) (Zh Z0 (Z8 Yi (Zm 4 Z1)))) rfl wl),by exact(Xw (Zd (Zj (Z8 Z0 (Zm 5 Z1)) (Z8 (Zo 190) (Z8 Za (Y0 Wt)))) (Zd (Zj (Y0 Zp) Z0) (J9 (Z8 Zp (Zm 5 Z1)) (Z8 (Zo 190) Za)))) rfl m (Z1u (Ye (Ze 5 (Zb Z0 (Zo 38)) (Ze (-1) (Zj (Z8 Z1 (Zm 5 Z0)) (Z8 (Zo 190) (Z8 Za (Y0 Wt)))) (Zh Yi Z1))) rfl snl m)))⟩)
 rw [Z5z] at hb
 have hu:u∉kvs.map (·.1):=fun q=>Bool.noConfusion (hb.symm.trans ((Yk kvs u).mpr q))
 refine .seq (.assignSub (.pure (.getL (v:=.ref 180) a3 (.getL (v:=.int u) rfl (W.setD (kvs:=kvs) (by exact sn) rfl (by exact(Z1h (Z17 snl (nlt 38 1000 rfl)) l1000)) ?_)))))
 have snl:=P2 c (Z4d.mpr ⟨hu,g.nd⟩) fun s hs=>(Z3z.mp hs).elim (fun e=>(g.mem s (.inr (Z3y _ (Z49.mpr e)))).1.1) fun q=>(g.mem s (.inl q)).1.1
 rw [Z3c,Z3g] at snl
 have keys:(Y6 kvs u (.bool true)).map (·.1)=kvs.map (·.1) ++ [u]:=by rw [Jk,if_neg hu]
 have kl:(Y6 kvs u (.bool true)).length=kvs.length+1:=by have:=congrArg Z3a keys;simpa using this
 refine atS (fun s=>(s.loc 0=some (.ref 6)/\s.loc 2=some (.ref 181)/\s.loc 3=some (.ref 180)/\s.loc 4=some (.int u))/\FrT σ s.hp/\s.hp 180=some (.idict (Y6 kvs u (.bool true)))/\s.hp 181=some (.list (L.map .int))/\ClsAt d1 s.hp) ⟨⟨a0,a2,a3,rfl⟩,(f1.up (n:=181) (.inr rfl)).up (n:=180) (.inl rfl),rfl,rfl,(k1.up (n:=181) (by decide)).up (n:=180) (by decide)⟩ ?_
 rintro⟨loc,τ⟩ ⟨⟨l0,l2,l3,l4⟩,fT,s180,s181,kT⟩
 dsimp only at l0 l2 l3 l4 fT s180 s181 kT
 clear a0 a2 a3 f1 sn wt k1 hpop s
 have hcT:Yp gs kn τ:=hc.mono fun n q=>fT n (.inl (by exact(Z17 q (nlt 5 8 rfl)))) (by exact(Z1o (Z17 q (nlt 5 180 rfl)))) (by exact(Z1o (Z17 q (nlt 5 181 rfl))))
 have hnT:=fT.free hn
 obtain⟨⟨uin,uR⟩,ut⟩:=g.mem u (.inr (Z3y _ (Z49.mpr rfl)))
 have hx:gs[u.natAbs]?=some gs[u.natAbs]:=Z2v uin.2
 generalize gs[u.natAbs]=x at hx
 have fin : ∀ (s':St) (d2:Cl) (L' ps:List Int),s'.loc 0=some (.ref 6)->s'.loc 2=some (.ref 181)->s'.loc 3=some (.ref 180)->FrT σ s'.hp->s'.hp 180=some (.idict (Y6 kvs u (.bool true)))->s'.hp 181=some (.list (L'.map .int))->ClsAt d2 s'.hp->L'.length<=L.length+4->Step gs (tops ++ [t]) B d1 d2->d2.cs.length<=d1.cs.length+1->(∀ s,s∈L'↔s∈L\/s∈ps)->(∀ p∈ps,(In gs p/\R p.natAbs)/\∀ τ,Model gs τ->Yes τ t->Yes τ p)->TopSt gs d2 (fun s=>s∈kvs.map (·.1) ++ [u]\/s∈L') u->∃ j,j<k/\TpI gs tops B R d σ t j s' :=
  fun s' d2 L' ps e0 e2 e3 e4 e5 e6 e7 e8 e9 e10 e11 e12 e13=>⟨190+L'.length-5*(kvs.length+1),by exact(Q6 (Ze (-1) (Zj (Z8 Z0 (Zm 5 Z1)) (Z8 (Zo 190) (Z8 Za (Y0 Wt)))) (Zd (Zb Zp (Z8 Za Xi)) (Zd (Zj (Z8 X4 (Zm 5 (Y0 Z1))) (Z8 (Zo 190) Zp)) (Zy X4 Z0)))) rfl m e8 (Z1u (Zw (Ze 5 (Zb (Y0 Z0) (Zo 38)) (Zh (Zm 5 (Y0 Z0)) (Z8 (Zo 190) Z1))) rfl snl))),e0,e2,e3,e4,_,e5,L',e6,d2,e7,by rw [keys];exact g.new hu e9 e10 e11 e12 e13,by exact(Xw (Zd (Zb (Z8 Z0 (Y0 Wt)) (Z8 Yi (Zm 4 Z1))) (Ze (-4) (Zj Za (Y0 Z1)) (Zd (Zb Zp (Z8 Z0 Xi)) (Zh Zp (Z8 Yi (Zm 4 Za)))))) rfl wl kl e8),by exact(Xw (Ze 5 (Zj Z0 (Y0 Z1)) (Zd (Zj (Z8 Za (Zm 5 (Y0 Z1))) (Z8 (Zo 190) Zp)) (J9 (Z8 Za (Zm 5 Z0)) (Z8 (Zo 190) Zp)))) rfl kl (Z1u (Zw (Ze 5 (Zb (Y0 Z0) (Zo 38)) (Zh (Zm 5 (Y0 Z0)) (Z8 (Zo 190) Z1))) rfl snl)))⟩
 have leaf : ∀ (s':St) (d2:Cl),s'.loc 0=some (.ref 6)->s'.loc 2=some (.ref 181)->s'.loc 3=some (.ref 180)->Fr8 τ s'.hp->ClsAt d2 s'.hp->Step gs (tops ++ [t]) B d1 d2->d2.cs.length<=d1.cs.length+1->TopOk gs d2 u/\LeafN gs d2 u->∃ j,j<k/\TpI gs tops B R d σ t j s' :=
  fun s' d2 e0 e2 e3 e4 e5 e6 e7 e8=>fin s' d2 L [] e0 e2 e3 (fT.fr8 e4) ((e4 _ (by decide)).trans s180) ((e4 _ (by decide)).trans s181) e5 (by exact ar307) e6 e7 (fun s=>by simp) (fun _ q=>nomatch q) (.inl e8)
 refine .seq (.assign (.meth (.op1 (.getL (v:=.ref 6) l0 (W.kCircuit kT ⟨okC hcT (by rfl),.cons (.call (.cons (.getL (v:=.int u) l4 (.nil (W.abs (.nil (.callM ((Qd (g:=(u.natAbs:Int)) (x:=x) hcT hx (by exact(Z16 c (nle 20 1000 rfl))) (hnT.mono (by decide))).mono ?_))))))))⟩)))))
 rintro _ τ ⟨rfl,rfl⟩
 have pin : ∀ {ps:List Int},gs[u.natAbs]?=some (.and ps)->∀ p∈ps,In gs p/\p.natAbs<u.natAbs:=fun q p hp=>by have:=(ok.parts q).2.lt p hp;have:=uin.2;exact⟨⟨by lia,by lia⟩,by lia⟩
 have hkd:=fun {y:G} (q:(x.kind==y.kind)=true)=>G.kind_eq q
 refine .seq (.ite (.and1 (.tcmp (.getL (v:=.str x.kind) rfl (.pure (W.eqS (Zv x) (Zv (.and [])) (.asBool ⟨fun hb2=>?_,fun hb2=>⟨nofun,fun _=>?_⟩⟩)))))))
 ·rw [Z5z] at hb2
  obtain⟨ps,rfl⟩ : ∃ ps,x = .and ps:=by rcases G.kind_eq (y:=.and []) hb2 with q|⟨ps,_,q,_⟩<;>exact⟨_,q⟩
  have pk:=(ok.parts hx).2
  have p4:=pk.four
  have pin:=pin hx
  refine .and1 (.tcmp (.getL (v:=.int u) l4 (.pure (W.gt (.asBool ⟨fun hs0=>.and0 ⟨fun _=>?_,nofun⟩,fun hs0=>⟨nofun,fun _=>?_⟩⟩)))))
  ·have hs0:=of_decide_eq_true hs0
   refine .seq (.expr (.extRev (.getL (v:=.ref 181) l2 ⟨Xu s181,.meth (.op1 (.getL (v:=.ref 6) l0 (W.kCircuit kT ⟨okC hcT (by rfl),.cons (.getL (v:=.int u) l4 (.nil (.callM ((Gc (g:=u) (x:=.and ps) hcT hx (by exact(Z16 c (nle 20 1000 rfl))) (hnT.mono (by decide))).mono ?_))))⟩)))⟩)))
   rintro _ τ ⟨rfl,rfl⟩
   refine W.extRev (ys:=ps.map .int) s181 (by rw [Z3b,Z3g,Z3g];exact(Xw (Ze 153 (Zq (Zo 1000) Z0) (Ze 1001 (Zb (Z8 Z1 (Y0 Wt)) (Z8 Yi (Zm 4 Za))) (Ze 4004 (Zb (Y0 Za) (Zo 38)) (Ze 1001 (Zb Zp Xi) (Xn 1000 (Zy (Z8 Z1 Zp) Z0)))))) rfl l1000 wl snl p4)) (.end (.end (fin _ d1 (L++ps.reverse) ps l0 l2 l3 (fT.up (.inr rfl)) s180 ?_ (kT.up (by decide)) (by rw [Z3b,Z3k];lia) (.refl g.st.iv) (Z14 _) (fun s=>by simp) (fun p hp=>⟨⟨(pin p hp).1,(hRR _ _ uR hx p hp).1⟩,fun τ a b=>?_⟩) (.inr ⟨hs0,ps,hx,fun p hp=>.inr (by simp [hp])⟩))))
   ·rw [Z3q,List.map_reverse];rfl
   ·have q:=ut τ a b
    unfold Yes at q
    rw [decide_eq_true hs0] at q
    exact(a _ _ hx).mp q p hp
  ·have hs0:=of_decide_eq_false hs0
   refine .seq (.ite (.tcmp (.getL (v:=.str (G.and ps).kind) rfl (.pure (W.eqS (Zv (.and ps)) (Zv (.and [])) (.asBool ⟨fun _=>?_,fun hb3=>absurd hb3 (by simp only [G.kind];decide)⟩))))))
   refine .seq (.expr (.meth (.getL (v:=.ref 6) l0 ⟨okK kT (by rfl),.cons (.comp (.meth (.op1 (.getL (v:=.ref 6) l0 (W.kCircuit kT ⟨okC hcT (by rfl),.cons (.op1 (.getL (v:=.int u) l4 (W.neg (.nil (.callM ((Gc (g := -u) (x:=.and ps) hcT (by rw [Z6h];exact hx) (by exact(Z16 c (nle 20 1000 rfl))) (hnT.mono (by decide))).mono ?_))))))⟩)))))⟩)))
   rintro _ τ ⟨rfl,rfl⟩
   refine⟨rfl,.compM (xs:=ps.map .int) (TpC gs (tops ++ [t]) B d1 τ ps) ⟨l0,l2,l3,d1,[],rfl,Fr8.refl _,kT,.refl g.st.iv,rfl,rfl,fun _ _ _ q=>absurd q (Z1q _)⟩ (fun _ _ _ _=>V3 _) ?_ ?_⟩
   ·rintro i acc s' y ⟨a0,a2,a3,d2,ys,rfl,f,k2,st,eq,yl,hh⟩ hy
    rw [Z30] at hy
    obtain⟨p,hp,rfl⟩:=Z50.mp hy
    have hi:=(Z2y.mp hp).1
    obtain⟨p1,p2⟩:=pin p (Z45 hp)
    refine .and0 ⟨nofun,fun _=>.meth (.getL (v:=.ref 6) a0 ⟨okK k2 (by rfl),.cons (.op1 (.getL (v:=.int p) rfl (W.neg (.nil (.callM ((Qs (g := -p) (B:=B) c k2 st.iv (f.free (hnT.mono (by decide)) (by decide)) p1.neg (by rw [Z6h];exact(hRR _ _ uR hx p (Z45 hp)).2)).mono ?_))))))⟩)⟩
    rintro _ τ' ⟨d3,z,rfl,f2,k3,st2,c2,o2,z2,_⟩
    refine⟨rfl,by rw [Z3g];exact(Xw (Ze 4 (Zq (Zo 1000) Z0) (Ze 1001 (Zb Z1 Xi) (Ze 1001 (Zj Za Zp) (Ze 1001 (Zq Zp Z1) (Xn 1000 (Zy Za Z0)))))) rfl l1000 p4 yl hi),a0,a2,a3,d3,ys ++ [z],by rw [Z3q];rfl,f.trans f2,k3,st.trans st2,c2.trans eq,by rw [Z3b,yl];rfl,fun j p' hj hlt=>?_⟩
    by_cases q:j<i
    ·obtain⟨q1,y,q2,q3⟩:=hh j p' hj q
     exact⟨st2.ext.op _ q1,y,by rw [Z2r (by exact(Z1a q (Z0x yl.symm)))];exact q2,q3.ext st2.ext⟩
    ·obtain rfl:j=i:=by lia
     obtain rfl:=Z54 (hp.symm.trans hj)
     exact⟨o2,z,by rw [<-yl,Z2s (Z12 _),Z1y];rfl,z2⟩
   ·rintro acc s' ⟨a0,a2,a3,d2,ys,rfl,f,k2,st,eq,yl,hh⟩
    rw [Z3g] at yl hh
    obtain⟨h1,h2⟩:=At yl hh
    refine .mkLst (W6 _) (lmLe (by exact(Ye (Ze 4 (Zq (Zo 1000) Z0) (Ze 1001 (Zb Z1 Xi) (Ze 1001 (Zj Za Z1) (Xn 1000 (Zh Za Z0))))) rfl l1000 p4 yl))) (.nil (.callM ((Fb (L:=ys) k2 (f.free (hnT.mono (by decide)) (by decide)) (by exact(Z16 (Z16 (Z0x yl) p4) (nle 4 5 rfl))) (fun y hy e=>?_) (by rw [eq];exact(Ye (Zd (Zb Z0 (Zo 400)) (Zd (Zb Z1 (Zo 38)) (Zd (Zb Za (Z8 Z0 Z1)) (Zh Za (Zo 1000))))) rfl hl (by assumption) le1))).mono ?_)))
    ·obtain⟨w,_,q⟩:=h1 y hy
     subst e
     exact absurd (st.iv.lit_row q).1 (by decide)
    rintro _ τ2 ⟨f3,o,ho,k3⟩
    obtain⟨t1,t2⟩:=Bk st.iv (by exact(Z16 (Z16 (Z0x yl) p4) (nle 4 5 rfl))) h1 h2 (fun τ hm=>neg_and hm hx hs0 fun p hp e=>by subst e;exact absurd (pin _ hp).1.1 (by decide)) ut ho
    have le':=t1.le
    rw [eq] at le'
    exact .end (.end (.end (leaf _ _ a0 a2 a3 (f.trans f3) k3 (st.trans (t1.st.mono fun _ q=>q.elim)) (by rw [eq];exact le') ⟨t2,fun x' hx'=>by obtain rfl:=Z54 (hx.symm.trans hx');exact fun p hp=>(h2 (-p) (Z44.mpr ⟨p,hp,rfl⟩)).1⟩)))
 rw [Z5z] at hb2
 have nand : ∀ ps,x≠ .and ps:=fun ps e=>by subst e;exact absurd hb2 (by simp only [G.kind];decide)
 refine .seq (.ite (.tcmp (.getL (v:=.str x.kind) rfl (.pure (W.eqS (Zv x) (Zv (.and [])) (.asBool ⟨fun hb3=>?_,fun hb3=>?_⟩))))))
 ·rw [Z5z] at hb3
  exact absurd (hb2.symm.trans hb3) (by decide)
 clear hb2 hb3 fin
 refine .seq (.ite (.tcmp (.getL (v:=.int u) l4 (.pure (W.eqI (.asBool ⟨fun hb2=>?_,fun hb2=>.end (.end (.end (.end (leaf _ d1 l0 l2 l3 (Fr8.refl _) kT (.refl g.st.iv) (Z14 _) ⟨fun φ τ a _ _=>?_,?_⟩))))⟩))))))
 ·have u1:u≠1:=by simpa using hb2
  refine .seq (.expr (.meth (.getL (v:=.ref 6) l0 ⟨okK kT (by rfl),.cons (.ife (.tcmp (.getL (v:=.str x.kind) rfl (.pure (W.eqS (Zv x) (Zv .inp) (.asBool ⟨fun hb3=>?_,fun hb3=>?_⟩))))))⟩)))
  ·rw [Z5z] at hb3
   obtain rfl:x = .inp:=(G.kind_eq (y:=.inp) hb3).elim id fun⟨_,_,_,q⟩=>nomatch q
   refine .list (.cons (.meth (.getL (v:=.ref 6) l0 ⟨okK kT (by rfl),.cons (.getL (v:=.int u) l4 (.nil (.callM ((Qs (g:=u) (B:=B) c kT g.st.iv (hnT.mono (by decide)) uin (hRi _ uR hx)).mono ?_))))⟩)))
   rintro _ τ' ⟨d3,z,rfl,f2,k3,st2,c2,o2,z2,_⟩
   refine .nil (.mkLst rfl (show 1<=lim by decide) (.nil (.callM ((Fb (L := [z]) k3 (f2.free (hnT.mono (by decide)) (by decide)) (show 1<=5 by decide) (fun y hy e=>?_) (by rw [c2];exact(Ye (Zd (Zb Z0 (Zo 400)) (Zd (Zb Z1 (Zo 38)) (Zd (Zb Za (Z8 Z0 Z1)) (Zh Za (Zo 1000))))) rfl hl (by assumption) le1))).mono ?_))))
   ·rw [Z49.mp hy] at e
    subst e
    exact absurd (st2.iv.lit_row z2).1 (by decide)
   rintro _ τ2 ⟨f3,o,ho,k4⟩
   obtain⟨t1,t2⟩:=Bk (L := [z]) (us := [u]) (s:=u) st2.iv (show 1<=5 by decide) (fun y hy=>⟨u,Z49.mpr rfl,by rw [Z49.mp hy];exact z2⟩) (fun w hw=>by rw [Z49.mp hw];exact⟨o2,z,Z49.mpr rfl,z2⟩) (fun τ _=>by simp) ut ho
   have le':=t1.le
   rw [c2] at le'
   exact .end (.end (.end (.end (leaf _ _ l0 l2 l3 (f2.trans f3) k4 (st2.trans (t1.st.mono fun _ q=>q.elim)) (by rw [c2];exact le') ⟨t2,fun x' hx'=>by obtain rfl:=Z54 (hx.symm.trans hx');exact o2⟩))))
  ·rw [Z5z] at hb3
   have no : ∀ τ,Model gs τ->¬ Yes τ u:=fun τ a=>by
    cases x with
    |and ps=>exact absurd rfl (nand ps)
    |inp=>exact absurd rfl (G.kind_ne hb3)
    |non=>cases ok.well _ _ hx with|non q=>have:=uin.1;lia
    |tru =>
     have a:τ u.natAbs=true:=a _ _ hx
     have:u.natAbs=1:=by cases ok.well _ _ hx with|tru q=>exact q
     unfold Yes
     rw [a,decide_eq_false (by lia)]
     exact nofun
   refine .list (.nil (.mkLst rfl (Z25 _) (.nil (.callM ((Fb (L := []) kT (hnT.mono (by decide)) (Z25 _) (fun _ q=>nomatch q) (by exact(Ye (Zd (Zb Z0 (Zo 400)) (Zd (Zb Z1 (Zo 38)) (Zd (Zb Za (Z8 Z0 Z1)) (Zh Za (Zo 1000))))) rfl hl (by assumption) le1))).mono ?_)))))
   rintro _ τ2 ⟨f3,o,ho,k4⟩
   obtain⟨t1,t2⟩:=Bk (L := []) (us := []) (s:=u) g.st.iv (Z25 _) (fun _ q=>nomatch q) (fun _ q=>nomatch q) (fun τ a=>iff_of_false (no τ a) fun⟨_,q⟩=>nomatch q.1) ut ho
   exact .end (.end (.end (.end (leaf _ _ l0 l2 l3 f3 k4 (t1.st.mono fun _ q=>q.elim) t1.le ⟨t2,fun x' hx'=>by obtain rfl:=Z54 (hx.symm.trans hx');cases x with
    |and ps=>exact absurd rfl (nand ps)
    |inp=>exact absurd rfl (G.kind_ne hb3)
    |non=>trivial
    |tru=>trivial⟩))))
 ·have u1:u=1:=by simpa using hb2
  subst u1
  exact Hm ok a
 ·have u1:u=1:=by simpa using hb2
  subst u1
  intro x' hx'
  cases ok.well _ _ hx' with
  |non q=>exact absurd q (by decide)
  |tru _=>trivial
  |inp q=>exact absurd q (by decide)
  |and q _=>exact absurd q (by decide)
end L01
end Lay
namespace Lay
namespace L01
variable{gs:List G}{tops:List Int}{d:Cl}{kn:List (List Int×V)}{σ:Hp}
theorem fal_all(ok:COk gs kn)(iv:Inv gs tops d)(wa:d.wa = [])(pe:Hn gs d){φ:Nat->Option Bool}{τ:Nat->Bool}(hm:Model gs τ)(hc:Closed φ d.cs)(hi : ∀ i n:Nat,gs[i]?=some .inp->Num d i n->φ n=some (τ i)) :
  ∀ s∈opK d,¬ Yes τ s->∀ x,Lit d s x->Fal φ x:=by
 suffices key : ∀ k,∀ s∈opK d,s.natAbs=k->¬ Yes τ s->∀ x,Lit d s x->Fal φ x from fun s hs=>key _ s hs rfl
 intro k
 induction k using Z1t with
 |ind k ih =>
  intro s hs hk hno x hlx
  obtain⟨s1,s2⟩:=iv.opk s hs
  have hlt:s.natAbs<gs.length:=by have:=iv.key _ s2;lia
  have hgx:gs[s.natAbs]?=some gs[s.natAbs]:=Z2v hlt
  generalize gs[s.natAbs]=z at hgx
  have hdo:=pe s ⟨hs,by rw [wa];exact Z4g⟩ z hgx
  have x1:=(iv.lit_row hlx).1
  cases z with
  |non=>cases ok.well _ _ hgx with|non q=>lia
  |tru =>
   obtain⟨n,hn,ht⟩:=hdo
   have a:τ s.natAbs=true:=hm _ _ hgx
   have q : ¬ 0<s:=fun q=>hno (by unfold Yes;rw [a,decide_eq_true q])
   obtain⟨n',hn',e⟩:=hlx
   obtain rfl:=hn.fn hn'
   rw [if_neg q] at e
   subst e
   unfold Fal
   rw [Z6h,Z6g,ht φ hc,decide_eq_false (by lia)];rfl
  |inp =>
   obtain⟨n,hn,e⟩:=hlx
   have e1:=F3 e
   have e2:decide (0<x)=decide (0<s):=by rw [decide_eq_decide];subst e;split<;>omega
   unfold Yes at hno
   unfold Fal
   rw [e1,hi _ _ hgx hn,e2]
   cases h1:τ s.natAbs<;>cases h2:decide (0<s)<;>first|rfl|exact absurd (h1.trans h2.symm) hno
  |and ps =>
   have a:τ s.natAbs=true↔∀ p∈ps,Yes τ p:=hm _ _ hgx
   have pk:=(ok.parts hgx).2
   dsimp only at hdo
   unfold Yes at hno
   by_cases q:0<s
   ·rw [if_pos q] at hdo
    rw [decide_eq_true q,a] at hno
    simp only [Classical.not_forall] at hno
    obtain⟨p,hp,np⟩:=hno
    obtain⟨p1,x',y,p2,p3,p4⟩:=hdo p hp
    have:=(pk.lt p hp).2
    rw [hlx.fn p2]
    exact p4 φ hc (ih p.natAbs (by exact(Z1a this (Z0x hk))) p p1 rfl np y p3)
   ·rw [if_neg q] at hdo
    rw [decide_eq_false q,Bool.not_eq_false,a] at hno
    obtain⟨p1,x',p2,p3⟩:=hdo
    rw [hlx.fn p2]
    refine p3 φ hc fun p hp y hy=>ih (-p).natAbs ?_ (-p) (p1 p hp) rfl (fun w=>(Yes.neg ?_).mp w (hno p hp)) y hy
    ·have:=(pk.lt p hp).2;rw [Z6h];exact(Z1a this (Z0x hk))
    ·intro e;subst e;have:=(pk.lt _ hp).1;exact absurd this (by decide)
end L01
end Lay
namespace Lay
section
variable{s:St}{Q:V->St->Prop}
theorem Po{n:Nat}{L:List Int}(h:s.hp n=some (.list (L.map .int))):Va (.ref n) s=some (.list (L.map .int)):=(Lg h).trans (congrArg (Z4z PyData.list) (Rz L))
theorem W.inR{neg:Bool}{x:Int}{n:Nat}{L:List Int}(h:s.hp n=some (.list (L.map .int)))(k:Q (.bool (decide (x∈L)^^neg)) s):Wp (vIn neg (.int x) (.ref n)) s Q :=
 ⟨_,_,orn (bs Wm (bn (orn (Yc fun _=>Z7i) (Nn h fun _=>O.noConfusion)))) (orn (bn (Yc fun _=>Z7i)) (bs (Jv fun _=>Z7i) (bs (Po h) (bs (Ym fun _ _=>PyData.list.inj) ((if_pos (by rw [ke_shaped_ints];rfl)).trans (by rw [L6])))))),k⟩
theorem W.addS{v u:V}{x y:List V}{n:Nat}(hi:un V.int v=none)(h1:Wv v s=some x)(h2:Wv u s=some y)(hl:(x++y).all V.low=true)(hn:(x++y).length<=lim)(hf:s.hp n=none)(k:Q (.ref n) {s with hp:=upd s.hp n (some (.list (x++y)))}):Wp (Nt (some n) v u) s Q :=
 ⟨_,_,orn (bn hi) (bs h1 (bs h2 (R.mkLstS hl hn hf))),k⟩
end
namespace L01
variable{gs:List G}{kn:List (List Int×V)}{σ:Hp}{d:Cl}
theorem V4(h:ClsAt d σ)(hn:Free 170 σ)(h1:d.ga.length<=1000):Ws (Y4 170 1 Y7) [.ref 6] σ (fun v σ'=>v = .lst (d.ga.tail.map .int)/\σ'=σ):=by
 have l1100:1100<lim:=by decide
 refine Ws.fn rfl ?_
 unfold Y7
 have items : ∀ s:St,Yh (.rng 1 ((d.ga.length:Int)-1+1) 1) s=some ((Z4o (d.ga.length-1)).map fun(i:Nat)=>V.int (1+i)):=fun s=>by
  rw [Uf (by decide) (by exact(Zw (Zd (Zb Z0 (Zo 1000)) (Zd (Yr Xm (Xb (Yl Zu Xx) Xx)) (Zy Z1 (Zo (2^40))))) rfl h1 (Z6i (Y2 (Yv X0 (Xb (Yl Zu Xx) Xx)) rfl)))),show ((d.ga.length:Int)-1+1-1).toNat=d.ga.length-1 by lia]
 refine .seq (.ret (W.filt (RS:=Z4o (d.ga.length-1)) (emb:=fun i:Nat=>V.int (1+i)) (e:=fun i=>V.int ((d.ga[i+1]?).getD 0)) (p:=fun _=>true) (v:=.rng 1 ((d.ga.length:Int)-1+1) 1) ?_ rfl (fun s' _=>items s') (fun _ _ _ _ _ _=>.and0 ⟨rfl,rfl⟩) ?_ (fun _ _=>rfl) (by rw [Z3j];exact(Ye (Ze 1101 (Zb Z0 (Zo 1000)) (Ze 1001 (Zq (Zo 1100) Z1) (Ze 1101 (Zb Za Z0) (Xn 1100 (Zy Za Z1))))) rfl h1 l1100 (Z1v _ _))) fun s' e1 e2=>?_))
 ·refine .call (.cons (.pure (.cons (.op2 (.meth (.getL (v:=.ref 6) rfl ⟨okK h (by rfl),.nil (.callM ((many_ws h (hn.mono (by decide)) h1).mono ?_))⟩))))))
  rintro _ _ ⟨rfl,rfl⟩
  exact .pure (W.add (.nil (W.range2 ⟨rfl,rfl⟩)))
 ·intro i hi _ s' e1 e2 e3
  rw [Z48] at hi
  have e0:s'.loc 0=some (.ref 6):=e2 0 (by decide)
  have hg:d.ga[i+1]?=some d.ga[i+1]:=Z2v (by omega)
  obtain⟨loc,_⟩:=s'
  dsimp only at e0 e1 e3
  subst e1
  have e3':loc 2=some (.int (i+1:Nat)):=by rw [e3];congr 2;exact(Y2 (K6 (Xb Xx Zu) (Xh (Y0 Z0))) rfl)
  refine .meth (.getL (v:=.ref 6) e0 ⟨okK h (by rfl),.cons (.getL (v:=.int (i+1:Nat)) e3' (.nil (.callM ((Es (n:=i+1) h (hn.mono (by decide)) h1 hg).mono ?_))))⟩)
  rintro _ _ ⟨rfl,rfl⟩
  exact⟨by rw [hg];rfl,rfl⟩
 ·obtain⟨loc,_⟩:=s'
  dsimp only at e1
  subst e1
  refine⟨_,_,rfl,Zs fun _=>Z7i,?_,Yg hn⟩
  rw [List.filter_eq_self.mpr fun _ _=>rfl]
  congr 1
  refine Z2m fun i=>?_
  rw [Z30,Z30,List.getElem?_tail]
  by_cases q:i<d.ga.length-1
  ·rw [Z32 q,Z52,Z2v (show i+1<d.ga.length by omega)];rfl
  ·rw [Z2w (by rw [Z3j];exact(Zw (Zd (K7 Z0 Z1) (Zh Z1 Z0)) rfl q)),Z2w (show d.ga.length<=i+1 by exact(Ye (Zd (K7 Z0 Z1) (Zd (Zb Za (Y0 Z1)) (Zh Za (Y0 Z0)))) rfl q (fk_sa _ _)))];rfl
structure Under(gs:List G)(g:Int)(F:List Int):Prop where
 pos : ∀ x∈F,1<=x/\x.natAbs<gs.length
 self:(g.natAbs:Int)∈F
 cl : ∀ x∈F,∀ ps,gs[x.natAbs]?=some (.and ps)->∀ p∈ps,(p.natAbs:Int)∈F
 min : ∀ S:Int->Prop,S g.natAbs->(∀ x ps,S x->gs[x.natAbs]?=some (.and ps)->∀ p∈ps,S p.natAbs)->∀ x∈F,S x
 len:F.length<=gs.length
structure UnG(gs:List G)(g:Int)(F W:List Int):Prop where
 pos : ∀ x,x∈F\/x∈W->1<=x/\x.natAbs<gs.length
 nd:F.Nodup
 self:(g.natAbs:Int)∈F\/(g.natAbs:Int)∈W
 cl : ∀ x∈F,∀ ps,gs[x.natAbs]?=some (.and ps)->∀ p∈ps,(p.natAbs:Int)∈F\/(p.natAbs:Int)∈W
 min : ∀ S:Int->Prop,S g.natAbs->(∀ x ps,S x->gs[x.natAbs]?=some (.and ps)->∀ p∈ps,S p.natAbs)->∀ x,x∈F\/x∈W->S x
inductive UnI(gs:List G)(σ:Hp)(g:Int)(k:Nat)(s:St):Prop
 |mk (l0:s.loc 0=some (.ref 1)) (l2:s.loc 2=some (.ref 361)) (l3:s.loc 3=some (.ref 360)) (F W:List Int) (hf:s.hp 361=some (.list (F.map .int))) (hw:s.hp 360=some (.list (W.map .int))) (h2:s.hp 362=none) (fr : ∀ m,m≠360->m≠361->s.hp m=σ m)
   (u:UnG gs g F W) (wl:W.length+3*gs.length<=4*gs.length+4*F.length) (m:k+5*F.length=5*gs.length+W.length)
theorem UnG.len{g:Int}{F W:List Int}(u:UnG gs g F W)(l:1<=gs.length):F.length<=gs.length:=by
 refine Z16 (Y8 (b:=upK (gs.length-1)) u.nd fun x hx=>?_) (by unfold upK;simp)
 have:=u.pos x (.inl hx)
 rw [show x=((x.natAbs:Nat):Int) by exact(J1 (Ze (-1) (Yr Zu Zg) (K6 Zg Zu)) rfl (Z6i (Wc (Zd (Xq Xx Zg) (Yv X0 Zg)) rfl this.1))),upK_mem];exact⟨(J1 (Zd (Xq Xx Zg) (Ze (-1) (Yr Zu Zg) (Zh Yi Z0))) rfl this.1 (Z6i (Wc (Zd (Xq Xx Zg) (Yv X0 Zg)) rfl this.1))),(Ye (Zd (Zq Z0 Z1) (Ze (-1) (Zj (Y0 Za) Z1) (Zh Z0 Za))) rfl this.2 (Z1u (Y2 (Zd (Zb Yi Z0) (Zh Yi Z0)) rfl l)))⟩
theorem UnG.skip{g x:Int}{F Z:List Int}(u:UnG gs g F (Z ++ [x]))(hx:x∈F):UnG gs g F Z:=by
 have tr : ∀ y,y∈F\/y∈Z ++ [x]->y∈F\/y∈Z:=fun y h=>h.elim .inl fun h=>(Z3w.mp h).elim .inr fun h=>by rw [Z49.mp h];exact .inl hx
 exact⟨fun y h=>u.pos y (h.imp id (Z3x _)),u.nd,tr _ u.self,fun y hy ps hp p q=>tr _ (u.cl y hy ps hp p q),fun S h1 h2 y h=>u.min S h1 h2 y (h.imp id (Z3x _))⟩
theorem COk.in_parts(ok:COk gs kn){i:Nat}{y:G}(h:gs[i]?=some y) : ∀ p∈y.parts,1<=p.natAbs/\p.natAbs<gs.length:=by
 intro p hp
 cases y with
 |and ps=>have:=(ok.parts h).2.lt p hp;have:=(Z2y.mp h).1;lia
 |_=>cases hp
theorem COk.parts_len(ok:COk gs kn){i:Nat}{y:G}(h:gs[i]?=some y):y.parts.length<=4:=by
 cases y with
 |and ps=>exact(ok.parts h).2.four
 |_=>exact Z25 _
theorem UnG.step{g x:Int}{F Z:List Int}{y:G}(ok:COk gs kn)(u:UnG gs g F (Z ++ [x]))(hx:x∉F)(hy:gs[x.natAbs]?=some y):UnG gs g (F ++ [x]) (Z++y.parts.map fun p=>((p.natAbs:Nat):Int)):=by
 have xm:x∈Z ++ [x]:=Z3y _ (Z49.mpr rfl)
 have tr : ∀ z,z∈F\/z∈Z ++ [x]->z∈F ++ [x]\/z∈Z++y.parts.map fun p=>((p.natAbs:Nat):Int):=fun z h=>h.elim (fun h=>.inl (Z3x _ h)) fun h=>(Z3w.mp h).elim (fun h=>.inr (Z3x _ h)) fun h=>.inl (Z3y _ h)
 have ba : ∀ z,z∈F ++ [x]\/z∈Z++(y.parts.map fun p=>((p.natAbs:Nat):Int))->(z∈F\/z∈Z ++ [x])\/∃ p∈y.parts,z=(p.natAbs:Int):=fun z h=>h.elim (fun h=>(Z3w.mp h).elim (fun h=>.inl (.inl h)) fun h=>.inl (.inr (Z3y _ h))) fun h=>(Z3w.mp h).elim (fun h=>.inl (.inr (Z3x _ h))) fun h=>.inr (by
  obtain⟨p,hp,rfl⟩:=Z44.mp h
  exact⟨p,hp,rfl⟩)
 refine⟨fun z h=>?_,?_,tr _ u.self,fun z hz ps hp p q=>?_,fun S h1 h2 z h=>?_⟩
 ·rcases ba z h with h|⟨p,hp,rfl⟩
  ·exact u.pos z h
  ·have:=ok.in_parts hy p hp;exact⟨(Y2 (Zd (Zb Yi Z0) (Yv Xx Zu)) rfl this.1),(Zw (Zd (Zq Z0 Z1) (Zy Z0 Z1)) rfl this.2)⟩
 ·exact List.nodup_append.mpr ⟨u.nd,by simp,fun a ha b hb e=>hx (by rw [<-Z49.mp hb,<-e];exact ha)⟩
 ·rcases Z3w.mp hz with hz|hz
  ·exact tr _ (u.cl z hz ps hp p q)
  ·obtain rfl:=Z49.mp hz
   obtain rfl:y = .and ps:=Z54 (hy.symm.trans hp)
   exact .inr (Z3y _ (Z44.mpr ⟨p,q,rfl⟩))
 ·rcases ba z h with h|⟨p,hp,rfl⟩
  ·exact u.min S h1 h2 z h
  ·have sx:=u.min S h1 h2 x (.inr xm)
   cases y with
   |and ps=>exact h2 x ps sx hy p hp
   |_=>cases hp
theorem Tr{loc:Nat->Option V}{i m n n':Nat}(h:loc i=some (.ref m))(q:m≠n)(q':m≠n'):Bw n' (.ref n) (Kj n loc) i=some (.ref m):=bs (bs h (if_neg q)) (if_neg q')
theorem H7{loc:Nat->Option V}{i n n':Nat}(h:loc i=some (.ref n'))(q:n'≠n):Bw n' (.ref n) (Kj n loc) i=some (.ref n):=bs (bs h (if_neg q)) (if_pos rfl)
theorem D9{B n:Nat}{xs:List V}{σ:Hp}(hB:B<=n)(h:σ n=some (.list xs)):Ud B (.ref n) σ=some (.lst xs):=by
 unfold Ud
 rw [Vx]
 exact(if_neg (Z1p hB)).trans (ors (bs (bs h (Ym fun _ _=>oL)) rfl))
theorem Eb{B:Nat}{τ σ:Hp}(hn:Free B σ)(h : ∀ m,m<B->τ m=σ m):cut B τ=σ:=by
 funext m
 by_cases q:m<B
 ·exact(if_pos q).trans (h m q)
 ·exact(if_neg q).trans (hn m (by exact(Z10 q))).symm
theorem Az{g:Int}(hc:Yp gs kn σ)(ok:COk gs kn)(hl:gs.length<=40)(hn:Free 360 σ)(hg:In gs g):Ws (Y4 360 2 U4) [.ref 1,.int g] σ (fun v σ'=>σ'=σ/\∃ F,v = .lst (F.map .int)/\Under gs g F):=by
 have l1100:1100<lim:=by decide
 have lg:1<=gs.length:=Z16 (by decide) ok.len
 refine Ws.fn rfl ?_
 unfold U4
 refine .seq (.assignSwap (.cons (.list (.nil (.mkLstS rfl (Z25 _) (hn 361 (by decide)) (.cons (.list (.cons (.call (.cons (.getL (v:=.int g) rfl (.nil (W.abs (.nil (.mkLstS rfl (show 1<=lim by decide) (by dsimp only;rw [Z5 _ _ (by decide)];exact hn 360 (by decide)) (.nil ⟨show 2<=100 by decide,.sets1 (.sets1 (.sets0 ?_))⟩))))))))))))))))
 refine .seq (Wp.whileW (UnI gs σ g) (k:=5*gs.length+1) ⟨rfl,rfl,rfl,[],[(g.natAbs:Int)],?_,?_,?_,fun m q1 q2=>?_,⟨fun x hx=>?_,Z4e,.inr (Z49.mpr rfl),(fun _ q=>nomatch q),fun S hS _ x hx=>?_⟩,by simp;lia,by simp⟩ ?_)
 ·dsimp only;rw [Z5 _ _ (by decide)];exact Z4 _ _ _
 ·dsimp only;exact Z4 _ _ _
 ·dsimp only;rw [Z5 _ _ (by decide),Z5 _ _ (by decide)];exact hn 362 (by decide)
 ·dsimp only;rw [Z5 _ _ q1,Z5 _ _ q2]
 ·rw [Z49.mp (hx.resolve_left fun q=>nomatch q)]
  have:=hg.1;have:=hg.2;lia
 ·rw [Z49.mp (hx.resolve_left fun q=>nomatch q)];exact hS
 ·rintro k s ⟨l0,l2,l3,F,Z,hf,hw,h2,fr,u,wl,hm⟩
  have hd:Va (.lst []) s=some (.list []):=Qq []
  have fl:=u.len lg
  refine .tcmp (.getL (v:=.ref 360) l3 (.list (.nil (.mkLst rfl (Z25 _) (W.eqv (Po hw) hd (ke_shaped_ints Z) (by with_unfolding_all rfl) (.asBool ⟨fun hb=>?_,fun hb=>?_⟩))))))
  ·have hW:Z = []:=by
    have e:PyData.eqv (.list (Z.map .int)) (.list ([].map .int))=_:=Fx Z []
    rw [Z60,Z5u] at hb
    exact of_decide_eq_true (e.symm.trans hb)
   subst hW
   refine .seq (.ret (.getL (v:=.ref 361) l2 ⟨_,.lst (F.map .int),rfl,?_,?_,F,rfl,⟨fun x hx=>u.pos x (.inl hx),u.self.resolve_right (fun q=>nomatch q),fun x hx ps hp p q=>(u.cl x hx ps hp p q).resolve_right (fun q=>nomatch q),fun S h1 h2 x hx=>u.min S h1 h2 x (.inl hx),fl⟩⟩))
   ·exact D9 (by decide) hf
   ·exact Eb hn fun m q=>fr m (by exact(Z1o q)) (by exact(Z1o (Z1h q (nlt 360 361 rfl))))
  ·rcases Z2j Z with rfl|⟨Z,x,rfl⟩
   ·exfalso
    have e:PyData.eqv (.list (([]:List Int).map .int)) (.list ([].map .int))=true:=Fx [] []
    rw [Z60] at hb
    have e:PyData.eqv (.list []) (.list [])=true:=e
    rw [show ([]:List Int).map PyData.int = [] from rfl,e] at hb
    cases hb
   rw [Z2a] at *
   rw [Z3b,Z3l] at wl hm
   have px:=u.pos x (.inr (Z3y _ (Z49.mpr rfl)))
   refine .seq (.assign (.meth (.getL (v:=.ref 360) l3 ⟨Xu hw,.nil (W.pop (xs:=Z.map .int) (u:=.int x) (by rw [hw,Z3q];rfl) (by rw [Z3g];exact(Xw (Ze 5505 (Zb Z0 (Zo 40)) (Ze 200 (Zq (Zo 1100) Z1) (Ze 4404 (Zb Za Z0) (Ze 1101 (Zb (Z8 (Y0 Zp) (Zm 3 Z0)) (Z8 (Zm 4 Z0) (Zm 4 Za))) (Xn 1100 (Zy Zp Z1)))))) rfl hl l1100 fl wl)) ?_)⟩)))
   have hcs:Yp gs kn s.hp:=hc.mono fun m q=>fr m (by exact(Z1o (Z17 q (nlt 5 360 rfl)))) (by exact(Z1o (Z17 q (nlt 5 361 rfl))))
   have nfs:Free 363 s.hp:=fun m q=>(fr m (by exact(Z1n (Z1a (nlt 360 363 rfl) q))) (by exact(Z1n (Z1a (nlt 361 363 rfl) q)))).trans (hn m (by exact(Z16 (nle 360 363 rfl) q)))
   obtain⟨y,hy⟩ : ∃ y,gs[x.natAbs]?=some y:=⟨_,Z2v px.2⟩
   refine .seq (.ite (.tcmp (.getL (v:=.int x) rfl (.getL (v:=.ref 361) l2 (W.inR (by dsimp only;rw [Z5 _ _ (by decide)];exact hf) (.asBool ⟨fun hb=>?_,fun hb=>?_⟩))))))
   ·have hx:x∉F:=fun q=>by rw [Z60,decide_eq_true q] at hb;cases hb
    have u':=u.step ok hx hy
    have fl':=u'.len lg
    have pl:=ok.parts_len hy
    rw [Z3b,Z3l] at fl'
    refine .seq (.expr (.meth (.getL (v:=.ref 361) l2 ⟨Xu (by dsimp only;rw [Z5 _ _ (by decide)];exact hf),.cons (.getL (v:=.int x) rfl (.nil (W.app (xs:=F.map .int) (by dsimp only;rw [Z5 _ _ (by decide)];exact hf) rfl (by rw [Z3g];exact(Q6 (Ze 6606 (Zb Z0 (Zo 40)) (Ze 241 (Zq (Zo 1100) Z1) (Ze 1101 (Zb (Z8 (Y0 Za) (Zm 3 Z0)) (Z8 (Zm 4 Z0) (Zm 4 Zp))) (Ze 1101 (Zj (Z8 X4 (Zm 5 Zp)) (Z8 (Zm 5 Z0) (Y0 Za))) (Xn 1100 (Zy Zp Z1)))))) rfl hl l1100 wl hm)) ?_)))⟩)))
    have hp0 : ∀ m,m<360->upd (upd s.hp 360 (some (.list (Z.map .int)))) 361 (some (.list (F.map .int ++ [.int x]))) m=s.hp m:=fun m q=>(Z5 _ _ (by exact(Z1o (Z1h q (nlt 360 361 rfl))))).trans (Z5 _ _ (by exact(Z1o q)))
    have hcs':Yp gs kn (upd (upd s.hp 360 (some (.list (Z.map .int)))) 361 (some (.list (F.map .int ++ [.int x])))):=hcs.mono fun m q=>hp0 m (by exact(Z17 q (nlt 5 360 rfl)))
    have nf':Free 362 (upd (upd s.hp 360 (some (.list (Z.map .int)))) 361 (some (.list (F.map .int ++ [.int x])))):=(Free.upd (show Free 362 s.hp from fun m q=>(fr m (by exact(Z1n (Z1a (nlt 360 362 rfl) q))) (by exact(Z1n (Z1a (nlt 361 362 rfl) q)))).trans (hn m (by exact(Z16 (nle 360 362 rfl) q)))) (by decide)).upd (by decide)
    refine .seq (.assign (.op2 (.getL (v:=.ref 360) l3 (W.filt (RS:=y.parts) (emb:=V.int) (e:=fun p=>V.int p.natAbs) (p:=fun _=>true) (v:=J0 y.parts) ?_ rfl (fun s' _=>V3 s') (fun _ _ _ _ _ _=>.and0 ⟨rfl,rfl⟩) ?_ (fun _ _=>rfl) (by exact(Z1h (Z17 pl (nlt 4 1100 rfl)) l1100)) fun s' e1 e2=>?_))))
    ·refine .meth (.getL (v:=.ref 1) l0 ⟨okC hcs' (by rfl),.cons (.getL (v:=.int x) rfl (.nil (.callM ((Gc (g:=x) hcs' hy (by exact(Z16 hl (nle 40 1000 rfl))) (nf'.mono (by decide))).mono ?_))))⟩)
     rintro _ _ ⟨rfl,rfl⟩
     exact⟨rfl,rfl⟩
    ·intro p _ _ s' e1 e2 e3
     exact .call (.cons (.getL (v:=.int p) e3 (.nil (W.abs ⟨rfl,rfl⟩))))
    ·rw [List.filter_eq_self.mpr fun _ _=>rfl]
     obtain⟨loc,_⟩:=s'
     dsimp only at e1 e2
     subst e1
     have m0:loc 0=some (.ref 1):=(e2 0 (by decide)).trans l0
     have m2:loc 2=some (.ref 361):=(e2 2 (by decide)).trans l2
     have l5:y.parts.map (fun p=>V.int p.natAbs)=(y.parts.map fun p=>((p.natAbs:Nat):Int)).map V.int:=by rw [Z3t];rfl
     rw [l5]
     refine W.addS (x:=Z.map .int) (y:=(y.parts.map fun p=>((p.natAbs:Nat):Int)).map V.int) (Yc fun _=>Z7i) (Jm ?_) J4 ?_ ?_ ?_ ?_
     ·dsimp only;rw [Z5 _ _ (by decide)];exact Z4 _ _ _
     ·rw [<-Z3q];exact W6 _
     ·rw [Z3b,Z3g,Z3g,Z3g];exact(Q6 (Ze 5505 (Zb Z0 (Zo 40)) (Ze 199 (Zq (Zo 1100) Z1) (Ze 1101 (Zb (Z8 (Y0 Za) (Zm 3 Z0)) (Z8 (Zm 4 Z0) (Zm 4 Zp))) (Ze 4404 (Zb (Y0 Zp) Z0) (Ze 1101 (Zb X4 Xi) (Xn 1100 (Zh (Z8 Za X4) Z1))))))) rfl hl l1100 wl fl' pl)
     ·dsimp only;exact nf' 362 (by decide)
     ·refine Wp.move (o:=.list ((Z++(y.parts.map fun p=>((p.natAbs:Nat):Int))).map .int)) ?_ (.end (.end ⟨k+y.parts.length-6,by exact(Ye (Zd (Zb Z0 Xi) (Zd (Zj (Z8 Z1 (Zo 6)) (Z8 Za Z0)) (Zy Z1 Za))) rfl pl (Z1u (Q6 (Ze (-1) (Zj (Z8 Z0 (Zm 5 Z1)) (Z8 (Zm 5 Za) (Y0 Zp))) (Ze 5 (Zb (Y0 Z1) Za) (Zh (Zo 6) (Z8 Z0 X4)))) rfl hm fl'))),?_,?_,?_,F ++ [x],Z++(y.parts.map fun p=>((p.natAbs:Nat):Int)),?_,?_,?_,fun m q1 q2=>?_,u',?_,?_⟩))
      ·dsimp only;rw [Z4,Z3q]
      ·exact Tr (m:=1) m0 (by decide) (by decide)
      ·exact Tr (m:=361) m2 (by decide) (by decide)
      ·exact H7 (i:=3) (n:=360) (n':=362) (loc:=upd loc 3 (some (.ref 362))) rfl (by decide)
      ·dsimp only;rw [Z5 _ _ (by decide),Z5 _ _ (by decide),Z5 _ _ (by decide),Z5 _ _ (by decide),Z4,Z3q];rfl
      ·dsimp only;exact Z4 _ _ _
      ·dsimp only;rw [Z5 _ _ (by decide),Z4]
      ·dsimp only
       by_cases q:m=362
       ·subst q;rw [Z5 _ _ (by decide),Z4];exact(hn 362 (by decide)).symm
       ·rw [Z5 _ _ q1,Z5 _ _ q,Z5 _ _ q1,Z5 _ _ q,Z5 _ _ q2,Z5 _ _ q1];exact fr m q1 q2
      ·rw [Z3b,Z3b,Z3g,Z3l];exact(Xw (Zd (Zb (Z8 (Y0 Z0) (Zm 3 Z1)) (Z8 (Zm 4 Z1) (Zm 4 Za))) (Zd (Zb Zp Xi) (Zh (Z8 (Z8 Z0 Zp) (Zm 3 Z1)) (Z8 (Zm 4 Z1) (Zm 4 (Y0 Za)))))) rfl wl pl)
      ·rw [Z3b,Z3b,Z3g,Z3l];exact(Ro (Zd (Zj (Z8 Z0 (Zm 5 Z1)) (Z8 (Zm 5 Za) (Y0 Zp))) (Zd (Zj (Z8 X4 (Zo 6)) (Z8 Z0 Vh)) (J9 (Z8 X4 (Zm 5 (Y0 Z1))) (Z8 (Zm 5 Za) (Z8 Zp Vh))))) rfl hm (Z1u (Q6 (Ze (-1) (Zj (Z8 Z0 (Zm 5 Z1)) (Z8 (Zm 5 Za) (Y0 Zp))) (Ze 5 (Zb (Y0 Z1) Za) (Zh (Zo 6) (Z8 Z0 X4)))) rfl hm fl')))
   ·have hx:x∈F:=by rw [Z60,Z5u] at hb;exact of_decide_eq_true hb
    refine .end (.end ⟨k-1,by exact(Zw (Zd (Zj (Y0 Z0) Z1) (Zy Z0 Z1)) rfl (Z1u (Xw (Ze 5 (Zb Z0 Z1) (Ze (-1) (Zj (Z8 Za (Zm 5 Z0)) (Z8 (Zm 5 Z1) (Y0 Zp))) (Zh Yi Za))) rfl fl hm))),l0,l2,l3,F,Z,?_,?_,?_,fun m q1 q2=>?_,u.skip hx,?_,?_⟩)
    ·dsimp only;rw [Z5 _ _ (by decide)];exact hf
    ·dsimp only;exact Z4 _ _ _
    ·dsimp only;rw [Z5 _ _ (by decide)];exact h2
    ·dsimp only;rw [Z5 _ _ q1];exact fr m q1 q2
    ·exact(Ye (Zd (Zb (Z8 (Y0 Z0) (Zm 3 Z1)) (Z8 (Zm 4 Z1) (Zm 4 Za))) (Zh (Z8 Z0 (Zm 3 Z1)) (Z8 (Zm 4 Z1) (Zm 4 Za)))) rfl wl)
    ·exact(Q6 (Zd (Zj (Z8 Z0 (Zm 5 Z1)) (Z8 (Zm 5 Za) (Y0 Zp))) (Zd (Zj (Y0 X4) Z0) (J9 (Z8 X4 (Zm 5 Z1)) (Z8 (Zm 5 Za) Zp)))) rfl hm (Z1u (Xw (Ze 5 (Zb Z0 Z1) (Ze (-1) (Zj (Z8 Za (Zm 5 Z0)) (Z8 (Zm 5 Z1) (Y0 Zp))) (Zh Yi Za))) rfl fl hm)))
end L01
end Lay
namespace Lay
namespace L01
noncomputable def mkO(kvs:List (Int×V))(x:Int):Nat:=((Y1 kvs x).bind (un V.int)).elim 0 Z6u
noncomputable def Tel(kvs:List (Int×V))(r:Nat)(x:Int):Prop:=(mkO kvs x).testBit r=true
noncomputable def Mks(kvs:List (Int×V)):Prop := ∀ x u,Y1 kvs x=some u->∃ m:Nat,u = .int m/\m<2^16
theorem Lx{kvs:List (Int×V)}{x:Int}{m:Nat}(h:Y1 kvs x=some (.int m)):mkO kvs x=m:=by
 unfold mkO;rw [h];show ((un V.int (.int (m:Int))).elim 0 Z6u)=m;rw [Wm];exact Z6v m
theorem Lw{kvs:List (Int×V)}{x:Int}(h:Y1 kvs x=none):mkO kvs x=0:=by unfold mkO;rw [h];rfl
theorem Mks.get{kvs:List (Int×V)}(h:Mks kvs)(x:Int):(Y1 kvs x).getD (.int 0) = .int (mkO kvs x:Nat)/\mkO kvs x<2^16:=by
 cases e:Y1 kvs x with
 |none=>rw [Lw e];exact⟨rfl,by decide⟩
 |some u=>obtain⟨m,rfl,hm⟩:=h x u e;rw [Lx e];exact⟨rfl,hm⟩
theorem Mks.msk{kvs:List (Int×V)}(h:Mks kvs)(x:Int):Msk (fun r=>Tel kvs r x) (mkO kvs x):=⟨(h.get x).2,fun _ _=>Iff.rfl⟩
theorem F5{kvs:List (Int×V)}{x y:Int}{m:Nat}:mkO (Y6 kvs x (.int m)) y=if y=x then m else mkO kvs y:=by
 by_cases e:y=x
 ·subst e;rw [if_pos rfl];exact Lx (by rw [Xe,if_pos rfl])
 ·rw [if_neg e];unfold mkO;rw [Xe,if_neg e]
theorem Mks.set{kvs:List (Int×V)}(h:Mks kvs){x:Int}{m:Nat}(hm:m<2^16):Mks (Y6 kvs x (.int m)):=fun y u q=>by
 rw [Xe] at q
 by_cases e:y=x
 ·rw [if_pos e] at q;exact⟨m,(Z54 q).symm,hm⟩
 ·rw [if_neg e] at q;exact h y u q
theorem Pn{α:Type}{p q:α->Bool} : ∀ {l:List α},(∀ a∈l,p a=true->q a=true)->(∃ a∈l,q a=true/\p a=false)->l.countP p<l.countP q
 | [],_,⟨_,h,_⟩=>nomatch h
 |a::l,h1,⟨b,hb,q1,q2⟩=>by
  have hl : ∀ a∈l,p a=true->q a=true:=fun a h=>h1 a (Z40 _ h)
  have le:=Z2f hl
  rw [Z2d,Z2d]
  rcases Z3z.mp hb with rfl|hb
  ·rw [q1,q2];exact Z1e le
  ·have lt:=Pn hl ⟨b,hb,q1,q2⟩
   cases e:p a with
   |false=>exact Z1a lt (Z0u _ _)
   |true=>rw [h1 a (Z41 ..) e];exact Z0p lt _
structure Sp(cs:List (List Int))(k0 kvs:List (Int×V)):Prop where
 ms:Mks kvs
 ks : ∀ x∈kvs.map (·.1),x∈k0.map (·.1)\/x∈cs.flatten
 nd:(kvs.map (·.1)).Nodup
 inc : ∀ r x,Tel k0 r x->Tel kvs r x
 rs : ∀ r,r<16->∀ x,Tel kvs r x->Tel k0 r x\/∃ c∈cs,x∈c/\∀ y∈c,y≠x->Tel kvs r (-y)
 snd : ∀ r,r<16->∀ τ:Nat->Bool,(∀ c∈cs,∃ x∈c,Yes τ x)->(∀ x,Tel k0 r x->Yes τ x)->∀ x,Tel kvs r x->Yes τ x
noncomputable def prs(cs:List (List Int)):List (Int×Nat):=cs.flatten.flatMap fun x=>(Z4o 16).map fun r=>(x,r)
noncomputable def cnt(cs:List (List Int))(kvs:List (Int×V)):Nat:=(prs cs).countP fun p=>(mkO kvs p.1).testBit p.2
structure Rnd(cs:List (List Int))(k0 k1:List (Int×V))(A:List Int->Int->Prop)(B:List Int->Prop)(kvs:List (Int×V))(m:Nat)(b:Bool):Prop where
 sp:Sp cs k0 kvs
 lt:m<2^16
 cl : ∀ r,r<16->m.testBit r=true->∃ c∈cs,∀ y∈c,Tel kvs r (-y)
 up : ∀ r x,Tel k1 r x->Tel kvs r x
 new:b=true->∃ r x,r<16/\x∈cs.flatten/\Tel kvs r x/\¬ Tel k1 r x
 old:b=false->(∀ c x,A c x->∀ r,r<16->(∀ y∈c,y≠x->Tel kvs r (-y))->Tel kvs r x)/\∀ c,B c->∀ r,r<16->(∀ y∈c,Tel kvs r (-y))->m.testBit r=true
 eq:b=false->kvs=k1
section
variable{cs:List (List Int)}{k0 k1 kvs:List (Int×V)}{A A':List Int->Int->Prop}{B B':List Int->Prop}{m:Nat}{b:Bool}
theorem Rnd.cnt_le(h:Rnd cs k0 k1 A B kvs m b):cnt cs k1+b.toNat<=cnt cs kvs:=by
 cases b with
 |false=>exact Z2f fun p _ q=>h.up _ _ q
 |true =>
  obtain⟨r,x,hr,hx,q1,q2⟩:=h.new rfl
  exact Pn (fun p _ q=>h.up _ _ q) ⟨(x,r),List.mem_flatMap.mpr ⟨x,hx,Z44.mpr ⟨r,Z48.mpr hr,rfl⟩⟩,q1,Bool.eq_false_iff.mpr q2⟩
theorem Rnd.sub(h:Rnd cs k0 k1 A B kvs m b)(ha : ∀ c x,A' c x->A c x)(hb : ∀ c,B' c->B c):Rnd cs k0 k1 A' B' kvs m b :=
 {h with old:=fun q=>⟨fun c x w=>(h.old q).1 c x (ha c x w),fun c w=>(h.old q).2 c (hb c w)⟩}
theorem Rnd.start(h:Rnd cs k0 k1 A B kvs m b):Rnd cs k0 kvs (fun _ _=>False) (fun _=>False) kvs m false :=
 ⟨h.sp,h.lt,h.cl,fun _ _ q=>q,(fun q=>nomatch q),fun _=>⟨fun _ _ q=>q.elim,fun _ q=>q.elim⟩,fun _=>rfl⟩
theorem Rnd.tell{c:List Int}{x:Int}{R:Nat}{D:Nat->Int->Prop}(h:Rnd cs k0 k1 A B kvs m b)(hc:c∈cs)(hx:x∈c)(hz : ∀ y∈c,y≠0)(d1 : ∀ r,r<16->∀ y∈c,D r y->Tel kvs r (-y))
  (hR:Msk (fun r => ¬ Tel kvs r x/\∀ y∈c,y≠x->D r y) R) (h0:R≠0):Rnd cs k0 k1 A' B' (Y6 kvs x (.int (mkO kvs x|||R:Nat))) m true:=by
 have mo:=(h.sp.ms.msk x).or hR
 have keep : ∀ r y,Tel kvs r y->Tel (Y6 kvs x (.int (mkO kvs x|||R:Nat))) r y:=fun r y q=>by
  unfold Tel
  rw [F5]
  by_cases e:y=x
  ·subst e;rw [if_pos rfl,Z23];unfold Tel at q;rw [q];rfl
  ·rw [if_neg e];exact q
 have back : ∀ r,r<16->∀ y,Tel (Y6 kvs x (.int (mkO kvs x|||R:Nat))) r y->Tel kvs r y\/(y=x/\∀ z∈c,z≠x->Tel kvs r (-z)):=fun r hr y q=>by
  unfold Tel at q
  rw [F5] at q
  by_cases e:y=x
  ·subst e
   rw [if_pos rfl] at q
   exact((mo.2 r hr).mp q).imp id fun w=>⟨rfl,fun z hz hne=>d1 r hr z hz (w.2 z hz hne)⟩
  ·rw [if_neg e] at q;exact .inl q
 have xf:x∈cs.flatten:=List.mem_flatten.mpr ⟨c,hc,hx⟩
 refine⟨⟨h.sp.ms.set mo.1,fun y hy=>?_,?_,fun r y q=>keep r y (h.sp.inc r y q),fun r hr y q=>?_,fun r hr τ t1 t2 y q=>?_⟩,h.lt,fun r hr q=>?_,fun r y q=>keep r y (h.up r y q),fun _=>?_,(fun q=>nomatch q),(fun q=>nomatch q)⟩
 ·rw [Jk] at hy
  by_cases e:x∈kvs.map (·.1)
  ·rw [if_pos e] at hy;exact h.sp.ks y hy
  ·rw [if_neg e] at hy
   rcases Z3w.mp hy with hy|hy
   ·exact h.sp.ks y hy
   ·rw [Z49.mp hy];exact .inr xf
 ·rw [Jk]
  by_cases e:x∈kvs.map (·.1)
  ·rw [if_pos e];exact h.sp.nd
  ·rw [if_neg e];exact List.nodup_append.mpr ⟨h.sp.nd,by simp,fun a ha b hb q=>e (by rw [<-Z49.mp hb,<-q];exact ha)⟩
 ·rcases back r hr y q with q|⟨rfl,q⟩
  ·exact(h.sp.rs r hr y q).imp id fun⟨c,a,b,d⟩=>⟨c,a,b,fun z hz hne=>keep r _ (d z hz hne)⟩
  ·exact .inr ⟨c,hc,hx,fun z hz hne=>keep r _ (q z hz hne)⟩
 ·rcases back r hr y q with q|⟨rfl,q⟩
  ·exact h.sp.snd r hr τ t1 t2 y q
  ·obtain⟨z,z1,z2⟩:=t1 c hc
   by_cases e:z=y
   ·exact e▸z2
   ·exact absurd z2 ((Yes.neg (hz z z1)).mp (h.sp.snd r hr τ t1 t2 (-z) (q z z1 e)))
 ·obtain⟨c',a,d⟩:=h.cl r hr q
  exact⟨c',a,fun y hy=>keep r _ (d y hy)⟩
 ·obtain⟨r,hr⟩ : ∃ r,R.testBit r=true:=Z5f fun q=>h0 (Z0r fun i=>by rw [Z26];exact Bool.eq_false_iff.mpr fun w=>q ⟨i,w⟩)
  have r16:r<16:=by
   refine Z1b fun w=>?_
   rw [Z22 (Z1a hR.1 (Z1s (by decide) w))] at hr;cases hr
  refine⟨r,x,r16,xf,?_,fun w=>((hR.2 r r16).mp hr).1 (h.up r x w)⟩
  unfold Tel;rw [F5,if_pos rfl,Z23,hr,Bool.or_true]
theorem Rnd.skip{c:List Int}{x:Int}{D:Nat->Int->Prop}(h:Rnd cs k0 k1 A B kvs m b)(d2:b=false->∀ r,r<16->∀ y∈c,Tel kvs r (-y)->D r y)
  (hR:Msk (fun r => ¬ Tel kvs r x/\∀ y∈c,y≠x->D r y) 0) (ha : ∀ c' x',A' c' x'->A c' x'\/(c'=c/\x'=x)):Rnd cs k0 k1 A' B kvs m b :=
 {h with old:=fun q=>And.symm ⟨(h.old q).2,fun c' x' w r hr hy=>(ha c' x' w).elim (fun w=>(h.old q).1 c' x' w r hr hy) fun⟨e1,e2⟩=>by
   subst e1;subst e2
   refine Z5f fun w=>?_
   have:=(hR.2 r hr).mpr ⟨w,fun y q1 q2=>d2 q r hr y q1 (hy y q1 q2)⟩
   rw [Z26] at this;cases this⟩}
theorem Rnd.clash{c:List Int}{R:Nat}{D:Nat->Int->Prop}(h:Rnd cs k0 k1 A B kvs m b)(hc:c∈cs)(d1 : ∀ r,r<16->∀ y∈c,D r y->Tel kvs r (-y))(d2:b=false->∀ r,r<16->∀ y∈c,Tel kvs r (-y)->D r y)
  (hR:Msk (fun r => ∀ y∈c,D r y) R) (hb : ∀ c',B' c'->B c'\/c'=c):Rnd cs k0 k1 A B' kvs (m|||R) b :=
 {h with
  lt:=Z1r h.lt hR.1
  cl:=fun r hr q=>by
   rw [Z23,Z5x] at q
   exact q.elim (h.cl r hr) fun q=>⟨c,hc,fun y hy=>d1 r hr y hy ((hR.2 r hr).mp q y hy)⟩
  old:=fun q=>⟨(h.old q).1,fun c' w r hr hy=>by
   rw [Z23,Z5x]
   exact(hb c' w).elim (fun w=>.inl ((h.old q).2 c' w r hr hy)) fun e=>.inr ((hR.2 r hr).mpr fun y q1=>d2 q r hr y q1 (hy y (by rw [e];exact q1)))⟩}
end
structure SpR(cs:List (List Int))(k0 kvs:List (Int×V))(m:Nat):Prop where
 ms:Mks kvs
 lt:m<2^16
 cl : ∀ r,r<16->m.testBit r=true->∃ c∈cs,∀ y∈c,Tel kvs r (-y)
 snd : ∀ r,r<16->∀ τ:Nat->Bool,(∀ c∈cs,∃ x∈c,Yes τ x)->(∀ x,Tel k0 r x->Yes τ x)->∀ x,Tel kvs r x->Yes τ x
 inc : ∀ r x,Tel k0 r x->Tel kvs r x
 fix : ∀ r,r<16->(∀ x,Tel k0 r x->¬ Tel k0 r (-x))->m.testBit r=false->∃ φ,Closed φ cs/\∀ x,x≠0->(Tru φ x↔Tel kvs r x)/\(Fal φ x↔Tel kvs r (-x))
theorem Rnd.done{cs:List (List Int)}{k0 k1 kvs:List (Int×V)}{m:Nat}(h:Rnd cs k0 k1 (fun c x=>c∈cs/\x∈c) (· ∈cs) kvs m false)(hz : ∀ c∈cs,∀ x∈c,x≠0):SpR cs k0 kvs m:=by
 refine⟨h.sp.ms,h.lt,h.cl,h.sp.snd,h.sp.inc,fun r hr hk hm=>?_⟩
 obtain⟨o1,o2⟩:=h.old rfl
 have nal : ∀ c∈cs,¬ ∀ y∈c,Tel kvs r (-y):=fun c hc q=>by rw [o2 c hc r hr q] at hm;cases hm
 have con : ∀ x,Tel kvs r x->¬ Tel kvs r (-x):=by
  have half : ∀ x,Tel kvs r x->Tel kvs r (-x)->Tel k0 r x:=fun x h1 h2=>(h.sp.rs r hr x h1).resolve_right fun⟨c,hc,hx,q⟩=>nal c hc fun y hy=>by
   by_cases e:y=x
   ·rw [e];exact h2
   ·exact q y hy e
  exact fun x h1 h2=>hk x (half x h1 h2) (half (-x) h2 (by rw [Z6o];exact h1))
 classical
 refine⟨fun n=>if Tel kvs r (n:Int) then some true else if Tel kvs r (-(n:Int)) then some false else none,?_,?_⟩
 all_goals
  have key : ∀ x:Int,x≠0->(Tru (fun n=>if Tel kvs r (n:Int) then some true else if Tel kvs r (-(n:Int)) then some false else none) x↔Tel kvs r x)/\(Fal (fun n=>if Tel kvs r (n:Int) then some true else if Tel kvs r (-(n:Int)) then some false else none) x↔Tel kvs r (-x)):=fun x hx=>by
   unfold Tru Fal
   rcases Z6b hx with q|q
   ·obtain⟨n,rfl⟩ : ∃ n:Nat,x = -(n:Int):=⟨x.natAbs,by omega⟩
    rw [decide_eq_false (by lia),Z6h,Z6g,Z6o]
    have cn:=con (n:Int)
    by_cases a:Tel kvs r (n:Int)
    ·have:=cn a;simp [a,this]
    ·by_cases b:Tel kvs r (-(n:Int))<;>simp [a,b]
   ·obtain⟨n,rfl⟩ : ∃ n:Nat,x=(n:Int):=⟨x.natAbs,by lia⟩
    rw [decide_eq_true (by omega),Z6g]
    have cn:=con (n:Int)
    by_cases a:Tel kvs r (n:Int)
    ·have:=cn a;simp [a,this]
    ·by_cases b:Tel kvs r (-(n:Int))<;>simp [a,b]
 ·refine fun c hc=>⟨fun e=>nal c hc (by rw [e];intro y q;cases q),fun x hx q=>((key x (hz c hc x hx)).1).mpr (o1 c x ⟨hc,hx⟩ r hr fun y hy hne=>((key y (hz c hc y hy)).2).mp (q y hy hne))⟩
 ·exact key
end L01
end Lay
namespace Lay
namespace L01
variable{σ:Hp}{cs:List (List Int)}{k0 k1 K kvs:List (Int×V)}{m:Nat}{b:Bool}{c:List Int}{x:Int}
inductive SpRI(s:St)(c:List Int)(K:List (Int×V))(P:Nat->Prop)(i:Nat)(j:Nat)(s':St):Prop
 |mk (hp:s'.hp=s.hp) (lo : ∀ q,q≠9->q≠10->q≠11->s'.loc q=s.loc q) (R:Nat) (l9:s'.loc 9=some (.int R)) (h:Msk (fun r=>P r/\∀ j' y,j'<j->j'≠i->c[j']?=some y->Tel K r (-y)) R)
theorem sp_row{P:Nat->Prop}{R0 i:Nat}{s:St}{Q:Fl->St->Prop}(l7:s.loc 7=some (.lst (c.map fun y=>V.int (mkO K (-y):Nat))))(l8:s.loc 8=some (.int i))(l9:s.loc 9=some (.int R0))(hR:Msk P R0)(hK:Mks K)
  (k : ∀ s' R,s'.hp=s.hp->(∀ q,q≠9->q≠10->q≠11->s'.loc q=s.loc q)->s'.loc 9=some (.int (R:Nat))->Msk (fun r=>P r/\∀ j y,j≠i->c[j]?=some y->Tel K r (-y)) R->Q .next s') :
  Wp (Y.forEnum (Z71 7) 10 11 (Z73 (Z7c 9 (X.ife (Z7a (vEq true) (Z71 10) (Z71 8)) (Z78 T1 (Z71 9) (Z71 11)) (Z71 9))) (Y.end))) s Q:=by
 refine .forEnum (.getL l7 (.forE (Ed) (SpRI s c K P i) ⟨rfl,fun _ _ _ _=>rfl,R0,l9,hR.iff fun r _=>⟨fun q=>⟨q,fun j' y w=>absurd w (Z1q _)⟩,And.left⟩⟩ ?_ ?_))
 ·rintro j s' v ⟨e1,e2,R,e3,hm⟩ hv
  rw [Z30] at hv
  obtain⟨y,hy,rfl⟩:=Z50.mp hv
  have e8:s'.loc 8=some (.int i):=(e2 8 (by decide) (by decide) (by decide)).trans l8
  refine .unpack2 (.seq (.assign (.ife (.tcmp (.getL (v:=.int j) rfl (.getL (v:=.int i) e8 (W.eqI (.asBool ⟨fun hb=>?_,fun hb=>?_⟩))))))))
  ·have hb:j≠i:=fun e=>by subst e;rw [decide_eq_true rfl] at hb;cases hb
   refine .op2 (.getL (v:=.int R) e3 (.getL (v:=.int (mkO K (-y):Nat)) rfl (W.band (.end ⟨e1,fun q q1 q2 q3=>?_,R&&&mkO K (-y),?_,(hm.and (hK.msk (-y))).iff fun r _=>⟨fun⟨⟨w1,w2⟩,w3⟩=>⟨w1,fun j' y' a1 a2 a3=>?_⟩,fun⟨w1,w2⟩=>⟨⟨w1,fun j' y' a1=>w2 j' y' (Z1f a1)⟩,w2 j y (Z1g _) hb hy⟩⟩⟩))))
   ·dsimp only;rw [Z5 _ _ q1,Z5 _ _ q3,Z5 _ _ q2];exact e2 q q1 q2 q3
   ·dsimp only;rw [Z4,Ju]
   ·rcases Z1d (Z0z a1) with a1|rfl
    ·exact w2 j' y' a1 a2 a3
    ·obtain rfl:=Z54 (hy.symm.trans a3);exact w3
  ·have hb:(j:Int)=(i:Int):=by rw [Z60,Z5u] at hb;exact of_decide_eq_true hb
   obtain rfl:j=i:=by lia
   refine .getL (v:=.int R) e3 (.end ⟨e1,fun q q1 q2 q3=>?_,R,?_,hm.iff fun r _=>⟨fun⟨w1,w2⟩=>⟨w1,fun j' y' a1 a2 a3=>w2 j' y' (by lia) a2 a3⟩,fun⟨w1,w2⟩=>⟨w1,fun j' y' a1=>w2 j' y' (Z1f a1)⟩⟩⟩)
   ·dsimp only;rw [Z5 _ _ q1,Z5 _ _ q3,Z5 _ _ q2];exact e2 q q1 q2 q3
   ·dsimp only;rw [Z4]
 ·rintro s' ⟨e1,e2,R,e3,hm⟩
  rw [Z3g] at hm
  exact k s' R e1 e2 e3 (hm.iff fun r _=>⟨fun⟨w1,w2⟩=>⟨w1,fun j y a1 a2=>w2 j y (Z2y.mp a2).1 a1 a2⟩,fun⟨w1,w2⟩=>⟨w1,fun j y _ a1 a2=>w2 j y a1 a2⟩⟩)
inductive SpAI(s:St)(c:List Int)(K:List (Int×V))(j:Nat)(s':St):Prop
 |mk (hp:s'.hp=s.hp) (lo : ∀ q,q≠9->q≠11->s'.loc q=s.loc q) (R:Nat) (l9:s'.loc 9=some (.int R)) (h:Msk (fun r => ∀ j' y,j'<j->c[j']?=some y->Tel K r (-y)) R)
theorem sp_all{s:St}{Q:Fl->St->Prop}(l7:s.loc 7=some (.lst (c.map fun y=>V.int (mkO K (-y):Nat))))(l9:s.loc 9=some (.int 65535))(hK:Mks K)
  (k : ∀ s' R,s'.hp=s.hp->(∀ q,q≠9->q≠11->s'.loc q=s.loc q)->s'.loc 9=some (.int (R:Nat))->Msk (fun r => ∀ y∈c,Tel K r (-y)) R->Q .next s') :
  Wp (Y.for 640 (Z71 7) (fun v=>Z72 11 v) (Z73 (Z7c 9 (Z78 T1 (Z71 9) (Z71 11))) (Y.end))) s Q:=by
 refine .for (.getL l7 ⟨rfl,.forS (xs:=c.map fun y=>V.int (mkO K (-y):Nat)) (SpAI s c K) ⟨rfl,fun _ _ _=>rfl,65535,l9,msk_all.iff fun r _=>⟨fun _ j' y w=>absurd w (Z1q _),fun _=>trivial⟩⟩ (fun _ _ _=>Us J4) ?_ ?_⟩)
 ·rintro j s' v ⟨e1,e2,R,e3,hm⟩ hv
  rw [Z30] at hv
  obtain⟨y,hy,rfl⟩:=Z50.mp hv
  refine .setL (.seq (.assign (.op2 (.getL (v:=.int R) e3 (.getL (v:=.int (mkO K (-y):Nat)) rfl (W.band (.end ⟨e1,fun q q1 q2=>?_,R&&&mkO K (-y),?_,(hm.and (hK.msk (-y))).iff fun r _=>⟨fun⟨w2,w3⟩ j' y' a1 a3=>?_,fun w2=>⟨fun j' y' a1=>w2 j' y' (Z1f a1),w2 j y (Z1g _) hy⟩⟩⟩)))))))
  ·dsimp only;rw [Z5 _ _ q1,Z5 _ _ q2];exact e2 q q1 q2
  ·dsimp only;rw [Z4,Ju]
  ·rcases Z1d (Z0z a1) with a1|rfl
   ·exact w2 j' y' a1 a3
   ·obtain rfl:=Z54 (hy.symm.trans a3);exact w3
 ·rintro s' ⟨e1,e2,R,e3,hm⟩
  rw [Z3g] at hm
  exact k s' R e1 e2 e3 (hm.iff fun r _=>⟨fun w y hy=>by
   obtain⟨j,hj⟩:=List.mem_iff_getElem?.mp hy
   exact w j y (Z2y.mp hj).1 hj,fun w j y _ a=>w y (Z45 a)⟩)
end L01
end Lay
namespace Lay
namespace L01
variable{σ:Hp}{cs:List (List Int)}{k0 k1 K kvs:List (Int×V)}{m:Nat}{b:Bool}{c:List Int}{x:Int}{A:List Int->Int->Prop}{B:List Int->Prop}
inductive SpS(σ:Hp)(kvs:List (Int×V))(m:Nat)(b:Bool)(s:St):Prop
 |mk (l0:s.loc 0=some (.ref 8)) (l2:s.loc 2=some (.ref 640)) (l3:s.loc 3=some (.int m)) (l4:s.loc 4=some (.bool b)) (hk:s.hp 640=some (.idict kvs)) (fr : ∀ n,n≠640->s.hp n=σ n)
theorem Sp.len(h:Sp cs k0 kvs)(hl:k0.length+cs.flatten.length<lim):kvs.length<lim:=by
 have:=Y8 (b:=k0.map (·.1)++cs.flatten) h.nd fun x hx=>Z3w.mpr (h.ks x hx)
 rw [Z3b,Z3g,Z3g] at this
 exact(Xw (Zd (Zq (Z8 Z0 Z1) Za) (Zd (Zb Zp (Z8 Z0 Z1)) (Zy Zp Za))) rfl hl this)
inductive SpL(σ:Hp)(cs:List (List Int))(k0 k1:List (Int×V))(A:List Int->Int->Prop)(B:List Int->Prop)(c:List Int)(K:List (Int×V))(m:Nat)(i:Nat)(s:St):Prop
 |mk (kvs:List (Int×V)) (b:Bool) (h:SpS σ kvs m b s) (l7:s.loc 7=some (.lst (c.map fun y=>V.int (mkO K (-y):Nat)))) (r:Rnd cs k0 k1 (fun c' x'=>A c' x'\/(c'=c/\x'∈c.take i)) B kvs m b) (le : ∀ r x,Tel K r x->Tel kvs r x) (eq:b=false->kvs=K)
theorem nd_lt{α:Type}{c:List α}{x:α}{i j:Nat}(h:c.Nodup)(hi:c[i]?=some x)(hj:c[j]?=some x)(q:i<j):False:=by
 obtain⟨q1,q2⟩:=Z2y.mp hi
 obtain⟨q3,q4⟩:=Z2y.mp hj
 exact List.pairwise_iff_getElem.mp h i j q1 q3 q (q2.trans q4.symm)
theorem Z0h{α:Type}{c:List α}{x:α}{i j:Nat}(h:c.Nodup)(hi:c[i]?=some x)(hj:c[j]?=some x):j=i :=
 (Z1i j i).elim (fun q=>(nd_lt h hj hi q).elim) fun q=>q.elim id fun q=>(nd_lt h hi hj q).elim
theorem sp_lits{s:St}{Q:Fl->St->Prop}(hl:k0.length+cs.flatten.length<lim)(hz : ∀ c∈cs,∀ x∈c,x≠0)(hc:c∈cs)(hnd:c.Nodup)(hK:Mks K)(l5:s.loc 5=some (J0 c))(h0:SpL σ cs k0 k1 A B c K m 0 s)(k : ∀ s',SpL σ cs k0 k1 A B c K m c.length s'->Q .next s') :
  Wp (Y.forEnum (Z71 5) 8 6 (Z73 (Z7c 9 (Z78 Kt (pure (.int 65535)) (Z76 Qb Dd (Z71 2) (Z74 (Z71 6) (Z74 (pure (.int 0)) Z75)))))
 (Z73 (Y.forEnum (Z71 7) 10 11 (Z73 (Z7c 9 (X.ife (Z7a (vEq true) (Z71 10) (Z71 8)) (Z78 T1 (Z71 9) (Z71 11)) (Z71 9)))
 (Y.end)))
 (Z73 (Z7b (Z7a (vEq true) (Z71 9) (pure (.int 0))) (Z73 (Z7d (Z78 vOr (Z76 Qb Dd (Z71 2) (Z74 (Z71 6) (Z74 (pure (.int 0)) Z75))) (Z71 9)) (Z71 2) (Z71 6))
 (Z73 (Z7c 4 (pure (.bool true)))
 (Y.end))) (Y.end))
 (Y.end))))) s Q:=by
 refine .forEnum (.getL l5 (.forE fix_tup (SpL σ cs k0 k1 A B c K m) h0 ?_ fun s' h=>k s' (by rw [Z3g] at h;exact h)))
 rintro i s v ⟨kvs,b,⟨l0,l2,l3,l4,hk,fr⟩,l7,r,le,eq⟩ hv
 rw [Z30] at hv
 obtain⟨x,hx,rfl⟩:=Z50.mp hv
 have hxm:=Z45 hx
 have g:=r.sp.ms.get x
 have e65:(65535:Int)-(mkO kvs x:Nat)=((65535-mkO kvs x:Nat):Int):=by have:=g.2;lia
 refine .unpack2 (.seq (.assign (.op2 (.pure (.meth (.getL (v:=.ref 640) l2 ⟨Qx hk,.cons (.getL (v:=.int x) rfl (.cons (.pure (.nil (W.get (X7 hk) ?_)))))⟩))))))
 rw [g.1]
 refine W.sub ?_
 rw [e65]
 refine .seq (sp_row (c:=c) (K:=K) (P:=fun r => ¬ Tel kvs r x) (R0:=65535-mkO kvs x) (i:=i) l7 rfl rfl (r.sp.ms.msk x).not hK fun s' R e1 e2 e9 hR=>?_)
 dsimp only at e1 e2
 have l0':s'.loc 0=some (.ref 8):=(e2 0 (by decide) (by decide) (by decide)).trans l0
 have l2':s'.loc 2=some (.ref 640):=(e2 2 (by decide) (by decide) (by decide)).trans l2
 have l3':s'.loc 3=some (.int m):=(e2 3 (by decide) (by decide) (by decide)).trans l3
 have l4':s'.loc 4=some (.bool b):=(e2 4 (by decide) (by decide) (by decide)).trans l4
 have l6':s'.loc 6=some (.int x):=e2 6 (by decide) (by decide) (by decide)
 have l7':s'.loc 7=some (.lst (c.map fun y=>V.int (mkO K (-y):Nat))):=(e2 7 (by decide) (by decide) (by decide)).trans l7
 have hk':s'.hp 640=some (.idict kvs):=by rw [e1];exact hk
 have fr' : ∀ n,n≠640->s'.hp n=σ n:=fun n q=>by rw [e1];exact fr n q
 have hR:Msk (fun r => ¬ Tel kvs r x/\∀ y∈c,y≠x->Tel K r (-y)) R:=hR.iff fun r _=>⟨fun⟨w1,w2⟩=>⟨w1,fun y hy hne=>by
  obtain⟨j,hj⟩:=List.mem_iff_getElem?.mp hy
  exact w2 j y (fun e=>hne (by subst e;exact Z54 (hj.symm.trans hx))) hj⟩,fun⟨w1,w2⟩=>⟨w1,fun j y hj hy=>w2 y (Z45 hy) fun e=>hj (by
   subst e
   exact Z0h hnd hx hy)⟩⟩
 have tk:c.take (i+1)=c.take i ++ [x]:=by rw [Z4s,hx];rfl
 refine .seq (.ite (.tcmp (.getL (v:=.int R) e9 (.pure (W.eqI (.asBool ⟨fun hb=>?_,fun hb=>?_⟩))))))
 ·have h0:R≠0:=fun e=>by subst e;cases hb
  refine .seq (.assignSub (.op2 (.meth (.getL (v:=.ref 640) l2' ⟨Qx hk',.cons (.getL (v:=.int x) l6' (.cons (.pure (.nil (W.get (X7 hk') ?_)))))⟩))))
  rw [g.1]
  refine .getL (v:=.int R) e9 (W.bor (.getL (v:=.ref 640) l2' (.getL (v:=.int x) l6' (W.setD hk' rfl (r.sp.len hl) (.seq (.assign (.pure (.end (.end ⟨Y6 kvs x (.int (mkO kvs x|||R:Nat)),true,⟨l0',l2',l3',rfl,?_,fun n q=>?_⟩,l7',?_,fun r z q=>?_,(fun q=>nomatch q)⟩)))))))))
  ·dsimp only;rw [Z4,Ma]
  ·dsimp only;rw [Z5 _ _ q];exact fr' n q
  ·exact r.tell hc hxm (hz c hc) (fun r _ y _ q=>le r _ q) hR h0
  ·have q:=le r z q
   unfold Tel at q ⊢
   rw [F5]
   by_cases e:z=x
   ·subst e;rw [if_pos rfl,Z23,q];rfl
   ·rw [if_neg e];exact q
 ·obtain rfl:R=0:=by rw [Z60,Z5u] at hb;have:=of_decide_eq_true hb;lia
  refine .end (.end ⟨kvs,b,⟨l0',l2',l3',l4',hk',fr'⟩,l7',r.skip (c:=c) (x:=x) (D:=fun r y=>Tel K r (-y)) (fun q r _ y _ w=>by rw [<-eq q];exact w) hR fun c' x' w=>?_,le,eq⟩)
  rcases w with w|⟨rfl,w⟩
  ·exact .inl (.inl w)
  ·rw [tk] at w
   exact(Z3w.mp w).elim (fun w=>.inl (.inr ⟨rfl,w⟩)) fun w=>.inr ⟨rfl,Z49.mp w⟩
end L01
end Lay
namespace Lay
namespace L01
variable{σ:Hp}{cs:List (List Int)}{k0 k1 K kvs:List (Int×V)}{m:Nat}{b:Bool}{c:List Int}{x:Int}
inductive SpC(σ:Hp)(cs:List (List Int))(k0 k1:List (Int×V))(n:Nat)(s:St):Prop
 |mk (kvs:List (Int×V)) (m:Nat) (b:Bool) (h:SpS σ kvs m b s) (r:Rnd cs k0 k1 (fun c x=>c∈cs.take n/\x∈c) (· ∈cs.take n) kvs m b)
inductive SpW(σ:Hp)(cs:List (List Int))(k0:List (Int×V))(k:Nat)(s:St):Prop
 |mk (kvs:List (Int×V)) (m:Nat) (b:Bool) (h:SpS σ kvs m b s) (r:Rnd cs k0 kvs (fun _ _=>False) (fun _=>False) kvs m false) (d:b=false->Rnd cs k0 kvs (fun c x=>c∈cs/\x∈c) (· ∈cs) kvs m false) (e:k+cnt cs kvs=(prs cs).length+b.toNat)
theorem Dl{loc:Nat->Option V}{i n:Nat}{w:V}(h:loc i=some (.ref n)):Bw n w loc i=some w:=bs h (if_pos rfl)
theorem Dm{loc:Nat->Option V}{i n:Nat}{w:V}{k:Int}(h:loc i=some (.int k)):Bw n w loc i=some (.int k):=bs h rfl
theorem Dz(h8:σ 8=some (.list (cs.map J0)))(h140:σ 140=some (.idict k0))(hn:Free 640 σ)(hz : ∀ c∈cs,∀ x∈c,x≠0)(nd : ∀ c∈cs,c.Nodup)(lc : ∀ c∈cs,c.length<=10)(k0m:Mks k0)(k0n:(k0.map (·.1)).Nodup)(hl:k0.length+cs.flatten.length<lim) :
  Ws (Y4 640 2 Vl) [.ref 8,.ref 140] σ (fun v σ'=>σ'=σ/\∃ kvs m,v = .tup [.dct kvs,.int (m:Nat)]/\SpR cs k0 kvs m):=by
 have l1100:1100<lim:=by decide
 refine Ws.fn rfl ?_
 unfold Vl
 refine .seq (.assignDisp (.cons (.call (.cons (.getL (v:=.ref 140) rfl (.nil (W.dictD (X7 h140) (by exact(Ye (Zd (Zq (Z8 Z0 Z1) Za) (Zh Z0 Za)) rfl hl)) (hn 640 (by decide)) (.cons (.pure (.cons (.pure (.nil ⟨show 3<=100 by decide,.sets1 (.sets1 (.sets1 (.sets0 ?_)))⟩))))))))))))
 refine .seq (Wp.whileW (SpW σ cs k0) (k:=(prs cs).length+1-cnt cs k0) ⟨k0,0,true,⟨rfl,rfl,rfl,rfl,?_,fun n q=>?_⟩,⟨⟨k0m,fun x hx=>.inl hx,k0n,fun _ _ q=>q,fun r _ x q=>.inl q,fun _ _ _ _ q=>q⟩,by decide,fun r _ q=>?_,fun _ _ q=>q,(fun q=>nomatch q),fun _=>⟨fun _ _ q=>q.elim,fun _ q=>q.elim⟩,fun _=>rfl⟩,(fun q=>nomatch q),?_⟩ ?_)
 ·dsimp only;exact Z4 _ _ _
 ·dsimp only;exact Z5 _ _ q
 ·rw [Z26] at q;cases q
 ·have:cnt cs k0<=(prs cs).length:=Z2e
  show _=(prs cs).length+1
  exact(Ye (Zd (Zj (Z8 Z0 Z1) (Y0 Za)) (J9 (Z8 Z0 Z1) (Y0 Za))) rfl (Z1u (Zw (Zd (Zb Z0 Z1) (Zh Z0 (Y0 Z1))) rfl this)))
 rintro k s ⟨kvs,m,b,⟨l0,l2,l3,l4,hk,fr⟩,r,d,e⟩
 refine .truth (.getL (v:=.bool b) l4 (.asBool ⟨fun hb=>?_,fun hb=>?_⟩))
 ·refine .seq (.freeze hk (.ret (.tup (.cons (.getL (v:=.dct kvs) (Dl l2) (.cons (.getL (v:=.int m) (Dm l3) (.nil (.mkTup rfl (show 2<=lim by decide) ⟨_,_,rfl,Zs fun _=>Z7i,?_,kvs,m,rfl,(d hb).done hz⟩)))))))))
  exact Eb hn fun n q=>(Z5 _ _ (by exact(Z1o q))).trans (fr n (by exact(Z1o q)))
 subst hb
 have h8':s.hp 8=some (.list (cs.map J0)):=(fr 8 (by decide)).trans h8
 refine .seq (.assign (.pure (.seq (.for (.getL (v:=.ref 8) l0 ⟨rfl,.forS (xs:=cs.map J0) (SpC σ cs k0 kvs) ⟨kvs,m,false,⟨l0,l2,l3,rfl,hk,fr⟩,r.sub (fun _ _ q=>nomatch q.1) (fun _ q=>nomatch q)⟩ ?_ ?_ ?_⟩)))))
 ·rintro i s ⟨kvs,m,b,⟨l0,l2,l3,l4,hk,fr⟩,r⟩
  exact Us (Jm ((fr 8 (by decide)).trans h8))
 ·rintro i s v ⟨kvs1,m,b,⟨l0,l2,l3,l4,hk,fr⟩,r⟩ hv
  rw [Z30] at hv
  obtain⟨c,hc,rfl⟩:=Z50.mp hv
  have hcm:=Z45 hc
  have tk:cs.take (i+1)=cs.take i ++ [c]:=by rw [Z4s,hc];rfl
  have lcc:=lc c hcm
  refine .setL (.seq (.assign (W.filt (RS:=c) (emb:=V.int) (e:=fun y=>V.int (mkO kvs1 (-y):Nat)) (p:=fun _=>true) (v:=J0 c) (.getL (v:=J0 c) rfl ⟨rfl,rfl⟩) rfl (fun s' _=>V3 s') (fun _ _ _ _ _ _=>.and0 ⟨rfl,rfl⟩) ?_ (fun _ _=>rfl) (by exact(Z1h (Z17 lcc (nlt 10 1100 rfl)) l1100)) fun s' e1 e2=>?_)))
  ·intro y hy _ s' e1 e2 e3
   dsimp only at e1 e2
   refine .meth (.getL (v:=.ref 640) ((e2 2 (by decide)).trans l2) ⟨Qx (by rw [e1];exact hk),.cons (.op1 (.getL (v:=.int y) e3 (W.neg (.cons (.pure (.nil (W.get (X7 (by rw [e1];exact hk)) ?_)))))))⟩)
   rw [(r.sp.ms.get (-y)).1];exact⟨rfl,rfl⟩
  ·rw [List.filter_eq_self.mpr fun _ _=>rfl]
   dsimp only at e1 e2
   have hs:SpS σ kvs1 m b ⟨upd s'.loc 7 (some (.lst (c.map fun y=>V.int (mkO kvs1 (-y):Nat)))),s'.hp⟩:=⟨(e2 0 (by decide)).trans l0,(e2 2 (by decide)).trans l2,(e2 3 (by decide)).trans l3,(e2 4 (by decide)).trans l4,by dsimp only;rw [e1];exact hk,fun n q=>by dsimp only;rw [e1];exact fr n q⟩
   refine .seq (sp_lits hl hz hcm (nd c hcm) r.sp.ms (K:=kvs1) (A:=fun c x=>c∈cs.take i/\x∈c) (B:=(· ∈cs.take i)) (e2 5 (by decide)) ⟨kvs1,b,hs,rfl,r.sub (fun c' x' w=>?_) fun _ w=>w,fun _ _ q=>q,fun _=>rfl⟩ ?_)
   ·rcases w with w|⟨_,w⟩
    ·exact w
    ·rw [List.take_zero] at w;cases w
   rintro s2 ⟨kvs2,b2,⟨l0,l2,l3,l4,hk,fr⟩,l7,r2,le,eq⟩
   rw [Z4t] at r2
   refine .seq (.assign (.pure (.seq (sp_all (c:=c) (K:=kvs1) l7 rfl r.sp.ms fun s3 R a1 a2 a9 hR=>?_))))
   dsimp only at a1 a2
   refine .seq (.assign (.op2 (.getL (v:=.int m) ((a2 3 (by decide) (by decide)).trans l3) (.getL (v:=.int R) a9 (W.bor (.end ⟨kvs2,m|||R,b2,⟨(a2 0 (by decide) (by decide)).trans l0,(a2 2 (by decide) (by decide)).trans l2,?_,(a2 4 (by decide) (by decide)).trans l4,by dsimp only;rw [a1];exact hk,fun n q=>by dsimp only;rw [a1];exact fr n q⟩,?_⟩))))))
   ·rw [<-Ma];rfl
   ·refine(r2.sub (A':=fun c' x'=>c'∈cs.take (i+1)/\x'∈c') (B':=(· ∈cs.take i)) (fun c' x' w=>?_) fun _ w=>w).clash (D:=fun r y=>Tel kvs1 r (-y)) hcm (fun r _ y _ w=>le r _ w) (fun q r _ y _ w=>by rw [<-eq q];exact w) hR fun c' w=>?_
    ·rw [tk] at w
     exact(Z3w.mp w.1).elim (fun q=>.inl ⟨q,w.2⟩) fun q=>.inr ⟨Z49.mp q,by rw [<-Z49.mp q];exact w.2⟩
    ·rw [tk] at w
     exact(Z3w.mp w).imp id Z49.mp
 ·rintro s2 ⟨kvs2,m2,b2,hs,r2⟩
  rw [Z3g,Z4t] at r2
  have le:=r2.cnt_le
  have tot:cnt cs kvs2<=(prs cs).length:=Z2e
  have e:k+cnt cs kvs=(prs cs).length+1:=e
  refine .end ⟨(prs cs).length+b2.toNat-cnt cs kvs2,by exact(Ro (Zd (Zb (Z8 Z0 Z1) Za) (Ze (-1) (Zj (Z8 Zp Z0) (Y0 X4)) (Zd (Zj (Z8 Vh Za) (Z8 X4 Z1)) (Zy Vh Zp)))) rfl le e (Z1u (Ye (Zd (Zb Z0 Z1) (Zh Z0 (Z8 Z1 Za))) rfl tot))),kvs2,m2,b2,hs,r2.start,fun hb=>?_,by exact(Xw (Zd (Zj (Z8 Z0 Z1) (Z8 Za Zp)) (J9 (Z8 Z0 Z1) (Z8 Za Zp))) rfl (Z1u (Ye (Zd (Zb Z0 Z1) (Zh Z0 (Z8 Z1 Za))) rfl tot)))⟩
  subst hb
  have:=r2.eq rfl
  subst this
  exact r2
end L01
end Lay
namespace Lay
namespace L01
variable{gs:List G}{tops:List Int}{d d':Cl}{kn:List (List Int×V)}{σ τ:Hp}{kvs k0 kv:List (Int×V)}{cs:List (List Int)}{g t:Int}{F:List Int}{m:Nat}
theorem Under.below(ok:COk gs kn)(U:Under gs g F) : ∀ x∈F,x<=g.natAbs:=fun x hx =>
 (U.min (fun x=>0<=x/\x<=g.natAbs) ⟨Z6j _,Z6a _⟩ (fun x ps h1 h2 p hp=>by
  have:=((ok.parts h2).2.lt p hp).2
  show 0<=((p.natAbs:Nat):Int)/\((p.natAbs:Nat):Int)<=_
  exact⟨(Y2 (Yv X0 Zu) rfl),(Ee (Zd (Xq Zg Zu) (Zd (Zq Z1 Za) (Zd (Yr Qt Zg) (Yv Xm Zu)))) rfl h1.2 this (Z6i (Wc (Zd (Xq X0 Zg) (Yv X0 Zg)) rfl h1.1)))⟩) x hx).2
theorem Nk(iv:Inv gs tops d)(wa:d.wa = [])(pe:Hn gs d){s p:Int}{ps:List Int}(hs:s∈opK d)(hx:gs[s.natAbs]?=some (.and ps))(hp:p∈ps) : ∃ u∈opK d,u.natAbs=p.natAbs:=by
 have:=pe s ⟨hs,by rw [wa];exact Z4g⟩ _ hx
 dsimp only at this
 by_cases q:0<s
 ·rw [if_pos q] at this;exact⟨p,(this p hp).1,rfl⟩
 ·rw [if_neg q] at this;exact⟨-p,this.1 p hp,Z6h p⟩
theorem lit_all(iv:Inv gs tops d)(wa:d.wa = [])(pe:Hn gs d)(op:g∈opK d)(U:Under gs g F) : ∀ x∈F,x∈nuK d:=by
 intro x hx
 obtain⟨s,hs,rfl⟩:=U.min (fun x => ∃ s∈opK d,((s.natAbs:Nat):Int)=x) ⟨g,op,rfl⟩ (fun x ps h1 h2 p hp=>by
  obtain⟨s,hs,rfl⟩:=h1
  obtain⟨u,q1,q2⟩:=Nk iv wa pe hs h2 hp
  exact⟨u,q1,by rw [q2]⟩) x hx
 exact(iv.opk s hs).2
theorem top_inp(iv:Inv gs tops d)(wa:d.wa = [])(pe:Hn gs d){S:Int->Prop}(St:S t)(Sn : ∀ s,S s->TopSt gs d S s)(U:Under gs t F) : ∀ x∈F,gs[x.natAbs]?=some .inp->x∈nuK d:=by
 intro x hx hi
 have:=U.min (fun x=>(∃ s∈opK d,((s.natAbs:Nat):Int)=x)\/∃ s,S s/\((s.natAbs:Nat):Int)=x) (.inr ⟨t,St,rfl⟩) (fun x ps h1 h2 p hp=>by
  rcases h1 with⟨s,hs,rfl⟩|⟨s,hs,rfl⟩
  ·obtain⟨u,q1,q2⟩:=Nk iv wa pe hs h2 hp
   exact .inl ⟨u,q1,by rw [q2]⟩
  ·rcases Sn s hs with⟨_,q⟩|⟨_,ps',q1,q2⟩
   ·exact .inl ⟨-p,q _ h2 p hp,by rw [Z6h]⟩
   ·have w:=h2.symm.trans q1
    cases w
    exact .inr ⟨p,q2 p hp,rfl⟩) x hx
 rcases this with⟨s,hs,rfl⟩|⟨s,hs,rfl⟩
 ·exact(iv.opk s hs).2
 ·rcases Sn s hs with⟨_,q⟩|⟨_,ps',q1,_⟩
  ·exact(iv.opk s (q _ hi)).2
  ·exact nomatch Z54 (hi.symm.trans q1)
theorem Cb(ok:COk gs kn)(f:Nat->Bool):Model gs (val f gs):=by
 intro i x h
 cases x with
 |tru=>dsimp only;rw [Nx f h];rfl
 |and ps=>exact Ca ok f h
 |non=>trivial
 |inp=>trivial
noncomputable def ow(f:Nat->Bool)(gs:List G)(d:Cl)(n:Nat):Bool:=val f gs ((d.ga[n]?).getD 0).natAbs
theorem Ni(iv:Inv gs tops d){f:Nat->Bool}{g n:Nat}(h:Num d g n):ow f gs d n=val f gs g:=by
 unfold ow;rw [(iv.num _ _ h).2];rfl
theorem ow_lit(iv:Inv gs tops d){f:Nat->Bool}{s x:Int}(h:Lit d s x):Yes (ow f gs d) x↔Yes (val f gs) s:=Lit.reads iv h fun _ _ q=>Ni iv q
structure Kst(gs:List G)(kn:List (List Int×V))(kvs:List (Int×V))(d:Cl)(tops:List Int)(σ:Hp):Prop where
 c:gs.length<=20
 ok:COk gs kn
 hc:Yp gs kn σ
 hm:σ 100=some (.idict kvs)
 mo:MkOk gs kvs
 h:ClsAt d σ
 iv:Inv gs tops d
 wa:d.wa = []
 pe:Hn gs d
 tp : ∀ t∈tops,TopOk gs d t/\In gs t
 lc:d.cs.length<=400
structure Ask(d:Cl)(a:Int×Int):Prop where
 op:a.1∈opK d
 li:Lit d a.1 a.2
 all:0<d.w-> -a.1∈opK d
structure Knw(gs:List G)(d:Cl)(kvs k0:List (Int×V)):Prop where
 ms:Mks k0
 nd:(k0.map (·.1)).Nodup
 le:k0.length<=2*d.nu.length
 snd : ∀ r,r<16->∀ x,Tel k0 r x->x≠0/\Yes (ow (row kvs r) gs d) x
 all : ∀ i n:Nat,gs[i]?=some .inp->Num d i n->∀ r,r<16->∀ x:Int,x.natAbs=n->Yes (ow (row kvs r) gs d) x->Tel k0 r x
inductive RowC(gs:List G)(d:Cl)(f:Nat->Bool)(kv:List (Int×V))(r:Nat):Prop
 |mk (sat:Sat (ow f gs d) d.cs) (fal : ∀ s∈opK d,¬ Yes (val f gs) s->∀ x,Lit d s x->Tel kv r (-x)) (sub : ∀ x,Tel kv r x->Yes (ow f gs d) x)
theorem Ak(K:Kst gs kn kvs d tops σ)(w:Knw gs d kvs k0)(s:SpR d.cs k0 kv m){r:Nat}(hr:r<16) :
  ((∀ t∈tops,Yes (val (row kvs r) gs) t)->m.testBit r=false/\RowC gs d (row kvs r) kv r)/\((¬ ∀ t∈tops,Yes (val (row kvs r) gs) t)->m.testBit r=true):=by
 have hm:=Cb K.ok (row kvs r)
 have con : ∀ x,Tel k0 r x->¬ Tel k0 r (-x):=fun x h1 h2=>(Yes.neg (w.snd r hr x h1).1).mp (w.snd r hr _ h2).2 (w.snd r hr x h1).2
 have fa : ∀ φ:Nat->Option Bool,Closed φ d.cs->(∀ x,x≠0->(Tru φ x↔Tel kv r x)/\(Fal φ x↔Tel kv r (-x)))->∀ s∈opK d,¬ Yes (val (row kvs r) gs) s->∀ x,Lit d s x->Fal φ x:=fun φ cl e =>
  fal_all K.ok K.iv K.wa K.pe hm cl fun i n hi hn=>by
   have hn1:=(K.iv.num _ _ hn).1
   have ho:=Ni K.iv hn (f:=row kvs r)
   cases hv:val (row kvs r) gs i with
   |true =>
    have:=(e (n:Int) (by lia)).1.mpr (s.inc r _ (w.all i n hi hn r hr n (Z6g n) (by unfold Yes;rw [Z6g,ho,hv,decide_eq_true (by lia)])))
    unfold Tru at this
    rw [Z6g,decide_eq_true (by lia)] at this
    exact this
   |false =>
    have:=(e (-(n:Int)) (by omega)).1.mpr (s.inc r _ (w.all i n hi hn r hr (-n) (by rw [Z6h];exact Z6g n) (by unfold Yes;rw [Z6h,Z6g,ho,hv,decide_eq_false (by omega)])))
    unfold Tru at this
    rw [Z6h,Z6g,decide_eq_false (by omega)] at this
    exact this
 refine⟨fun held=>?_,fun no=>?_⟩
 ·have sat:Sat (ow (row kvs r) gs d) d.cs:=K.iv.snd _ _ hm (fun g n q=>Ni K.iv q) held
  have sub:=s.snd r hr _ sat fun x q=>(w.snd r hr x q).2
  have m0:m.testBit r=false:=by
   refine Bool.eq_false_iff.mpr fun q=>?_
   obtain⟨c,hc,hall⟩:=s.cl r hr q
   obtain⟨y,hy,h2⟩:=sat c hc
   have y1:=((K.iv.row c hc).2 y hy).1
   exact(Yes.neg (by lia)).mp (sub _ (hall y hy)) h2
  obtain⟨φ,cl,e⟩:=s.fix r hr con m0
  exact⟨m0,sat,fun s hs hno x hl=>by
   have x1:=(K.iv.lit_row hl).1
   exact(e x (by lia)).2.mp (fa φ cl e s hs hno x hl),sub⟩
 ·refine Z5f fun q=>no fun t ht=>?_
  obtain⟨φ,cl,e⟩:=s.fix r hr con (Bool.eq_false_iff.mpr q)
  exact(K.tp t ht).1 φ _ hm cl (fa φ cl e)
theorem Cn{f:Nat->Bool}{r:Nat}{a:Int×Int}(iv:Inv gs tops d)(A:Ask d a)(R:RowC gs d f kv r):(Tel kv r (-a.2)↔¬ Yes (val f gs) a.1)/\(Tel kv r a.2->Yes (val f gs) a.1)/\(0<d.w->Yes (val f gs) a.1->Tel kv r a.2):=by
 obtain⟨_,fal,sub⟩:=R
 have x1:=iv.lit_row A.li
 have g1:=(iv.opk _ A.op).1
 have e:=ow_lit iv A.li (f:=f)
 refine⟨⟨fun q w=>(Yes.neg (by lia)).mp (sub _ q) (e.mpr w),fun q=>fal _ A.op q _ A.li⟩,fun q=>e.mp (sub _ q),fun w q=>?_⟩
 have ln:Lit d (-a.1) (-a.2):=by
  obtain⟨n,h1,h2⟩:=A.li
  refine⟨n,by rw [Z6h];exact h1,?_⟩
  rw [h2]
  by_cases q:0<a.1
  ·rw [if_pos q,if_neg (by lia)]
  ·rw [if_neg q,if_pos (by exact(J1 (Zd (Zb Yi Z0) (Zd (Yr Zu (Wj Zg)) (J6 X0 (Wj Zg)))) rfl g1 (Z6q (Wc (Zd (Qu X0 Zg) (Yv Zg X0)) rfl q)))),Z6o]
 have:=fal _ (A.all w) (fun w=>(Yes.neg (by lia)).mp w q) _ ln
 rwa [Z6o] at this
end L01
end Lay
namespace Lay
namespace L01
variable{gs:List G}{tops:List Int}{d d':Cl}{kn:List (List Int×V)}{σ τ:Hp}{kvs k0 kv:List (Int×V)}{cs:List (List Int)}{g t:Int}{F:List Int}{m:Nat}{s:St}{Q:Fl->St->Prop}
theorem Kst.mono(K:Kst gs kn kvs d tops σ)(e : ∀ n,n<140->τ n=σ n):Kst gs kn kvs d tops τ :=
 {K with hc:=K.hc.mono fun n q=>e n (by exact(Z17 q (nlt 5 140 rfl))),hm:=(e _ (by decide)).trans K.hm,h:=K.h.mono fun n _ q=>e n (by lia)}
inductive HeI(gs:List G)(kvs:List (Int×V))(tops:List Int)(s:St)(i:Nat)(s':St):Prop
 |mk (hp:s'.hp=s.hp) (lo : ∀ q,q≠4->q≠7->s'.loc q=s.loc q) (M:Nat) (l4:s'.loc 4=some (.int M)) (h:Msk (fun r => ∀ t∈tops.take i,Yes (val (row kvs r) gs) t) M)
theorem held_w(K:Kst gs kn kvs d tops s.hp)(hn:Free 160 s.hp)(ht:s.hp 13=some (.list (tops.map .int)))(l1:s.loc 1=some (.ref 100))(l2:s.loc 2=some (.ref 13))(l4:s.loc 4=some (.int 65535))
  (k : ∀ s' M,s'.hp=s.hp->(∀ q,q≠4->q≠7->s'.loc q=s.loc q)->s'.loc 4=some (.int (M:Nat))->Msk (fun r => ∀ t∈tops,Yes (val (row kvs r) gs) t) M->Q .next s') :
  Wp (Y.for 140 (Z71 2) (fun v=>Z72 7 v) (Z73 (Z7c 4 (Z78 T1 (Z71 4) (Z79 (callM (Y4 700 2 W9)) (Z74 (Z71 1) (Z74 (Z71 7) Z75))))) (Y.end))) s Q:=by
 refine .for (.getL l2 ⟨rfl,.forS (xs:=tops.map .int) (HeI gs kvs tops s) ⟨rfl,fun _ _ _=>rfl,65535,l4,msk_all.iff fun r _=>⟨fun _ t q=>(nomatch q),fun _=>trivial⟩⟩ (fun i s' q=>?_) ?_ ?_⟩)
 ·obtain⟨e1,_,_⟩:=q
  exact Us (Jm (by rw [e1];exact ht))
 ·rintro i s' v ⟨e1,e2,M,l4,hM⟩ hv
  rw [Z30] at hv
  obtain⟨t,ht,rfl⟩:=Z50.mp hv
  have hi:=(K.tp t (Z45 ht)).2
  have tk:tops.take (i+1)=tops.take i ++ [t]:=by rw [Z4s,ht];rfl
  refine .setL (.seq (.assign (.op2 (.getL (v:=.int M) l4 (.call (.cons (.getL (v:=.ref 100) ((e2 1 (by decide) (by decide)).trans l1) (.cons (.getL (v:=.int t) rfl (.nil (.callM ((Rw (g:=t) (by dsimp only;rw [e1];exact K.hm) K.mo (by dsimp only;rw [e1];exact hn.mono (by decide)) hi).mono ?_))))))))))))
  rintro _ _ ⟨rfl,m',rfl,hm⟩
  refine W.band (.end ⟨e1,fun q q1 q2=>?_,M&&&m',?_,(hM.and hm).iff fun r _=>?_⟩)
  ·dsimp only;rw [Z5 _ _ q1,Z5 _ _ q2];exact e2 q q1 q2
  ·dsimp only;rw [Z4,Ju]
  ·rw [tk]
   exact⟨fun⟨w1,w2⟩ t' q=>(Z3w.mp q).elim (w1 t') fun q=>by rw [Z49.mp q];exact w2,fun w=>⟨fun t' q=>w t' (Z3x _ q),w t (Z3y _ (Z49.mpr rfl))⟩⟩
 ·rintro s' ⟨e1,e2,M,l4,hM⟩
  rw [Z3g,Z4t] at hM
  exact k s' M e1 e2 l4 hM
theorem Inv.num_at(iv:Inv gs tops d){i:Nat}{v:Int}(h:(nuK d)[i]?=some v) : ∃ g:Nat,v=g/\1<=g/\g<gs.length/\Num d g (i+1):=by
 have hm:=Z45 h
 have hk:=iv.key v hm
 obtain⟨g,rfl⟩ : ∃ g:Nat,v=g:=⟨v.toNat,by exact(J1 (Ze (-1) (Yr Zu Zg) (K6 Zg Zu)) rfl (Z6w (Wc (Zd (Xq Xx Zg) (Yv X0 Zg)) rfl hk.1)))⟩
 obtain⟨n,hn⟩:=iv.numOf hm
 obtain⟨n1,n2⟩:=iv.num _ _ hn
 obtain⟨n,rfl⟩ : ∃ k,n=k+1:=⟨n-1,by exact(Zw (Ze (-1) (Zj (Y0 Z0) Z1) (J9 Z1 (Y0 Z0))) rfl (Z1u (Y2 (Zd (Zb Yi Z0) (Zh Yi Z0)) rfl n1)))⟩
 rw [iv.ga,Z2t] at n2
 obtain rfl:=Z0h iv.nd h n2
 exact⟨g,rfl,by exact(Y2 (Zd (Xq Xx Zu) (Zh Yi Z0)) rfl hk.1),by exact(Zw (Zd (Xp Zu Xm) (Zy Z0 Z1)) rfl hk.2),hn⟩
structure KnP(gs:List G)(d:Cl)(kvs:List (Int×V))(i:Nat)(k0:List (Int×V)):Prop where
 ms:Mks k0
 nd:(k0.map (·.1)).Nodup
 le:k0.length<=2*i
 snd : ∀ r,r<16->∀ x,Tel k0 r x->x≠0/\Yes (ow (row kvs r) gs d) x
 all : ∀ j n:Nat,gs[j]?=some .inp->Num d j n->n<=i->∀ r,r<16->∀ x:Int,x.natAbs=n->Yes (ow (row kvs r) gs d) x->Tel k0 r x
theorem KnP.skip{i:Nat}{x:G}(h:KnP gs d kvs i k0)(iv:Inv gs tops d)(hg:gs[m]?=some x)(hx:x≠ .inp)(hn:Num d m (i+1)):KnP gs d kvs (i+1) k0 :=
 {h with
  le:=Z16 h.le (by lia)
  all:=fun j n h1 h2 h3=>by
   by_cases e:n=i+1
   ·subst e
    obtain rfl:=iv.inj h2 hn
    exact absurd (Z54 (hg.symm.trans h1)) hx
   ·exact h.all j n h1 h2 (by lia)}
theorem KnP.add{i M:Nat}(h:KnP gs d kvs i k0)(iv:Inv gs tops d)(hg:gs[m]?=some .inp)(hn:Num d m (i+1))(hM:Msk (fun r=>val (row kvs r) gs m=true) M) :
  KnP gs d kvs (i+1) (Y6 (Y6 k0 ((i:Int)+1) (.int M)) (-(i:Int)-1) (.int (65535-M:Nat))):=by
 have hN:=hM.not
 have tel : ∀ r x,Tel (Y6 (Y6 k0 ((i:Int)+1) (.int M)) (-(i:Int)-1) (.int (65535-M:Nat))) r x↔if x = -(i:Int)-1 then (65535-M).testBit r=true else if x=(i:Int)+1 then M.testBit r=true else Tel k0 r x:=fun r x=>by
  unfold Tel
  rw [F5,F5]
  by_cases e:x = -(i:Int)-1
  ·rw [if_pos e,if_pos e]
  ·rw [if_neg e,if_neg e]
   by_cases e2:x=(i:Int)+1
   ·rw [if_pos e2,if_pos e2]
   ·rw [if_neg e2,if_neg e2]
 have l1:=Wu k0 ((i:Int)+1) (.int M)
 have l2:=Wu (Y6 k0 ((i:Int)+1) (.int M)) (-(i:Int)-1) (.int (65535-M:Nat))
 have ho:=fun r=>Ni iv hn (f:=row kvs r)
 refine⟨(h.ms.set hM.1).set hN.1,Jt _ _ _ (Jt _ _ _ h.nd),by have:=h.le;exact(Xw (Zd (Zb Z0 (Y0 Z1)) (Zd (Zb Za (Y0 Z0)) (Zd (Zb Z1 (Zm 2 Zp)) (Zh Za (Zm 2 (Y0 Zp)))))) rfl l1 l2 this),fun r hr x q=>?_,fun j n h1 h2 h3 r hr x hx hy=>?_⟩
 ·rw [tel] at q
  by_cases e:x = -(i:Int)-1
  ·rw [if_pos e] at q
   have q:val (row kvs r) gs m=false:=Bool.eq_false_iff.mpr ((hN.2 r hr).mp q)
   refine⟨by exact(Z6l (J1 (Zd (Yr Zg (Yl (Wj Zu) Xx)) (J6 Zg X0)) rfl e)),?_⟩
   unfold Yes
   rw [show x.natAbs=i+1 by exact(Vg (Ze (-1) (Yr Zg (Yl (Wj Zu) Xx)) (Zd (Yr Xm (Wj Zg)) (J9 Z1 (Y0 Z0)))) rfl e (Z6q (J1 (Zd (Yr Zg (Yl (Wj Zu) Xx)) (Yv Zg X0)) rfl e))),ho,q,decide_eq_false (by lia)]
  ·rw [if_neg e] at q
   by_cases e2:x=(i:Int)+1
   ·rw [if_pos e2] at q
    have q:=(hM.2 r hr).mp q
    refine⟨by omega,?_⟩
    unfold Yes
    rw [show x.natAbs=i+1 by exact(Vg (Zd (Yr Zg (Xb Zu Xx)) (Zd (Yr Xm Zg) (J9 Z1 (Y0 Z0)))) rfl e2 (Z6i (J1 (Ze (-1) (Yr Zg (Xb Zu Xx)) (Yv X0 Zg)) rfl e2))),ho,q,decide_eq_true (by lia)]
   ·rw [if_neg e2] at q;exact h.snd r hr x q
 ·rw [tel]
  by_cases e:n=i+1
  ·subst e
   unfold Yes at hy
   rw [hx,ho] at hy
   rcases Int.natAbs_eq x with q|q
   ·rw [if_neg (by exact(Vg (Ze (-1) (Zj Z0 (Y0 Z1)) (Zd (Yr Zu Zg) (Zd (Yr Zg (Yl (Wj Xm) Xx)) (Xn 1 Ho)))) rfl hx (Z6i (J1 (Ze (-1) (Yr Zg Zu) (Yv X0 Zg)) rfl q)))),if_pos (by exact(Vg (Zd (Zj Z0 (Y0 Z1)) (Zd (Yr Zg Zu) (K6 Zg (Xb Xm Xx)))) rfl hx q)),hM.2 r hr];show val _ _ _=true;rw [hy,decide_eq_true (by exact(Vg (Ze (-1) (Zj Z0 (Y0 Z1)) (Zd (Yr Zu Zg) (J6 X0 Zg))) rfl hx (Z6i (J1 (Ze (-1) (Yr Zg Zu) (Yv X0 Zg)) rfl q))))]
   ·rw [if_pos (by exact(Vg (Ze (-1) (Zj Z0 (Y0 Z1)) (Zd (Yr Zg (Wj Zu)) (K6 Zg (Yl (Wj Xm) Xx)))) rfl hx q)),hN.2 r hr];show ¬ val _ _ _=true;rw [hy,decide_eq_false (by exact(Vg (Ze (-1) (Zj Z0 (Y0 Z1)) (Zd (Yr Zg (Wj Zu)) (Zd (Xp X0 Zg) (Xn 1 Ho)))) rfl hx q))];exact Z5t
  ·rw [if_neg (by omega),if_neg (by lia)];exact h.all j n h1 h2 (by lia) r hr x hx hy
inductive KnI(gs:List G)(d:Cl)(kvs:List (Int×V))(s:St)(i:Nat)(s':St):Prop
 |mk (hp : ∀ n,n≠140->s'.hp n=s.hp n) (lo : ∀ q,q≠7->q≠8->s'.loc q=s.loc q) (k0:List (Int×V)) (h:s'.hp 140=some (.idict k0)) (k:KnP gs d kvs i k0)
theorem known_w(K:Kst gs kn kvs d tops s.hp)(hn:Free 160 s.hp)(l0:s.loc 0=some (.ref 6))(l1:s.loc 1=some (.ref 100))(l5:s.loc 5=some (.ref 140))(l6:s.loc 6=some (.lst ((nuK d).map .int)))(h140:s.hp 140=some (.idict []))
  (k : ∀ s' k0,(∀ n,n≠140->s'.hp n=s.hp n)->(∀ q,q≠7->q≠8->s'.loc q=s.loc q)->s'.hp 140=some (.idict k0)->Knw gs d kvs k0->Q .next s') :
  Wp (Y.forEnum (Z71 6) 8 7 (Z73 (Z7b (Z7a (vEq false) (Z76 (Y9 224 (Z5k "kind")) (callM (Y4 520 2 Y3)) (Z77 (Yn 112 (Z5k "circuit")) (Z71 0)) (Z74 (Z71 7) Z75)) (pure (.str (Z5k "input")))) (Z73 (Y.assignTwo (Z78 Yz (Z71 1) (Z71 7)) (Z78 Kt (pure (.int 65535)) (Z78 Yz (Z71 1) (Z71 7))) (Y.tgt (Z71 5) (Z78 (Nt none) (Z71 8) (pure (.int 1)))) (Y.tgt (Z71 5) (Z78 Kt (Z77 Fk (Z71 8)) (pure (.int 1)))))
 (Y.end)) (Y.end))
 (Y.end))) s Q:=by
 have l1000:1000<lim:=by decide
 have nl:(nuK d).length=d.nu.length:=Z3g ..
 obtain⟨b1,_,_,_⟩:=K.iv.bounds K.c
 refine .forEnum (.getL l6 (.forE Ed (KnI gs d kvs s) ⟨fun _ _=>rfl,fun _ _ _=>rfl,[],h140,⟨fun _ _ q=>(nomatch q),Z4e,Z25 _,fun r _ x q=>?_,fun j n _ h2 h3=>?_⟩⟩ ?_ ?_))
 ·unfold Tel at q;rw [Lw rfl,Z26] at q;cases q
 ·have:=(K.iv.num _ _ h2).1;lia
 ·rintro i s' v ⟨e1,e2,k0,hk,kp⟩ hv
  rw [Z30] at hv
  obtain⟨v',hw,rfl⟩:=Z50.mp hv
  have hi:=(Z2y.mp hw).1
  obtain⟨g,rfl,g1,g2,hnum⟩:=K.iv.num_at hw
  have K':Kst gs kn kvs d tops s'.hp:=K.mono fun n q=>e1 n (by exact(Z1o q))
  have hn':Free 160 s'.hp:=fun n q=>(e1 n (by exact(Z1n (Z1a (nlt 140 160 rfl) q)))).trans (hn n q)
  have hx:gs[g]?=some gs[g]:=Z2v g2
  generalize gs[g]=x at hx
  obtain⟨M,m1,m2⟩:=K.mo.val g g1 g2
  have kl:=kp.le
  refine .unpack2 (.seq (.ite (.tcmp (.meth (.op1 (.getL (v:=.ref 6) ((e2 0 (by decide) (by decide)).trans l0) (W.kCircuit K'.h ⟨okC K'.hc (by rfl),.cons (.getL (v:=.int g) rfl (.nil (.callM ((Qd (g:=(g:Int)) (x:=x) K'.hc hx (by have:=K.c;exact(Z16 this (nle 20 1000 rfl))) (hn'.mono (by decide))).mono ?_))))⟩)))))))
  rintro _ _ ⟨rfl,rfl⟩
  refine .pure (W.eqS (Zv x) (Zv .inp) (.asBool ⟨fun hb=>?_,fun hb=>.end (.end ⟨e1,fun q q1 q2=>?_,k0,hk,kp.skip K.iv hx (G.kind_ne (by rw [Z5z] at hb;exact hb)) hnum⟩)⟩))
  ·rw [Z5z] at hb
   obtain rfl:x = .inp:=(G.kind_eq (y:=.inp) hb).elim id fun⟨_,_,_,q⟩=>nomatch q
   have e65:(65535:Int)-(M:Nat)=((65535-M:Nat):Int):=by have:=m2.1;exact(Zw (Ze (-1) (Zj (Z8 Z0 Z1) (Zo 65535)) (K6 (Yl (Xh (Zo 65535)) Xm) Zu)) rfl (Z1u (Y2 (Zd (Zq Z0 (Zo 65536)) (Zh Z0 (Zo 65535))) rfl this)))
   have r1:s'.loc 1=some (.ref 100):=(e2 1 (by decide) (by decide)).trans l1
   have r5:s'.loc 5=some (.ref 140):=(e2 5 (by decide) (by decide)).trans l5
   refine .seq (.assignTwo (.op2 (.getL (v:=.ref 100) r1 (.getL (v:=.int g) rfl (W.itemD (X7 (xs:=kvs) K'.hm) m1 (.op2 (.pure (.op2 (.getL (v:=.ref 100) r1 (.getL (v:=.int g) rfl (W.itemD (X7 (xs:=kvs) K'.hm) m1 (W.sub ?_))))))))))))
   rw [e65]
   refine .tgt (.getL (v:=.ref 140) r5 (.op2 (.getL (v:=.int i) rfl (.pure (W.add (W.setD hk rfl (by exact(Q6 (Ze 37 (Zq (Zo 1000) Z0) (Ze 2002 (Zj Z1 Za) (Ze 2002 (Zb Za (Zo 19)) (Ze 2002 (Zq Zp Z1) (Ze 1001 (Zb X4 (Zm 2 Zp)) (Xn 1000 (Zy X4 Z0))))))) rfl l1000 nl b1 hi kl)) (.tgt (.getL (v:=.ref 140) r5 (.op2 (.op1 (.getL (v:=.int i) rfl (W.neg (.pure (W.sub (W.setD (kvs:=Y6 k0 ((i:Int)+1) (.int M)) (Z4 s'.hp 140 _) rfl ?_ (.end (.end ⟨fun n q=>?_,fun q q1 q2=>?_,_,?_,kp.add K.iv hx hnum m2⟩)))))))))))))))))
   ·have:=Wu k0 ((i:Int)+1) (.int M);exact(Ro (Ze 38 (Zq (Zo 1000) Z0) (Ze 2002 (Zj Z1 Za) (Ze 2002 (Zb Za (Zo 19)) (Ze 2002 (Zq Zp Z1) (Ze 1001 (Zb X4 (Zm 2 Zp)) (Ze 1001 (Zb Vh (Y0 X4)) (Xn 1000 (Zy Vh Z0)))))))) rfl l1000 nl b1 hi kl this)
   ·dsimp only;rw [Z5 _ _ q,Z5 _ _ q];exact e1 n q
   ·dsimp only;rw [Z5 _ _ q1,Z5 _ _ q2];exact e2 q q1 q2
   ·dsimp only;exact Z4 _ _ _
  ·dsimp only;rw [Z5 _ _ q1,Z5 _ _ q2];exact e2 q q1 q2
 ·rintro s' ⟨e1,e2,k0,hk,kp⟩
  rw [Z3g] at kp
  refine k s' k0 e1 e2 hk ⟨kp.ms,kp.nd,by have:=kp.le;exact(Ye (Ze 2 (Zj Z0 Z1) (Zd (Zb Za (Zm 2 Z0)) (Zh Za (Zm 2 Z1)))) rfl nl this),kp.snd,fun j n h1 h2=>kp.all j n h1 h2 ?_⟩
  have:=(Z2y.mp (K.iv.num _ _ h2).2).1
  rw [K.iv.ga,Z3c] at this
  lia
end L01
end Lay
namespace Lay
namespace L01
variable{gs:List G}{tops:List Int}{d d':Cl}{kn:List (List Int×V)}{σ τ:Hp}{kvs k0 kv:List (Int×V)}{cs:List (List Int)}{g t:Int}{F:List Int}{m H:Nat}{s:St}{Q:Fl->St->Prop}{P:Nat->Prop}{asked:List (Int×Int)}
theorem Dh{a b:Nat}(e:a=b)(h:(decide ((a:Int)=b)^^true)=true):False:=by rw [e,decide_eq_true rfl] at h;cases h
theorem C3{M:Nat}(h:M<2^16):(65535:Int)-(M:Nat)=((65535-M:Nat):Int):=by exact(Zw (Ze (-1) (Zj (Z8 Z0 Z1) (Zo 65535)) (K6 (Yl (Xh (Zo 65535)) Xm) Zu)) rfl (Z1u (Y2 (Zd (Zq Z0 (Zo 65536)) (Zh Z0 (Zo 65535))) rfl h)))
inductive SaI(gs:List G)(d:Cl)(kvs:List (Int×V))(c:List Int)(s:St)(i:Nat)(s':St):Prop
 |mk (hp:s'.hp=s.hp) (lo : ∀ q,q≠12->q≠13->s'.loc q=s.loc q) (M:Nat) (l:s'.loc 12=some (.int M)) (h:Msk (fun r => ∃ x∈c.take i,Yes (ow (row kvs r) gs d) x) M)
theorem Ag(K:Kst gs kn kvs d tops σ){n:Nat}(h1:1<=n)(h2:n<d.ga.length) : ∃ g:Nat,(nuK d)[n-1]?=some (g:Int)/\∃ M:Nat,Y1 kvs (g:Int)=some (.int M)/\Msk (fun r=>ow (row kvs r) gs d n=true) M:=by
 rw [K.iv.ga,Z3c] at h2
 have hv:(nuK d)[n-1]?=some (nuK d)[n-1]:=Z2v (by exact(Ye (Zd (Zq Z0 (Y0 Z1)) (Zd (Zj (Y0 Za) Z0) (Zy Za Z1))) rfl h2 (Z1u (Y2 (Zd (Zb Yi Z0) (Zh Yi Z0)) rfl h1))))
 obtain⟨g,e,g1,g2,hn⟩:=K.iv.num_at hv
 rw [show n-1+1=n by omega] at hn
 obtain⟨M,m1,m2⟩:=K.mo.val g g1 g2
 exact⟨g,by rw [hv,e],M,m1,m2.iff fun r _=>by rw [Ni K.iv hn]⟩
theorem sat_w{c:List Int}(K:Kst gs kn kvs d tops s.hp)(hc:c∈d.cs)(l1:s.loc 1=some (.ref 100))(l6:s.loc 6=some (.lst ((nuK d).map .int)))(l11:s.loc 11=some (J0 c))(l12:s.loc 12=some (.int 0))
  (k : ∀ s' M,s'.hp=s.hp->(∀ q,q≠12->q≠13->s'.loc q=s.loc q)->s'.loc 12=some (.int (M:Nat))->Msk (fun r => ∃ x∈c,Yes (ow (row kvs r) gs d) x) M->Q .next s') :
  Wp (Y.for 140 (Z71 11) (fun v=>Z72 13 v) (Z73 (Z7c 12 (Z78 vOr (Z71 12) (X.ife (Z7a vGt (Z71 13) (pure (.int 0))) (Z78 Yz (Z71 1) (Z78 Yz (Z71 6) (Z78 Kt (Z71 13) (pure (.int 1))))) (Z78 Kt (pure (.int 65535)) (Z78 Yz (Z71 1) (Z78 Yz (Z71 6) (Z78 Kt (Z77 Fk (Z71 13)) (pure (.int 1)))))))))
 (Y.end))) s Q:=by
 obtain⟨_,b2,_,_⟩:=K.iv.bounds K.c
 refine .for (.getL l11 ⟨rfl,.forS (xs:=c.map .int) (SaI gs d kvs c s) ⟨rfl,fun _ _ _=>rfl,0,l12,msk_none.iff fun r _=>⟨False.elim,fun⟨_,q,_⟩=>nomatch q⟩⟩ (fun _ _ _=>V3 _) ?_ ?_⟩)
 ·rintro i s' v ⟨e1,e2,M,l,hM⟩ hv
  rw [Z30] at hv
  obtain⟨x,hx,rfl⟩:=Z50.mp hv
  have tk:c.take (i+1)=c.take i ++ [x]:=by rw [Z4s,hx];rfl
  have xr:=(K.iv.row c hc).2 x (Z45 hx)
  obtain⟨g,g1,M',m1,m2⟩:=Ag K xr.1 xr.2
  have r1:s'.loc 1=some (.ref 100):=(e2 1 (by decide) (by decide)).trans l1
  have r6:s'.loc 6=some (.lst ((nuK d).map .int)):=(e2 6 (by decide) (by decide)).trans l6
  have hm:s'.hp 100=some (.idict kvs):=by rw [e1];exact K.hm
  have gi:((nuK d).map V.int)[x.natAbs-1]?=some (.int g):=by rw [Z30,g1];rfl
  have fin : ∀ (loc:Nat->Option V) (N:Nat),(∀ q,q≠12->q≠13->loc q=s'.loc q)->Msk (fun r=>Yes (ow (row kvs r) gs d) x) N->SaI gs d kvs c s (i+1) ⟨upd loc 12 (some (.int (Builtin.bitOr M N))),s'.hp⟩:=fun loc N e hN=>by
   refine⟨e1,fun q q1 q2=>?_,M|||N,?_,(hM.or hN).iff fun r _=>?_⟩
   ·dsimp only;rw [Z5 _ _ q1,e q q1 q2];exact e2 q q1 q2
   ·dsimp only;rw [Z4,Ma]
   ·rw [tk]
    refine⟨fun w=>w.elim (fun⟨y,h1,h2⟩=>⟨y,Z3x _ h1,h2⟩) fun w=>⟨x,Z3y _ (Z49.mpr rfl),w⟩,fun⟨y,h1,h2⟩=>(Z3w.mp h1).elim (fun h1=>.inl ⟨y,h1,h2⟩) fun h1=>.inr (by rw [<-Z49.mp h1];exact h2)⟩
  refine .setL (.seq (.assign (.op2 (.getL (v:=.int M) l (.ife (.tcmp (.getL (v:=.int x) rfl (.pure (W.gt (.asBool ⟨fun hb=>?_,fun hb=>?_⟩))))))))))
  ·have hb:=of_decide_eq_true hb
   refine .op2 (.getL (v:=.ref 100) r1 (.op2 (.getL (v:=.lst ((nuK d).map .int)) r6 (.op2 (.getL (v:=.int x) rfl (.pure (W.sub (W.itemL (u:=.int g) J4 (by lia) (by exact(Vg (Zd (Zb Z0 (Zo 20)) (Zd (Zq Z1 Z0) (Zd (Xq Zg Xm) (J6 (Yl Zg Xx) (Vt 2 40))))) rfl b2 xr.2 Z67)) (by rw [show (x-1).toNat=x.natAbs-1 by exact(Ee (Ze (-1) (Yr Zu Zg) (Ze (-1) (Zj (Y0 Z1) Z0) (Zd (Yr Qt (Yl Zg Xx)) (J9 Za Z1)))) rfl (Z6i (Wc (Zd (Xp X0 Zg) (Yv X0 Zg)) rfl hb)) (Z1u (Y2 (Zd (Zb Yi Z0) (Zh Yi Z0)) rfl xr.1)) (Z6w (Wc (Zd (Xp X0 Zg) (Yv X0 (Yl Zg Xx))) rfl hb)))];exact gi) (W.itemD (X7 (xs:=kvs) hm) m1 (W.bor (.end (fin _ M' (fun q q1 q2=>Z5 _ _ q2) (m2.iff fun r _=>?_)))))))))))))
   unfold Yes;rw [decide_eq_true hb]
  ·have hb:=of_decide_eq_false hb
   refine .op2 (.pure (.op2 (.getL (v:=.ref 100) r1 (.op2 (.getL (v:=.lst ((nuK d).map .int)) r6 (.op2 (.op1 (.getL (v:=.int x) rfl (W.neg (.pure (W.sub (W.itemL (u:=.int g) J4 (by exact(J1 (Zd (Zb Yi Z0) (Zd (Yr Zu (Wj Zg)) (Yv X0 (Yl (Wj Zg) Xx)))) rfl xr.1 (Z6q (Wc (Zd (Qu X0 Zg) (Yv Zg X0)) rfl hb)))) (by exact(Vg (Zd (Zb Z0 (Zo 20)) (Zd (Zq Z1 Z0) (Zd (Xq (Wj Zg) Xm) (J6 (Yl (Wj Zg) Xx) (Vt 2 40))))) rfl b2 xr.2 (fk_na _))) (by rw [show (-x-1).toNat=x.natAbs-1 by exact(Ee (Ze (-1) (Yr Zu (Wj Zg)) (Ze (-1) (Zj (Y0 Z1) Z0) (Zd (Yr Qt (Yl (Wj Zg) Xx)) (J9 Za Z1)))) rfl (Z6q (Wc (Zd (Qu X0 Zg) (Yv Zg X0)) rfl hb)) (Z1u (Y2 (Zd (Zb Yi Z0) (Zh Yi Z0)) rfl xr.1)) (Z6w (J1 (Zd (Zb Yi Z0) (Zd (Yr Zu (Wj Zg)) (Yv X0 (Yl (Wj Zg) Xx)))) rfl xr.1 (Z6q (Wc (Zd (Qu X0 Zg) (Yv Zg X0)) rfl hb)))))];exact gi) (W.itemD (X7 (xs:=kvs) hm) m1 (W.sub ?_))))))))))))))
   rw [C3 m2.1]
   refine W.bor (.end (fin _ (65535-M') (fun q q1 q2=>Z5 _ _ q2) (m2.not.iff fun r _=>?_)))
   unfold Yes;rw [decide_eq_false hb,Z5v]
 ·rintro s' ⟨e1,e2,M,l,hM⟩
  rw [Z3g,Z4t] at hM
  exact k s' M e1 e2 l hM
inductive KpI(s:St)(i:Nat)(s':St):Prop
 |mk (hp:s'.hp=s.hp) (lo : ∀ q,q≠11->q≠12->q≠13->s'.loc q=s.loc q)
theorem keep_w(K:Kst gs kn kvs d tops s.hp)(l0:s.loc 0=some (.ref 6))(l1:s.loc 1=some (.ref 100))(l4:s.loc 4=some (.int H))(l6:s.loc 6=some (.lst ((nuK d).map .int)))(hH:Msk P H)(sat : ∀ r,r<16->P r->Sat (ow (row kvs r) gs d) d.cs)
  (k : ∀ s',s'.hp=s.hp->(∀ q,q≠11->q≠12->q≠13->s'.loc q=s.loc q)->Q .next s') :
  Wp (Y.for 140 (Z77 (Yn 112 (Z5k "clauses")) (Z71 0)) (fun v=>Z72 11 v) (Z73 (Z7c 12 (pure (.int 0)))
 (Z73 (Y.for 140 (Z71 11) (fun v=>Z72 13 v) (Z73 (Z7c 12 (Z78 vOr (Z71 12) (X.ife (Z7a vGt (Z71 13) (pure (.int 0))) (Z78 Yz (Z71 1) (Z78 Yz (Z71 6) (Z78 Kt (Z71 13) (pure (.int 1))))) (Z78 Kt (pure (.int 65535)) (Z78 Yz (Z71 1) (Z78 Yz (Z71 6) (Z78 Kt (Z77 Fk (Z71 13)) (pure (.int 1)))))))))
 (Y.end)))
 (Z73 (Z7b (Z7a (vEq true) (Z78 T1 (Z71 4) (Z78 Kt (pure (.int 65535)) (Z71 12))) (pure (.int 0))) (Z73 (Z7f (pure (.bool false)))
 (Y.end)) (Y.end))
 (Y.end))))) s Q:=by
 refine .for (.op1 (.getL (v:=.ref 6) l0 (W.kClauses K.h ⟨rfl,.forS (xs:=d.cs.map J0) (KpI s) ⟨rfl,fun _ _ _ _=>rfl⟩ (fun i s' q=>?_) ?_ ?_⟩)))
 ·obtain⟨e1,_⟩:=q
  exact Us (Jm (by rw [e1];exact K.h.cs))
 ·rintro i s' v ⟨e1,e2⟩ hv
  rw [Z30] at hv
  obtain⟨c,hc,rfl⟩:=Z50.mp hv
  have hcm:=Z45 hc
  refine .setL (.seq (.assign (.pure (.seq (sat_w (c:=c) (kvs:=kvs) (gs:=gs) (kn:=kn) (tops:=tops) (d:=d) (by dsimp only;rw [e1];exact K) hcm ((e2 1 (by decide) (by decide) (by decide)).trans l1) ((e2 6 (by decide) (by decide) (by decide)).trans l6) rfl rfl fun s2 M a1 a2 l12 hM=>?_)))))
  dsimp only at a1 a2
  have r4:s2.loc 4=some (.int H):=(a2 4 (by decide) (by decide)).trans ((e2 4 (by decide) (by decide) (by decide)).trans l4)
  refine .seq (.ite (.tcmp (.op2 (.getL (v:=.int H) r4 (.op2 (.pure (.getL (v:=.int M) l12 (W.sub ?_))))))))
  rw [C3 hM.1]
  refine W.band (.pure (W.eqI (.asBool ⟨fun hb=>?_,fun hb=>.end (.end ⟨a1.trans e1,fun q q1 q2 q3=>?_⟩)⟩)))
  ·rw [Ju] at hb
   refine(Dh (a:=H&&&(65535-M)) (b:=0) (((hH.and hM.not).iff fun r hr=>?_).eq msk_none) hb).elim
   exact iff_of_false (fun⟨w1,w2⟩=>w2 (sat r hr w1 c hcm)) id
  ·exact(a2 q q2 q3).trans ((Z5 _ _ q2).trans ((Z5 _ _ q1).trans (e2 q q1 q2 q3)))
 ·rintro s' ⟨e1,e2⟩
  exact k s' e1 e2
end L01
end Lay
namespace Lay
namespace L01
variable{gs:List G}{tops:List Int}{d d':Cl}{kn:List (List Int×V)}{σ τ:Hp}{kvs k0 kv:List (Int×V)}{cs:List (List Int)}{g t:Int}{F:List Int}{m H:Nat}{s:St}{Q:Fl->St->Prop}{P:Nat->Prop}{asked:List (Int×Int)}
noncomputable def askT(a:Int×Int):List Int := [a.1,a.2]
inductive AsI(s:St)(i:Nat)(s':St):Prop
 |mk (hp:s'.hp=s.hp) (lo : ∀ q,q≠7->q≠14->q≠12->q≠15->q≠16->s'.loc q=s.loc q)
theorem ask_w(K:Kst gs kn kvs d tops s.hp)(hn:Free 160 s.hp)(ha:s.hp 14=some (.list (asked.map fun a=>J0 (askT a))))(A : ∀ a∈asked,Ask d a)(l0:s.loc 0=some (.ref 6))(l1:s.loc 1=some (.ref 100))(l3:s.loc 3=some (.ref 14))(l4:s.loc 4=some (.int H))(l9:s.loc 9=some (.dct kv))(hH:Msk P H)(kvm:Mks kv)(R : ∀ r,r<16->P r->RowC gs d (row kvs r) kv r)
  (k : ∀ s',s'.hp=s.hp->Q .next s') :
  Wp (Y.for 140 (Z71 3) (M.unpack [7,14]) (Z73 (Y.assignSwap [16,15,12] (Z74 (Z79 (callM (Y4 700 2 W9)) (Z74 (Z71 1) (Z74 (Z71 7) Z75))) (Z74 (Z78 T1 (Z76 Qb Dd (Z71 9) (Z74 (Z71 14) (Z74 (pure (.int 0)) Z75))) (Z71 4)) (Z74 (Z78 T1 (Z76 Qb Dd (Z71 9) (Z74 (Z77 Fk (Z71 14)) (Z74 (pure (.int 0)) Z75))) (Z71 4)) Z75))))
 (Z73 (Z7b ((X.or1 (Z7a (vEq true) (Z71 16) (Z78 T1 (Z71 4) (Z78 Kt (pure (.int 65535)) (Z71 12)))) (X.or1 (Z7a (vEq true) (Z78 T1 (Z71 15) (Z78 Kt (pure (.int 65535)) (Z71 12))) (pure (.int 0))) (X.or1 ((X.and1 (Z7a (vEq false) (Z77 (Yn 112 (Z5k "whole")) (Z71 0)) (pure (.int 1))) (X.and1 (Z7a (vEq true) (Z71 15) (Z78 T1 (Z71 4) (Z71 12))) X.and0))) X.or0)))) (Z73 (Z7f (pure (.bool false)))
 (Y.end)) (Y.end))
 (Y.end)))) s Q:=by
 have l1000:1000<lim:=by decide
 refine .for (.getL l3 ⟨rfl,.forS (xs:=asked.map fun a=>J0 (askT a)) (AsI s) ⟨rfl,fun _ _ _ _ _ _=>rfl⟩ (fun i s' q=>?_) ?_ fun s' q=>?_⟩)
 ·obtain⟨e1,_⟩:=q
  exact Us (Jm (by rw [e1];exact ha))
 ·rintro i ⟨loc,hp⟩ v ⟨e1,e2⟩ hv
  dsimp only at e1 e2
  subst e1
  rw [Z30] at hv
  obtain⟨a,ha,rfl⟩:=Z50.mp hv
  have A:=A a (Z45 ha)
  have gin:In gs a.1:=by
   obtain⟨h1,h2⟩:=K.iv.opk _ A.op
   have:=K.iv.key _ h2
   exact⟨h1,by exact(Zw (Zd (Xp Zu Xm) (Zy Z0 Z1)) rfl this.2)⟩
  have r0:loc 0=some (.ref 6):=(e2 0 (by decide) (by decide) (by decide) (by decide) (by decide)).trans l0
  have r1:loc 1=some (.ref 100):=(e2 1 (by decide) (by decide) (by decide) (by decide) (by decide)).trans l1
  have r4:loc 4=some (.int H):=(e2 4 (by decide) (by decide) (by decide) (by decide) (by decide)).trans l4
  have r9:loc 9=some (.dct kv):=(e2 9 (by decide) (by decide) (by decide) (by decide) (by decide)).trans l9
  have core:=fun r hr p=>Cn K.iv A (R r hr p)
  refine Wp.unpack2 (a:=.int a.1) (b:=.int a.2) (.seq (.assignSwap (.cons (.call (.cons (.getL (v:=.ref 100) r1 (.cons (.getL (v:=.int a.1) rfl (.nil (.callM ((Rw (g:=a.1) K.hm K.mo (hn.mono (by decide)) gin).mono ?_)))))))))))
  rintro _ _ ⟨rfl,G,rfl,hG⟩
  refine .cons (.op2 (.meth (.getL (v:=.dct kv) r9 ⟨N0,.cons (.getL (v:=.int a.2) rfl (.cons (.pure (.nil (W.get Ec ?_)))))⟩)))
  rw [(kvm.get a.2).1]
  refine .getL (v:=.int H) r4 (W.band (.cons (.op2 (.meth (.getL (v:=.dct kv) r9 ⟨N0,.cons (.op1 (.getL (v:=.int a.2) rfl (W.neg (.cons (.pure (.nil (W.get Ec ?_)))))))⟩)))))
  rw [(kvm.get (-a.2)).1]
  refine .getL (v:=.int H) r4 (W.band (.nil ⟨show 3<=100 by decide,.sets1 (.sets1 (.sets1 (.sets0 ?_)))⟩))
  rw [Ju,Ju]
  have hT:=(kvm.msk a.2).and hH
  have hN:=(kvm.msk (-a.2)).and hH
  refine .seq (.ite (.or1 (.tcmp (.getL (v:=.int (mkO kv (-a.2)&&&H:Nat)) rfl (.op2 (.getL (v:=.int H) r4 (.op2 (.pure (.getL (v:=.int G) rfl (W.sub ?_))))))))))
  rw [C3 hG.1]
  refine W.band (W.eqI (.asBool ⟨fun hb=>?_,fun _=>.or1 (.tcmp (.op2 (.getL (v:=.int (mkO kv a.2&&&H:Nat)) rfl (.op2 (.pure (.getL (v:=.int G) rfl (W.sub ?_)))))))⟩))
  ·rw [Ju] at hb
   refine(Dh ((hN.iff fun r hr=>?_).eq (hH.and hG.not)) hb).elim
   exact⟨fun⟨w1,w2⟩=>⟨w2,(core r hr w2).1.mp w1⟩,fun⟨w1,w2⟩=>⟨(core r hr w1).1.mpr w2,w1⟩⟩
  rw [C3 hG.1]
  have fin : ∀ q,q≠7->q≠14->q≠12->q≠15->q≠16->upd (upd (upd (upd (upd loc 7 (some (.int a.1))) 14 (some (.int a.2))) 16 (some (.int (mkO kv (-a.2)&&&H:Nat)))) 15 (some (.int (mkO kv a.2&&&H:Nat)))) 12 (some (.int G)) q=s.loc q:=fun q q1 q2 q3 q4 q5=>by
   rw [Z5 _ _ q3,Z5 _ _ q4,Z5 _ _ q5,Z5 _ _ q2,Z5 _ _ q1];exact e2 q q1 q2 q3 q4 q5
  refine W.band (.pure (W.eqI (.asBool ⟨fun hb=>?_,fun _=>.or1 (.and1 (.tcmp (.op1 (.getL (v:=.ref 6) r0 (W.kWhole K.h (.pure (W.eqI (.asBool ⟨fun hw=>?_,fun _=>⟨nofun,fun _=>.or0 ⟨nofun,fun _=>.end (.end ⟨rfl,fin⟩)⟩⟩⟩))))))))⟩)))
  ·rw [Ju] at hb
   refine(Dh (((hT.and hG.not).iff fun r hr=>?_).eq msk_none) hb).elim
   exact iff_of_false (fun⟨⟨w1,w2⟩,w3⟩=>w3 ((core r hr w2).2.1 w1)) id
  refine .and1 (.tcmp (.getL (v:=.int (mkO kv a.2&&&H:Nat)) rfl (.op2 (.getL (v:=.int H) r4 (.getL (v:=.int G) rfl (W.band (W.eqI (.asBool ⟨fun hb=>?_,fun _=>⟨nofun,fun _=>.or0 ⟨nofun,fun _=>.end (.end ⟨rfl,fin⟩)⟩⟩⟩))))))))
  rw [Ju] at hb
  have w:d.w=1:=by rw [Z5z] at hw;exact of_decide_eq_true hw
  refine(Dh ((hT.iff fun r hr=>?_).eq (hH.and hG)) hb).elim
  exact⟨fun⟨w1,w2⟩=>⟨w2,(core r hr w2).2.1 w1⟩,fun⟨w1,w2⟩=>⟨(core r hr w1).2.2 (by exact(Int.lt_of_lt_of_le (by decide:(0:Int)<(1:Int)) (Int.le_of_eq w.symm))) w2,w1⟩⟩
 ·obtain⟨e1,_⟩:=q
  exact k s' e1
end L01
end Lay
namespace Lay
theorem Wp.assignTup2{m:M V}{i j:Nat}{s:St}{Q:Fl->St->Prop}(h:Wp m s (fun v s1=>Wp (M.unpack [i,j] v) s1 (fun _ s2=>Q .next s2))):Wp (Y.assignTup [i,j] m) s Q:=.bind (h.mono fun _ _ h=>.bind (h.mono fun _ _ h=>.pure h))
namespace L01
variable{gs:List G}{tops:List Int}{d d':Cl}{kn:List (List Int×V)}{σ τ:Hp}{kvs k0 kv:List (Int×V)}{cs:List (List Int)}{asked:List (Int×Int)}
theorem Ej : ∀ {cs:List (List Int)},(∀ c∈cs,c.length<=5)->cs.flatten.length<=5*cs.length
 | [],_=>Z25 _
 |c::cs,h=>by
  have h1:=h c (Z41 ..)
  have h2:=Ej fun c hc=>h c (Z40 _ hc)
  rw [List.flatten_cons,Z3b,Z3c];exact(Ye (Zd (Zb Z0 (Zo 5)) (Zd (Zb Z1 (Zm 5 Za)) (Zh (Z8 Z0 Z1) (Zm 5 (Y0 Za))))) rfl h1 h2)
theorem rows_ws(K:Kst gs kn kvs d tops σ)(ht:σ 13=some (.list (tops.map .int)))(ha:σ 14=some (.list (asked.map fun a=>J0 (askT a))))(A : ∀ a∈asked,Ask d a)(hn:Free 140 σ) :
  Ws (Y4 140 4 W2) [.ref 6,.ref 100,.ref 13,.ref 14] σ (fun v σ'=>v = .bool true/\σ'=σ):=by
 have l4000:4000<lim:=by decide
 obtain⟨b1,b2,b3,_⟩:=K.iv.bounds K.c
 have lc:=K.lc
 refine Ws.fn rfl ?_
 unfold W2
 have f1 : ∀ n,n≠140->upd σ 140 (some (.idict [])) n=σ n:=fun n q=>Z5 _ _ q
 have K1:Kst gs kn kvs d tops (upd σ 140 (some (.idict []))):=K.mono fun n q=>f1 n (by exact(Z1o q))
 have n1:Free 160 (upd σ 140 (some (.idict []))):=fun n q=>(f1 n (by exact(Z1n (Z1a (nlt 140 160 rfl) q)))).trans (hn n (by exact(Z16 (nle 140 160 rfl) q)))
 refine .seq (.assignSwap (.cons (.pure (.cons (.new (hn 140 (by decide)) (.cons (.call (.cons (.getL (v:=.ref 6) rfl (.nil (.callM ((V4 K1.h (n1.mono (by decide)) (by exact(Z16 b2 (nle 20 1000 rfl)))).mono ?_))))))))))))
 rintro _ _ ⟨rfl,rfl⟩
 refine .nil ⟨show 3<=100 by decide,.sets1 (.sets1 (.sets1 (.sets0 ?_)))⟩
 rw [show d.ga.tail=nuK d by rw [K.iv.ga];rfl]
 refine .seq (held_w K1 n1 ((f1 13 (by decide)).trans ht) rfl rfl rfl fun s2 H e1 e2 l4 hH=>?_)
 dsimp only at e1 e2
 refine .seq (known_w (gs:=gs) (kn:=kn) (kvs:=kvs) (d:=d) (tops:=tops) (by rw [e1];exact K1) (by rw [e1];exact n1) (e2 0 (by decide) (by decide)) (e2 1 (by decide) (by decide)) (e2 5 (by decide) (by decide)) (e2 6 (by decide) (by decide)) (by rw [e1];exact Z4 _ _ _) fun s3 k0 g1 g2 h140 kw=>?_)
 have f3 : ∀ n,n≠140->s3.hp n=σ n:=fun n q=>by rw [g1 n q,e1];exact f1 n q
 have loc3 : ∀ q,q≠4->q≠7->q≠8->s3.loc q=upd (upd (upd (fun i=>([V.ref 6,.ref 100,.ref 13,.ref 14]:List V)[i]?) 6 (some (.lst ((nuK d).map .int)))) 5 (some (.ref 140))) 4 (some (.int 65535)) q:=fun q q1 q2 q3=>(g2 q q2 q3).trans (e2 q q1 q2)
 have l0:s3.loc 0=some (.ref 6):=loc3 0 (by decide) (by decide) (by decide)
 have l1:s3.loc 1=some (.ref 100):=loc3 1 (by decide) (by decide) (by decide)
 have l3:s3.loc 3=some (.ref 14):=loc3 3 (by decide) (by decide) (by decide)
 have l5:s3.loc 5=some (.ref 140):=loc3 5 (by decide) (by decide) (by decide)
 have l6:s3.loc 6=some (.lst ((nuK d).map .int)):=loc3 6 (by decide) (by decide) (by decide)
 have l4:s3.loc 4=some (.int H):=(g2 4 (by decide) (by decide)).trans l4
 have K3:Kst gs kn kvs d tops s3.hp:=K.mono fun n q=>f3 n (by exact(Z1o q))
 have n3:Free 160 s3.hp:=fun n q=>(f3 n (by exact(Z1n (Z1a (nlt 140 160 rfl) q)))).trans (hn n (by exact(Z16 (nle 140 160 rfl) q)))
 have a3:s3.hp 14=some (.list (asked.map fun a=>J0 (askT a))):=(f3 14 (by decide)).trans ha
 have c3 : ∀ n,n<140->s3.hp n=σ n:=fun n q=>f3 n (by exact(Z1o q))
 clear f1 K1 n1 e1 e2 g1 g2 loc3 f3
 have rw5:=K3.iv.row
 have kle:=kw.le
 have fl:=Ej fun c hc=>(rw5 c hc).1.2
 refine .seq (.assignTup2 (.call (.cons (.op1 (.getL (v:=.ref 6) l0 (W.kClauses K3.h (.cons (.getL (v:=.ref 140) l5 (.nil (.callM ((Dz (cs:=d.cs) (k0:=k0) K3.h.cs h140 (n3.mono (by decide)) (fun c hc x hx=>by have:=((rw5 c hc).2 x hx).1;lia) (fun c hc=>(rw5 c hc).1.1.nodup) (fun c hc=>Z16 (rw5 c hc).1.2 (by decide)) kw.ms kw.nd (by exact(Q6 (Ze 2039 (Zq (Zo 4000) Z0) (Ze 8002 (Zb Z1 (Zo 19)) (Ze 20005 (Zb Za (Zo 400)) (Ze 4001 (Zb Zp (Zm 2 Z1)) (Ze 4001 (Zb X4 (Zm 5 Za)) (Xn 4000 (Zy (Z8 Zp X4) Z0))))))) rfl l4000 b1 lc kle fl))).mono ?_)))))))))))
 rintro _ _ ⟨rfl,kv,m,rfl,R⟩
 have core:=fun r (hr:r<16)=>Ak K3 kw R hr
 have hm:Msk (fun r => ¬ ∀ t∈tops,Yes (val (row kvs r) gs) t) m:=⟨R.lt,fun r hr=>⟨fun q w=>(by rw [((core r hr).1 w).1] at q;cases q),(core r hr).2⟩⟩
 refine .unpack2 (.seq (.ite (.tcmp (.getL (v:=.int m) rfl (.op2 (.pure (.getL (v:=.int H) l4 (W.sub ?_))))))))
 rw [C3 hH.1]
 refine W.eqI (.asBool ⟨fun hb=>False.elim (Dh (hm.eq hH.not) hb),fun hb=>.end ?_⟩)
 refine .seq (keep_w (P:=fun r => ∀ t∈tops,Yes (val (row kvs r) gs) t) (gs:=gs) (kn:=kn) (kvs:=kvs) (d:=d) (tops:=tops) K3 l0 l1 l4 l6 hH (fun r hr p=>by obtain⟨q,_⟩:=((core r hr).1 p).2;exact q) fun s4 e1 e2=>?_)
 dsimp only at e1 e2
 refine .seq (ask_w (P:=fun r => ∀ t∈tops,Yes (val (row kvs r) gs) t) (gs:=gs) (kn:=kn) (kvs:=kvs) (kv:=kv) (d:=d) (tops:=tops) (asked:=asked) (by rw [e1];exact K3) (by rw [e1];exact n3) (by rw [e1];exact a3) A ((e2 0 (by decide) (by decide) (by decide)).trans l0) ((e2 1 (by decide) (by decide) (by decide)).trans l1) ((e2 3 (by decide) (by decide) (by decide)).trans l3) ((e2 4 (by decide) (by decide) (by decide)).trans l4) (e2 9 (by decide) (by decide) (by decide)) hH R.ms (fun r hr p=>((core r hr).1 p).2) fun s5 e3=>?_)
 exact .seq (.ret (.pure ⟨_,_,rfl,Zs fun _=>Z7i,rfl,Eb hn fun n q=>by rw [e3,e1];exact c3 n q⟩))
end L01
end Lay
namespace Lay
theorem Wp.bOr{m1 m2:M V}{s:St}{Q:V->St->Prop}(h:Wp m1 s (fun v s1 => ∃ b,v = .bool b/\(b=true->Q (.bool true) s1)/\(b=false->Wp m2 s1 Q))):Wp (X.bOr m1 m2) s Q:=by
 obtain⟨_,s1,h1,b,rfl,h2,h3⟩:=h
 cases b with
 |true=>exact⟨_,_,R.bind h1 (R.bind (R.pure (a:=true)) (R.pure (a:=V.bool true))),h2 rfl⟩
 |false=>obtain⟨v,s2,h4,h5⟩:=h3 rfl;exact⟨v,s2,R.bind h1 (R.bind (R.pure (a:=false)) h4),h5⟩
theorem Wp.bAnd{m1 m2:M V}{s:St}{Q:V->St->Prop}(h:Wp m1 s (fun v s1=>v = .bool true/\Wp m2 s1 Q)):Wp (X.bAnd m1 m2) s Q:=by
 obtain⟨_,s1,h1,rfl,v,s2,h4,h5⟩:=h
 exact⟨v,s2,R.bind h1 (R.bind (R.pure (a:=true)) h4),h5⟩
namespace L01
variable{gs:List G}{tops:List Int}{d d':Cl}{kn:List (List Int×V)}{σ τ:Hp}{kvs:List (Int×V)}{asked:List (Int×Int)}{xs pool:List Int}{n n' m:Nat}{g:Int}{cs:List (List Int)}{F:List Int}
inductive PlI(σ:Hp)(i:Nat)(s:St):Prop
 |mk (h:s.hp=σ)
theorem Ah(h8:σ 8=some (.list (cs.map J0)))(row : ∀ c∈cs,Asc c/\c.length<=5)(hn:Free 660 σ):Ws (Y4 660 1 We) [.ref 8] σ (fun v σ'=>v = .bool true/\σ'=σ):=by
 have l64:64<lim:=by decide
 refine Ws.fn rfl ?_
 unfold We
 refine .seq (.for (.getL (v:=.ref 8) rfl ⟨rfl,.forS (xs:=cs.map J0) (PlI σ) ⟨rfl⟩ (fun i s q=>by
  obtain⟨q⟩:=q
  exact Us (Jm (by rw [q];exact h8))) ?_ ?_⟩))
 ·rintro i s x ⟨a⟩ hx
  rw [Z30] at hx
  obtain⟨c,hc,rfl⟩:=Z50.mp hx
  obtain⟨asc,l5⟩:=row c (Z45 hc)
  refine .setL (.seq (.assign (W.filt (RS:=c) (emb:=V.int) (e:=fun x=>V.int (x.natAbs:Int)) (p:=fun _=>true) (v:=J0 c) (.getL rfl ⟨rfl,rfl⟩) rfl (fun _ _=>V3 _) (fun _ _ _ _ _ _=>.and0 ⟨rfl,rfl⟩) (fun x _ _ s' _ _ e3=>.call (.cons (.getL e3 (.nil (W.abs ⟨rfl,rfl⟩))))) (fun _ _=>rfl) (by exact(Z1h (Z17 l5 (nlt 5 64 rfl)) l64)) fun s' e1 e2=>?_)))
  rw [List.filter_eq_self.mpr fun _ _=>rfl,show c.map (fun x=>V.int (x.natAbs:Int))=(c.map fun x=>(x.natAbs:Int)).map V.int by rw [Z3t];rfl]
  have hl:(c.map fun x=>(x.natAbs:Int)).length=c.length:=Z3g ..
  have hs:(c.map fun x=>(x.natAbs:Int)).Pairwise (· < ·):=Z4i.mpr (asc.imp fun q=>by exact(Zw (Zd (Zq Z0 Z1) (J6 Zu Xm)) rfl q))
  generalize (c.map fun x=>(x.natAbs:Int))=L at hl hs
  have e:=U5 (List.Perm.refl L) (hs.imp fun q=>Z68 q)
  refine .seq (.ite (.tcmp (.getL (v:=.lst (L.map .int)) rfl (.bind (.getL (v:=.lst (L.map .int)) rfl (W.sortedSet (hs.imp fun q=>Z6l q) (by exact(Z17 (Z16 (Z0x hl) l5) (nlt 5 64 rfl))) (W.eqL (.asBool ⟨fun hb=>?_,fun _=>.end (.end ⟨e1.trans a⟩)⟩))))))))
  rw [<-e,decide_eq_true rfl] at hb
  cases hb
 ·rintro s ⟨a⟩
  refine .seq (.ret (.pure ⟨_,_,rfl,Zs fun _=>Z7i,rfl,?_⟩))
  show cut 660 s.hp=σ
  rw [a,Yg hn]
structure Ast(gs:List G)(kn:List (List Int×V))(kvs:List (Int×V))(d:Cl)(tops:List Int)(asked:List (Int×Int))(xs:List Int)(n:Nat)(pool:List Int)(m:Nat)(σ:Hp):Prop where
 K:Kst gs kn kvs d tops σ
 sk:Sack xs n σ
 xl:xs.length<=60
 nl:n<2^38
 poo:σ 15=some (.list (pool.map .int))
 p0:0<pool.length
 pl:pool.length<=50
 hp : ∀ p∈pool,In gs p
 ht:σ 13=some (.list (tops.map .int))
 ha:σ 14=some (.list (asked.map fun a=>J0 (askT a)))
 A : ∀ a∈asked,Ask d a
 lc:d.cs.length<=4*d.op.length+38*tops.length
 cnt:tops.length+asked.length<=m
 m4:m<=4
 fr:Free 120 σ
theorem Ast.sip(A:Ast gs kn kvs d tops asked xs n pool m σ)(c:Sack xs n' τ)(f:FrS σ τ)(hl:n'<2^38):Ast gs kn kvs d tops asked xs n' pool m τ :=
 {A with
  K:={A.K with hc:=A.K.hc.mono fun n q=>f n (by exact(Z1o (Z17 q (nlt 5 101 rfl)))),hm:=(f _ (by decide)).trans A.K.hm,h:=A.K.h.mono fun n _ q=>f n (by lia)}
  sk:=c,nl:=hl,poo:=(f _ (by decide)).trans A.poo,ht:=(f _ (by decide)).trans A.ht,ha:=(f _ (by decide)).trans A.ha,fr:=f.free A.fr (by decide)}
theorem op_le(iv:Inv gs tops d)(e:Ext d d'):d.op.length<=d'.op.length:=by
 have:=Y8 iv.opn e.op
 rwa [Z3g,Z3g] at this
theorem nuk_pre(iv:Inv gs tops d){tops':List Int}(iv':Inv gs tops' d')(e:Ext d d'):nuK d<+:nuK d':=by
 have:=e.ga
 rw [iv.ga,iv'.ga] at this
 exact(List.cons_prefix_cons.mp this).2
theorem Ask.ext{a:Int×Int}(A:Ask d a)(e:Ext d d'):Ask d' a:=⟨e.op _ A.op,A.li.ext e,fun q=>e.op _ (A.all (e.w▸q))⟩
theorem I0{α:Type}{a b:List α}(h:a<+:b):b.take a.length=a:=(List.prefix_iff_eq_take.mp h).symm
theorem Em{a b:List Int}(h:a<+:b)(nd:b.Nodup){x:Int}(hx:x∈b.drop a.length):x∈b/\x∉a:=by
 obtain⟨t,rfl⟩:=h
 rw [List.drop_left] at hx
 exact⟨Z3y _ hx,fun q=>(List.nodup_append.mp nd).2.2 x q x hx rfl⟩
theorem top_ast{B:Nat->Prop}(A:Ast gs kn kvs d tops asked xs n pool m σ)(hm:m<4)(hg:In gs g)(T:TopR gs tops B d (upd σ 13 (some (.list (tops.map .int ++ [.int g])))) g τ) :
  ∃ d',Ext d d'/\Ast gs kn kvs d' (tops ++ [g]) asked xs n pool (m+1) τ/\(∀ k∈nuK d',k∈nuK d\/B k.natAbs)/\∃ S:Int->Prop,S g/\∀ s,S s->TopSt gs d' S s:=by
 obtain⟨d',f,k,iv,ext,wa,pe,ok,low,S,St,Sn,le⟩:=T
 have f2 : ∀ i,i≠13->i<8\/12<i->τ i=σ i:=fun i q1 q2=>(f i q2).trans (Z5 _ _ q1)
 have ol:=op_le A.K.iv ext
 have c:=A.K.c
 have cnt:=A.cnt
 have lc:=A.lc
 have b3:=(iv.bounds c).2.2.1
 have tl:(tops ++ [g]).length=tops.length+1:=by rw [Z3b];rfl
 have lc':d'.cs.length<=4*d'.op.length+38*(tops ++ [g]).length:=by rw [tl];exact(Q6 (Zd (Zb (Z8 Z0 (Zm 4 Z1)) (Z8 (Z8 Za (Zo 38)) (Zm 4 Zp))) (Zd (Zb Za (Z8 (Zm 4 Z1) (Zm 38 X4))) (Zh Z0 (Z8 (Zm 4 Zp) (Zm 38 (Y0 X4)))))) rfl le lc)
 refine⟨d',ext,{A with K:=⟨c,A.K.ok,A.K.hc.mono fun i q=>f2 i (by exact(Z1o (Z17 q (nlt 5 13 rfl)))) (by exact(.inl (Y2 (Zd (Zb Z0 (Zo 5)) (Zy Z0 (Zo 8))) rfl q))),(f2 _ (by decide) (by decide)).trans A.K.hm,A.K.mo,k,iv,wa,pe,fun t ht=>?_,by rw [tl] at lc';exact(Q6 (Ze 38 (Zq Z0 Xi) (Ze 38 (Zb (Z8 Z1 Za) Z0) (Ze 4 (Zb Zp (Zo 38)) (Zd (Zb X4 (Z8 (Zm 4 Zp) (Zm 38 (Y0 Z1)))) (Zh X4 (Zo 400)))))) rfl hm cnt b3 lc')⟩,sk:=A.sk.at (f2 _ (by decide) (by decide)),poo:=(f2 _ (by decide) (by decide)).trans A.poo,ht:=?_,ha:=(f2 _ (by decide) (by decide)).trans A.ha,A:=fun a ha=>(A.A a ha).ext ext,lc:=lc',cnt:=(by rw [tl];exact(Ye (Zd (Zb (Z8 Z0 Z1) Za) (Zh (Z8 (Y0 Z0) Z1) (Y0 Za))) rfl cnt)),m4:=hm,fr:=fun i q=>(f2 i (by exact(Z1n (Z1a (nlt 13 120 rfl) q))) (by lia)).trans (A.fr i q)},low,S,St,Sn⟩
 ·rcases Z3w.mp ht with q|q
  ·exact⟨(A.K.tp t q).1.ext ext,(A.K.tp t q).2⟩
  ·rw [Z49.mp q];exact⟨ok,hg⟩
 ·rw [f 13 (by decide),Z4,Z3q];rfl
theorem lit_ast{x:Int}(A:Ast gs kn kvs d tops asked xs n pool m σ)(hm:m<4)(f:Fr8 σ τ)(k:ClsAt d' τ)(iv:Inv gs tops d')(ext:Ext d d')(wa:d'.wa = [])(pe:Hn gs d')(op:g∈opK d')(li:Lit d' g x)(all:0<d.w-> -g∈opK d')(le:d'.cs.length+4*d.op.length<=d.cs.length+4*d'.op.length) :
  Ast gs kn kvs d' tops (asked ++ [(g,x)]) xs n pool (m+1) (upd τ 14 (some (.list ((asked.map fun a=>J0 (askT a)) ++ [J0 [g,x]])))):=by
 have f2 : ∀ i,i≠14->i<8\/12<i->upd τ 14 (some (.list ((asked.map fun a=>J0 (askT a)) ++ [J0 [g,x]]))) i=σ i:=fun i q1 q2=>by rw [Z5 _ _ q1];exact f i q2
 have c:=A.K.c
 have cnt:=A.cnt
 have lc:=A.lc
 have b3:=(iv.bounds c).2.2.1
 have lc':d'.cs.length<=4*d'.op.length+38*tops.length:=by exact(Q6 (Zd (Zb (Z8 Z0 (Zm 4 Z1)) (Z8 Za (Zm 4 Zp))) (Zd (Zb Za (Z8 (Zm 4 Z1) (Zm 38 X4))) (Zh Z0 (Z8 (Zm 4 Zp) (Zm 38 X4))))) rfl le lc)
 refine {A with K:=⟨c,A.K.ok,A.K.hc.mono fun i q=>f2 i (by exact(Z1o (Z17 q (nlt 5 14 rfl)))) (by exact(.inl (Y2 (Zd (Zb Z0 (Zo 5)) (Zy Z0 (Zo 8))) rfl q))),(f2 _ (by decide) (by decide)).trans A.K.hm,A.K.mo,k.mono fun i q1 q2=>Z5 _ _ (by exact(Z1o (Z17 q2 (nlt 12 14 rfl)))),iv,wa,pe,fun t ht=>⟨(A.K.tp t ht).1.ext ext,(A.K.tp t ht).2⟩,by exact(Q6 (Ze 38 (Zq Z0 Xi) (Ze 38 (Zb (Z8 Z1 Za) Z0) (Ze 4 (Zb Zp (Zo 38)) (Zd (Zb X4 (Z8 (Zm 4 Zp) (Zm 38 Z1))) (Zh X4 (Zo 400)))))) rfl hm cnt b3 lc')⟩,sk:=A.sk.at (f2 _ (by decide) (by decide)),poo:=(f2 _ (by decide) (by decide)).trans A.poo,ht:=(f2 _ (by decide) (by decide)).trans A.ht,ha:=(by rw [Z4,Z3q];rfl),A:=fun a ha=>?_,lc:=lc',cnt:=(by rw [Z3b,Z3l];lia),m4:=hm,fr:=fun i q=>(f2 i (by exact(Z1n (Z1a (nlt 14 120 rfl) q))) (by lia)).trans (A.fr i q)}
 rcases Z3w.mp ha with q|q
 ·exact(A.A a q).ext ext
 ·rw [Z49.mp q];exact⟨op,li,fun q=>all (ext.w▸q)⟩
end L01
end Lay
namespace Lay
namespace L01
variable{gs:List G}{tops:List Int}{d d':Cl}{kn:List (List Int×V)}{σ τ:Hp}{kvs:List (Int×V)}{asked:List (Int×Int)}{xs pool:List Int}{n n' m:Nat}{g:Int}{cs:List (List Int)}{F:List Int}
theorem xor_f{b:Bool}(h:(b^^true)=false):b=true:=by cases b<;>first|rfl|cases h
inductive DeR(gs:List G)(kn:List (List Int×V))(kvs:List (Int×V))(d:Cl)(xs:List Int)(n:Nat)(pool:List Int)(m:Nat)(b:Bool)(g:Int)(F:List Int)(f:Fl)(s:St):Prop
 |mk (e:f = .next) (l1:s.loc 1=some (.ref 6)) (l2:s.loc 2=some (.ref 1)) (l5:s.loc 5=some (.ref 14)) (l6:s.loc 6=some (.bool b)) (l7:s.loc 7=some (.int g)) (l8:s.loc 8=some (.lst (d.cs.map J0))) (l9:s.loc 9=some (.lst ((nuK d).map .int))) (l10:s.loc 10=some (.lst (F.map .int)))
   (d':Cl) (tops':List Int) (asked':List (Int×Int)) (ext:Ext d d') (A:Ast gs kn kvs d' tops' asked' xs n pool m s.hp) (low : ∀ k∈nuK d',k∈nuK d\/k∈F)
   (top:b=true->(∀ x∈F,gs[x.natAbs]?=some .inp->x∈nuK d')/\∀ ps,gs[g.natAbs]?=some (.and ps)->(g.natAbs:Int)∈nuK d'->(g.natAbs:Int)∈nuK d)
   (lit:b=false->(∃ x as,asked'=as ++ [(g,x)])/\∀ y∈F,y∈nuK d')
inductive DedR(gs:List G)(kn:List (List Int×V))(kvs:List (Int×V))(xs:List Int)(n:Nat)(pool:List Int)(m:Nat)(v:V)(σ:Hp):Prop
 |mk (e:v = .bool true) (d:Cl) (tops:List Int) (asked:List (Int×Int)) (A:Ast gs kn kvs d tops asked xs n pool m σ)
theorem deed1_w{b:Bool}{s:St}(A:Ast gs kn kvs d tops asked xs n pool m s.hp)(hm:m<4)(hg:In gs g)(U:Under gs g F)(l1:s.loc 1=some (.ref 6))(l2:s.loc 2=some (.ref 1))(l4:s.loc 4=some (.ref 13))(l5:s.loc 5=some (.ref 14))(l6:s.loc 6=some (.bool b))(l7:s.loc 7=some (.int g))(l8:s.loc 8=some (.lst (d.cs.map J0)))(l9:s.loc 9=some (.lst ((nuK d).map .int)))(l10:s.loc 10=some (.lst (F.map .int))) :
  Wp (Z7b (X.truth (Z71 6)) (Z73 (Z7e (Z76 U9 Mk (Z71 4) (Z74 (Z71 7) Z75)))
 (Z73 (Z7e (Z76 (Y9 112 (Z5k "add_top")) (callM (Y4 180 2 W0)) (Z71 1) (Z74 (Z71 7) Z75)))
 (Y.end))) (Z73 (Z7e (Z76 U9 Mk (Z71 5) (Z74 (Z7g (Z74 (Z71 7) (Z74 (Z76 (Y9 112 (Z5k "literal_of")) (callM (Y4 200 2 Xf)) (Z71 1) (Z74 (Z71 7) Z75)) Z75))) Z75)))
 (Y.end))) s (DeR gs kn kvs d xs n pool (m+1) b g F):=by
 have l1000:1000<lim:=by decide
 have lc:=A.K.lc
 have cnt:=A.cnt
 have below:=U.below A.K.ok
 have pF : ∀ (i:Nat) ps,(i:Int)∈F->gs[i]?=some (.and ps)->∀ p∈ps,((p.natAbs:Nat):Int)∈F:=fun i ps q h p hp=>U.cl _ q ps h p hp
 refine .ite (.truth (.getL l6 (.asBool ⟨fun hb=>?_,fun hb=>?_⟩)))
 ·subst hb
  refine .seq (.expr (.meth (.getL (v:=.ref 13) l4 ⟨Xu A.ht,.cons (.getL (v:=.int g) l7 (.nil (W.app A.ht rfl (by rw [Z3g];lia) ?_)))⟩)))
  have f1 : ∀ i,i≠13->upd s.hp 13 (some (.list (tops.map .int ++ [.int g]))) i=s.hp i:=fun i q=>Z5 _ _ q
  have k1:ClsAt d (upd s.hp 13 (some (.list (tops.map .int ++ [.int g])))):=A.K.h.mono fun i _ q=>f1 i (by exact(Z1o (Y2 (Zd (Zb Z0 (Zo 12)) (Zy Z0 (Zo 13))) rfl q)))
  have c1:Yp gs kn (upd s.hp 13 (some (.list (tops.map .int ++ [.int g])))):=A.K.hc.mono fun i q=>f1 i (by exact(Z1o (Z17 q (nlt 5 13 rfl))))
  refine .seq (.expr (.meth (.getL (v:=.ref 6) l1 ⟨okK k1 (by rfl),.cons (.getL (v:=.int g) l7 (.nil (.callM ((top_ws (tops:=tops) (R:=fun i=>(i:Int)∈F) (B:=fun i=>(i:Int)∈F/\∀ ps,gs[g.natAbs]?=some (.and ps)->i≠g.natAbs) A.K.c A.K.ok k1 c1 A.K.iv ((A.fr.mono (by decide)).upd (by decide)) A.K.pe lc A.K.wa hg U.self (fun i ps q h p hp=>⟨pF i ps q h p hp,pF i ps q h p hp,fun _ _=>?_⟩) (fun i q h=>⟨q,fun ps h2 e=>?_⟩) (fun i ps q h p hp=>⟨pF i ps q.1 h p hp,fun _ _=>?_⟩)).mono ?_))))⟩)))
  ·have:=((A.K.ok.parts h).2.lt p hp).2
   have:=below _ q
   exact(Z1o (Ye (Zd (Zq Z0 Z1) (Zd (Xq Xm Qt) (Zy Z0 Za))) rfl (by assumption) this))
  ·subst e;exact nomatch Z54 (h.symm.trans h2)
  ·have:=((A.K.ok.parts h).2.lt p hp).2
   have:=below _ q.1
   exact(Z1o (Ye (Zd (Zq Z0 Z1) (Zd (Xq Xm Qt) (Zy Z0 Za))) rfl (by assumption) this))
  intro _ τ T
  obtain⟨d',ext,A',low,S,St,Sn⟩:=top_ast A hm hg T
  refine .end ⟨rfl,l1,l2,l5,l6,l7,l8,l9,l10,d',_,_,ext,A',fun k hk=>(low k hk).imp id fun q=>?_,fun _=>⟨top_inp A'.K.iv A'.K.wa A'.K.pe St Sn U,fun ps hx hk=>(low _ hk).elim id fun q=>absurd (Z6g _) (q.2 ps hx)⟩,nofun⟩
  have:=(A'.K.iv.key _ hk).1
  rw [show k=((k.natAbs:Nat):Int) by lia]
  exact q.1
 ·subst hb
  refine .seq (.expr (.meth (.getL (v:=.ref 14) l5 ⟨Xu A.ha,.cons (.tup (.cons (.getL (v:=.int g) l7 (.cons (.meth (.getL (v:=.ref 6) l1 ⟨okK A.K.h (by rfl),.cons (.getL (v:=.int g) l7 (.nil (.callM ((H3 (tops:=tops) (B:=fun i=>(i:Int)∈F) (fun i ps q h p hp=>pF i ps q h p hp) U.self A.K.c A.K.ok A.K.h A.K.hc A.K.iv (A.fr.mono (by decide)) A.K.pe (by exact(Z16 lc (nle 400 500 rfl))) A.K.wa hg).mono ?_))))⟩))))))⟩)))
  rintro _ τ ⟨d',x,rfl,f,k,iv,ext,wa,pe,op,li,all,low,le⟩
  have A':=lit_ast A hm f k iv ext wa pe op li all le
  have h14:=(f 14 (by decide)).trans A.ha
  refine .nil (.mkTup rfl (show 2<=lim by decide) (.nil (W.app h14 rfl (by rw [Z3g];exact(Xw (Ze 1001 (Zq Z0 Xi) (Ze 4 (Zq (Zo 1000) Z1) (Ze 1001 (Zb (Z8 Za Zp) Z0) (Xn 1000 (Zy Zp Z1))))) rfl hm l1000 cnt)) (.end ⟨rfl,l1,l2,l5,l6,l7,l8,l9,l10,d',_,_,ext,A',fun k hk=>(low k hk).imp id fun q=>?_,nofun,fun _=>⟨⟨x,asked,rfl⟩,lit_all iv wa pe op U⟩⟩))))
  have:=(iv.key _ hk).1
  rw [show k=((k.natAbs:Nat):Int) by lia]
  exact q
end L01
end Lay
namespace Lay
namespace L01
variable{gs:List G}{tops:List Int}{d d':Cl}{kn:List (List Int×V)}{σ τ:Hp}{kvs:List (Int×V)}{asked:List (Int×Int)}{xs pool:List Int}{n n' m:Nat}{g:Int}{cs:List (List Int)}{F:List Int}
theorem nil_eq{l:List Int}(h:l = [])(hb:(decide (l = [])^^true)=true):False:=by rw [h,decide_eq_true rfl] at hb;cases hb
theorem deed2_w{b:Bool}{loc:Nat->Option V}(iv0:Inv gs tops d)(hg:In gs g)(h:DeR gs kn kvs d xs n pool m b g F .next ⟨loc,σ⟩)(fl:F.length<=40)(U : ∀ x∈F,x.natAbs<gs.length) :
  Wp (Z73 (Z7c 11 (Z79 (callM (Y4 170 1 Y7)) (Z74 (Z71 1) Z75)))
 (Z73 (Z7c 12 (Z78 (Z00 none) (Z71 11) (Z79 T0 (Z74 (Z71 9) Z75))))
 (Z73 (Z7b ((X.or1 (Z7a (vEq true) (Z78 (Mx none) (Z77 (Yn 112 (Z5k "clauses")) (Z71 1)) (Z79 T0 (Z74 (Z71 8) Z75))) (Z71 8)) (X.or1 (Z7a (vEq true) (Z78 (Mx none) (Z71 11) (Z79 T0 (Z74 (Z71 9) Z75))) (Z71 9)) (X.or1 (Z7a (vEq true) (X.lenSet (Z71 11)) (Z79 T0 (Z74 (Z71 11) Z75))) X.or0)))) (Z73 (Z7f (pure (.bool false)))
 (Y.end)) (Y.end))
 (Z73 (Z7b (Z7a (vEq true) (X.comp none 140 23 (Z71 12) (Z7a (vIn true) (Z71 23) (Z71 10)) (Z71 23)) (Z7h none Z75)) (Z73 (Z7f (pure (.bool false)))
 (Y.end)) (Y.end))
 (Z73 (Z7b (X.truth (Z71 6)) (Z73 (Z7c 13 (X.comp none 140 24 (Z71 10) ((X.and1 (Z7a (vEq false) (Z76 (Y9 224 (Z5k "kind")) (callM (Y4 520 2 Y3)) (Z71 2) (Z74 (Z71 24) Z75)) (pure (.str (Z5k "input")))) (X.and1 (Z7a (vIn true) (Z71 24) (Z71 11)) X.and0))) (Z71 24)))
 (Z73 (Z7f (X.bAnd (Z78 (vEq false) (Z71 13) (Z7h none Z75)) (X.bOr (Z78 (vEq true) (Z76 (Y9 224 (Z5k "kind")) (callM (Y4 520 2 Y3)) (Z71 2) (Z74 (Z71 7) Z75)) (pure (.str (Z5k "and")))) (Z78 (vIn true) (Z79 Rg (Z74 (Z71 7) Z75)) (Z71 12)))))
 (Y.end))) (Y.end))
 (Z73 (Z7c 14 (Z78 Yz (Z78 Yz (Z71 5) (Z77 Fk (pure (.int 1)))) (pure (.int 1))))
 (Z73 (Z7b ((X.or1 (Z7a (vEq true) (Z78 Yz (Z71 11) (Z78 Kt (Z79 Rg (Z74 (Z71 14) Z75)) (pure (.int 1)))) (Z79 Rg (Z74 (Z71 7) Z75))) (X.or1 (Z7a (vEq true) (Z78 vGt (Z71 14) (pure (.int 0))) (Z78 vGt (Z71 7) (pure (.int 0)))) X.or0))) (Z73 (Z7f (pure (.bool false)))
 (Y.end)) (Y.end))
 (Z73 (Z7f (Z78 (vEq false) (X.comp none 140 25 (Z71 10) (Z7a (vIn true) (Z71 25) (Z71 11)) (Z71 25)) (Z7h none Z75)))
 (Y.end))))))))) ⟨loc,σ⟩ (Qk.fn 120 (DedR gs kn kvs xs n pool m)):=by
 have l1000:1000<lim:=by decide
 obtain⟨_,l1,l2,l5,l6,l7,l8,l9,l10,d',tops',asked',ext,A,low,top,lit⟩:=h
 dsimp only at l1 l2 l5 l6 l7 l8 l9 l10 A
 have lc:=A.K.lc
 have cl:d.cs.length<=d'.cs.length:=ext.cs.length_le
 obtain⟨b1,b2,b3,b4⟩:=A.K.iv.bounds A.K.c
 have lem:(d'.cs.map J0).length<=lim:=by rw [Z3g];exact(Z0y (Z1h (Z17 lc (nlt 400 1000 rfl)) l1000))
 have pr:=nuk_pre iv0 A.K.iv ext
 have nl:(nuK d').length=d'.nu.length:=Z3g ..
 have nl0:=pr.length_le
 have lm:((nuK d').map V.int).length<=lim:=by rw [Z3g];exact(Ye (Ze 19 (Zq (Zo 1000) Z0) (Ze 1001 (Zb Z1 (Zo 19)) (Ze 1001 (Zj Za Z1) (Xn 1000 (Zh Za Z0))))) rfl l1000 b1 nl)
 have ht:d'.ga.tail=nuK d':=by rw [A.K.iv.ga];rfl
 refine .seq (.assign (.call (.cons (.getL (v:=.ref 6) l1 (.nil (.callM ((V4 A.K.h (A.fr.mono (by decide)) (by exact(Z16 b2 (nle 20 1000 rfl)))).mono ?_)))))))
 rintro _ σ ⟨rfl,rfl⟩
 rw [ht]
 refine .seq (.assign (.op2 (.getL (v:=.lst ((nuK d').map .int)) rfl (.call (.cons (.getL (v:=.lst ((nuK d).map .int)) l9 (.nil (W.len (n:=(nuK d).length) Db (by exact(Xw (Ze 19 (Zq (Zo 1000) Z0) (Ze 1001 (Zb Z1 (Zo 19)) (Ze 1001 (Zj Za Z1) (Ze 1001 (Zb Zp Za) (Xn 1000 (Zh Zp Z0)))))) rfl l1000 b1 nl nl0)) (W.from J4 (Z6j _) lm (W6 _) ?_)))))))))
 rw [Z6v,<-List.map_drop]
 have frm : ∀ x∈(nuK d').drop (nuK d).length,x∈nuK d'/\x∉nuK d:=fun x hx=>Em pr A.K.iv.nd hx
 have frl:((nuK d').drop (nuK d).length).length<=(nuK d').length:=by rw [Z3d];exact(Ye (Zd (Zj (Z8 Z0 Z1) Za) (Zh Z0 Za)) rfl (Z1u (Zw (Zd (Zb Z0 Z1) (Zh Z0 Z1)) rfl nl0)))
 generalize (nuK d').drop (nuK d).length=L at frm frl
 have le8 : ∀ {loc:Nat->Option V} {τ:Hp},N7 (.lst (d.cs.map J0)) ⟨loc,τ⟩=some d.cs.length:=by intro _ _;rw [Kd J4,Z3g]
 refine .seq (.ite (.or1 (.tcmp (.op2 (.op1 (.getL (v:=.ref 6) l1 (W.kClauses A.K.h (.call (.cons (.getL (v:=.lst (d.cs.map J0)) l8 (.nil (W.len le8 (by exact(Z0y (Z1h (Z17 (Z16 cl lc) (nlt 400 1000 rfl)) l1000))) (W.upto (Jm A.K.h.cs) (Z6j _) lem (P6 _) ?_)))))))))))))
 rw [Z6v,<-Z3v,I0 ext.cs]
 refine .getL (v:=.lst (d.cs.map J0)) l8 (W.eqTs (.asBool ⟨fun w=>?_,fun _=>.or1 (.tcmp (.op2 (.getL (v:=.lst ((nuK d').map .int)) rfl (.call (.cons (.getL (v:=.lst ((nuK d).map .int)) l9 (.nil (W.len (n:=(nuK d).length) Db (by exact(Xw (Ze 19 (Zq (Zo 1000) Z0) (Ze 1001 (Zb Z1 (Zo 19)) (Ze 1001 (Zj Za Z1) (Ze 1001 (Zb Zp Za) (Xn 1000 (Zh Zp Z0)))))) rfl l1000 b1 nl nl0)) (W.upto J4 (Z6j _) lm (W6 _) ?_)))))))))⟩))
 ·rw [decide_eq_true rfl] at w;cases w
 rw [Z6v,<-Z3v,I0 pr]
 refine .getL (v:=.lst ((nuK d).map .int)) l9 (W.eqL (.asBool ⟨fun w=>?_,fun _=>.or1 (.tcmp (.bind (.getL (v:=.lst ((nuK d').map .int)) rfl (W.lenSetI A.K.iv.nd (by exact(Z16 (Z16 (Z0x nl) b1) (nle 19 300 rfl))) (.call (.cons (.getL (v:=.lst ((nuK d').map .int)) rfl (.nil (W.len (n:=(nuK d').length) Db (by exact(Ye (Ze 19 (Zq (Zo 1000) Z0) (Ze 1001 (Zb Z1 (Zo 19)) (Ze 1001 (Zj Za Z1) (Xn 1000 (Zh Za Z0))))) rfl l1000 b1 nl)) (W.eqI (.asBool ⟨fun w=>?_,fun _=>.or0 ⟨nofun,fun _=>.end ?_⟩⟩)))))))))))⟩))
 ·rw [decide_eq_true rfl] at w;cases w
 ·rw [decide_eq_true rfl] at w;cases w
 have hc:=A.K.hc
 have c20:=A.K.c
 refine atS (fun s=>s.hp=σ/\s.loc 2=some (.ref 1)/\s.loc 5=some (.ref 14)/\s.loc 6=some (.bool b)/\s.loc 7=some (.int g)/\s.loc 10=some (.lst (F.map .int))/\s.loc 11=some (.lst ((nuK d').map .int))/\s.loc 12=some (.lst (L.map .int))) ⟨rfl,l2,l5,l6,l7,l10,rfl,rfl⟩ ?_
 clear l1 l2 l5 l6 l7 l8 l9 l10 lem lm le8
 rintro⟨loc,_⟩ ⟨e,l2,l5,l6,l7,l10,l11,l12⟩
 dsimp only at e l2 l5 l6 l7 l10 l11 l12
 have e:=e.symm
 subst e
 have fin : ∀ loc,Qk.fn 120 (DedR gs kn kvs xs n pool m) (.ret (.bool true)) ⟨loc,σ⟩:=fun loc=>⟨_,_,rfl,Zs fun _=>Z7i,rfl,d',tops',asked',by rw [show cut 120 _=σ from Yg A.fr];exact A⟩
 refine .seq (.ite (.tcmp (W.filt (RS:=L) (emb:=V.int) (e:=V.int) (p:=fun x=>decide (x∈F)^^true) (v:=.lst (L.map .int)) (.getL l12 ⟨rfl,rfl⟩) rfl (fun _ _=>Vv) (fun x hx s' e1 e2 e3=>.tcmp (.getL e3 (.getL ((e2 10 (by decide)).trans l10) (W.inL (.asBool ⟨rfl,rfl⟩))))) (fun x _ _ s' e1 e2 e3=>.getL e3 ⟨rfl,rfl⟩) (fun _ _=>rfl) (by exact(Xw (Ze 20 (Zq (Zo 1000) Z0) (Ze 1001 (Zb Z1 (Zo 19)) (Ze 1001 (Zj Za Z1) (Ze 1001 (Zb Zp Za) (Xn 1000 (Zy Zp Z0)))))) rfl l1000 b1 nl frl)) fun s' e1 e2=>?_)))
 have none1:L.filter (fun x=>decide (x∈F)^^true) = []:=List.filter_eq_nil_iff.mpr fun x hx=>by
  have:=(low x (frm x hx).1).resolve_left (frm x hx).2
  rw [decide_eq_true this];exact Z5t
 refine .list (.nil (.mkLst rfl (Z25 _) (W.eqL (x:=L.filter fun x=>decide (x∈F)^^true) (y := []) (.asBool ⟨fun hb=>(nil_eq none1 hb).elim,fun _=>.end ?_⟩))))
 obtain⟨loc2,_⟩:=s'
 dsimp only at e1 e2
 have e1:=e1.symm
 subst e1
 have l2:loc2 2=some (.ref 1):=(e2 2 (by decide)).trans l2
 have l5:loc2 5=some (.ref 14):=(e2 5 (by decide)).trans l5
 have l6:loc2 6=some (.bool b):=(e2 6 (by decide)).trans l6
 have l7:loc2 7=some (.int g):=(e2 7 (by decide)).trans l7
 have l10:loc2 10=some (.lst (F.map .int)):=(e2 10 (by decide)).trans l10
 have l11:loc2 11=some (.lst ((nuK d').map .int)):=(e2 11 (by decide)).trans l11
 have l12:loc2 12=some (.lst (L.map .int)):=(e2 12 (by decide)).trans l12
 clear e2
 refine .seq (.ite (.truth (.getL l6 (.asBool ⟨fun hb=>?_,fun hb=>.end ?_⟩))))
 ·obtain⟨top1,top2⟩:=top hb
  have hyp : ∀ x∈F,∃ y,gs[x.natAbs]?=some y:=fun x hx=>⟨_,Z2v (U x hx)⟩
  refine .seq (.assign (W.filt (RS:=F) (emb:=V.int) (e:=V.int) (p:=fun x=>Ka gs x&&(decide (x∈nuK d')^^true)) (v:=.lst (F.map .int)) (.getL l10 ⟨rfl,rfl⟩) rfl (fun _ _=>Vv) (fun x hx s' e1 e2 e3=>?_) (fun x _ _ s' e1 e2 e3=>.getL e3 ⟨rfl,rfl⟩) (fun _ _=>rfl) (by exact(Z1h (Z17 fl (nlt 40 1000 rfl)) l1000)) fun s' e1 e2=>?_))
  ·obtain⟨y,hy⟩:=hyp x hx
   have ei:Ka gs x=(y.kind==Z5k "input"):=by unfold Ka;rw [hy];rfl
   obtain⟨loc3,_⟩:=s'
   dsimp only at e1 e2 e3
   have e1:=e1.symm
   subst e1
   refine .and1 (.tcmp (.meth (.getL (v:=.ref 1) ((e2 2 (by decide)).trans l2) ⟨okC hc (by rfl),.cons (.getL (v:=.int x) e3 (.nil (.callM ((Qd (g:=x) hc hy (by exact(Z16 c20 (nle 20 1000 rfl))) (A.fr.mono (by decide))).mono ?_))))⟩)))
   rintro _ σ ⟨rfl,rfl⟩
   rw [ei]
   refine .pure (W.eqS (Zv y) (Zv .inp) (.asBool ⟨fun hb2=>.and1 (.tcmp (.getL e3 (.getL ((e2 11 (by decide)).trans l11) (W.inL (.asBool ⟨fun hb3=>.and0 ⟨?_,rfl⟩,fun hb3=>⟨?_,rfl⟩⟩))))),fun hb2=>⟨?_,rfl⟩⟩))
   ·rw [Z5z] at hb2;rw [show (y.kind==Z5k "input")=true from hb2,hb3];rfl
   ·rw [hb3,Bool.and_false]
   ·rw [Z5z] at hb2;rw [show (y.kind==Z5k "input")=false from hb2];rfl
  have none2:F.filter (fun x=>Ka gs x&&(decide (x∈nuK d')^^true)) = []:=List.filter_eq_nil_iff.mpr fun x hx q=>by
   obtain⟨y,hy⟩:=hyp x hx
   rw [Z5q] at q
   have ei:(y.kind==Z5k "input")=true:=by have:=q.1;unfold Ka at this;rw [hy] at this;exact this
   obtain rfl:y = .inp:=(G.kind_eq (y:=.inp) ei).elim id fun⟨_,_,_,q⟩=>nomatch q
   have:=q.2
   rw [decide_eq_true (top1 x hx hy)] at this
   cases this
  obtain⟨loc3,_⟩:=s'
  dsimp only at e1 e2
  have e1:=e1.symm
  subst e1
  have l2:loc3 2=some (.ref 1):=(e2 2 (by decide)).trans l2
  have l7:loc3 7=some (.int g):=(e2 7 (by decide)).trans l7
  have l12:loc3 12=some (.lst (L.map .int)):=(e2 12 (by decide)).trans l12
  clear e2
  rw [none2]
  have hx:gs[g.natAbs]?=some gs[g.natAbs]:=Z2v hg.2
  generalize gs[g.natAbs]=x at hx
  refine .seq (.ret (.bAnd (.op2 (.getL (v:=.lst (([]:List Int).map .int)) rfl (.list (.nil (.mkLst rfl (Z25 _) (W.eqL (x := []) (y := []) ⟨rfl,.bOr (.op2 (.meth (.getL (v:=.ref 1) l2 ⟨okC hc (by rfl),.cons (.getL (v:=.int g) l7 (.nil (.callM ((Qd (g:=g) (x:=x) hc hx (by exact(Z16 c20 (nle 20 1000 rfl))) (A.fr.mono (by decide))).mono ?_))))⟩)))⟩))))))))
  rintro _ σ ⟨rfl,rfl⟩
  refine .pure (W.eqS (Zv x) (Zv (.and [])) ⟨_,rfl,fun _=>fin _,fun w=>.op2 (.call (.cons (.getL (v:=.int g) l7 (.nil (W.abs (.getL (v:=.lst (L.map .int)) l12 (W.inL ?_)))))))⟩)
  have w:(x.kind==(G.and []).kind)=true:=xor_f w
  obtain⟨ps,rfl⟩ : ∃ ps,x = .and ps:=by rcases G.kind_eq (y:=.and []) w with q|⟨ps,_,q,_⟩<;>exact⟨_,q⟩
  rw [decide_eq_false fun q=>(frm _ q).2 (top2 ps hx (frm _ q).1)]
  exact fin _
 ·obtain⟨⟨x,as,has⟩,all⟩:=lit hb
  have Ax:=A.A (g,x) (by rw [has];exact Z3y _ (Z49.mpr rfl))
  obtain⟨q,q1,q2⟩:=Ax.li
  obtain⟨q3,q4⟩:=A.K.iv.num _ _ q1
  have q5:=F3 q2
  dsimp only at q1 q2 q4 q5
  obtain⟨q,rfl⟩ : ∃ k,q=k+1:=⟨q-1,by lia⟩
  rw [A.K.iv.ga,Z2t] at q4
  have q6:=(Z2y.mp q4).1
  have q7:((nuK d').map V.int)[((x.natAbs:Int)-1).toNat]?=some (.int g.natAbs):=by rw [show ((x.natAbs:Int)-1).toNat=q by exact(Ye (Zd (Zj Z0 (Y0 Z1)) (Zd (Yr Qt (Yl Zu Xx)) (J9 Za Z1))) rfl q5 (Z6w (Zw (Ze (-1) (Zj Z0 (Y0 Z1)) (Yv X0 (Yl Zu Xx))) rfl q5))),Z30,q4];rfl
  have al:asked'.length<=4:=by have:=A.cnt;have:=A.m4;exact(Ye (Zd (Zb (Z8 Z0 Z1) Za) (Zd (Zb Za Xi) (Zh Z1 Xi))) rfl (by assumption) this)
  refine .seq (.assign (.op2 (.op2 (.getL (v:=.ref 14) l5 (.op1 (.pure (W.neg (W.lastL (u:=J0 [g,x]) (Jm A.ha) (by rw [Z3g];lia) (by rw [has,Z3q];exact Z38) (.pure (W.itemT (xs := [V.int g,.int x]) (u:=.int x) (by decide) (by decide) rfl ?_))))))))))
  refine .seq (.ite (.or1 (.tcmp (.op2 (.getL (v:=.lst ((nuK d').map .int)) l11 (.op2 (.call (.cons (.getL (v:=.int x) rfl (.nil (W.abs (.pure (W.sub (W.itemL (u:=.int g.natAbs) J4 (by exact(Zw (Ze (-1) (Zj Z0 (Y0 Z1)) (Yv X0 (Yl Zu Xx))) rfl q5)) (by exact(Xw (Zd (Zb Z0 (Zo 19)) (Zd (Zj Z1 Z0) (Zd (Zj Za (Y0 Zp)) (Zd (Zq Zp Z1) (J6 (Yl Qt Xx) (Vt 2 40)))))) rfl b1 nl q5 q6)) q7 (.call (.cons (.getL (v:=.int g) l7 (.nil (W.abs (W.eqI (.asBool ⟨fun w=>?_,fun _=>.or1 (.tcmp (.op2 (.getL (v:=.int x) rfl (.pure (W.gt (.op2 (.getL (v:=.int g) l7 (.pure (W.gt (W.eqB (.asBool ⟨fun w=>?_,fun _=>.or0 ⟨nofun,fun _=>.end ?_⟩⟩)))))))))))⟩)))))))))))))))))))))
  ·rw [decide_eq_true rfl] at w;cases w
  ·have:decide (0<x)=decide (0<g):=by rw [decide_eq_decide,q2];split<;>omega
   rw [this,beq_self_eq_true] at w;cases w
  refine .seq (.ret (.op2 (W.filt (RS:=F) (emb:=V.int) (e:=V.int) (p:=fun x=>decide (x∈nuK d')^^true) (v:=.lst (F.map .int)) (.getL l10 ⟨rfl,rfl⟩) rfl (fun _ _=>Vv) (fun x hx s' e1 e2 e3=>.tcmp (.getL e3 (.getL ((e2 11 (by decide)).trans l11) (W.inL (.asBool ⟨rfl,rfl⟩))))) (fun x _ _ s' e1 e2 e3=>.getL e3 ⟨rfl,rfl⟩) (fun _ _=>rfl) (by exact(Z1h (Z17 fl (nlt 40 1000 rfl)) l1000)) fun s' e1 e2=>?_)))
  have none3:F.filter (fun x=>decide (x∈nuK d')^^true) = []:=List.filter_eq_nil_iff.mpr fun x hx=>by
   rw [decide_eq_true (all x hx)];exact Z5t
  rw [none3]
  obtain⟨loc3,_⟩:=s'
  have e1:=e1.symm
  dsimp only at e1
  subst e1
  exact .list (.nil (.mkLst rfl (Z25 _) (W.eqL (x := []) (y := []) (fin _))))
end L01
end Lay
namespace Lay
namespace L01
variable{gs:List G}{tops:List Int}{d d':Cl}{kn:List (List Int×V)}{σ τ:Hp}{kvs:List (Int×V)}{asked:List (Int×Int)}{xs pool:List Int}{n n' m:Nat}{g:Int}{cs:List (List Int)}{F:List Int}
theorem Aq(pl:pool.length<=50)(hl:n+3<2^38)(h1:Sack xs (n+1) σ)(h2:Free 120 σ)(h3:xs.length<=60):Ws (Y4 570 2 Jj) [.ref 101,.lst ([V.int 1]++pool.map .int)] σ (fun u σ' => ∃ g p,u = .int g/\p∈1::pool/\g.natAbs=p.natAbs/\Sack xs (n+3) σ'/\FrS σ σ'):=by
 have a1:n+1+2<2^39:=by exact(Y2 (Zd (Zq (Z8 Z0 Pu) (Zo (2^38))) (Zy (Z8 (Y0 Z0) Ys) (Zo (2^39)))) rfl hl)
 have a2 : ∀ s:St,FrS σ s.hp->Wv (.lst ([V.int 1]++pool.map .int)) s=some ((1::pool).map V.int):=fun s _=>J4
 have a3:0<(1::pool).length:=Z21 _
 have a4:(1::pool).length<=60:=by rw [Z3c];exact(Y2 (Zd (Zb Z0 (Zo 50)) (Zh (Y0 Z0) (Zo 60))) rfl pl)
 have a5:Free 570 σ:=h2.mono (by decide)
 exact Dw h1 a1 h3 a2 a3 a4 a5
theorem deed_ws(A:Ast gs kn kvs d tops asked xs n pool m σ)(hm:m<4)(hl:n+3<2^38) :
  Ws (Y4 120 6 W1) [.ref 101,.ref 6,.ref 1,.ref 15,.ref 13,.ref 14] σ (DedR gs kn kvs xs (n+3) pool (m+1)):=by
 have l1000:1000<lim:=by decide
 have pl:=A.pl
 have l2:=A.K.ok.len
 refine Ws.fn rfl ?_
 unfold W1
 refine .seq (.assignSwap (.cons (.op2 (.call (.cons (.getL (v:=.ref 101) rfl (.cons (.pure (.nil (.callM ((Kg A.sk (by have:=A.nl;lia) A.xl (show (0:Int)<3 by decide) (A.fr.mono (by decide))).mono ?_)))))))))))
 rintro _ σ1 ⟨r1,rfl,_,_,c1,f1⟩
 have A1:=A.sip c1 f1 (by lia)
 refine .pure (W.eqI (.cons (.call (.cons (.getL (v:=.ref 101) rfl (.cons (.op2 (.list (.cons (.pure (.nil (.mkLst rfl (show 1<=lim by decide) (.getL (v:=.ref 15) rfl (W.addL (x := [.int 1]) (y:=pool.map .int) (Yc fun _=>Z7i) J4 (Jm A1.poo) (W6 (1::pool)) (by rw [Z3b,Z3g];show 1+_<=_;exact(Zw (Ze 51 (Zq (Zo 1000) Z0) (Ze 1001 (Zb Z1 (Zo 50)) (Xn 1000 (Zh (Z8 Yi Z1) Z0)))) rfl l1000 pl)) (.nil (.callM ((Aq pl hl A1.sk A1.fr A1.xl).mono ?_)))))))))))))))))
 rintro _ σ2 ⟨g,p,rfl,hp,gp,c2,f2⟩
 have A2:=A1.sip c2 f2 (by omega)
 have hg:In gs g:=by
  unfold In
  rw [gp]
  rcases Z3z.mp hp with rfl|q
  ·exact⟨by decide,by show 1<_;exact(Z1a (nlt 1 2 rfl) l2)⟩
  ·exact A.hp p q
 refine .nil ⟨show 2<=100 by decide,.sets1 (.sets1 (.sets0 ?_))⟩
 generalize (decide (r1=1)^^false)=b
 have b2:=A2.K.iv.bounds A2.K.c
 refine .seq (.assignDisp (.cons (.call (.cons (.op1 (.getL (v:=.ref 6) rfl (W.kClauses A2.K.h (.nil (W.list (Lf (Yc fun _=>Z7i) (Jm A2.K.h.cs)) (P6 _) (by have:=A2.K.lc;rw [Z3g];exact(Z0y (Z1h (Z17 this (nlt 400 1000 rfl)) l1000))) (.cons (.call (.cons (.getL (v:=.ref 6) rfl (.nil (.callM ((V4 A2.K.h (A2.fr.mono (by decide)) (by exact(Z16 b2.2.1 (nle 20 1000 rfl)))).mono ?_))))))))))))))))
 rintro _ σ ⟨rfl,rfl⟩
 rw [show d.ga.tail=nuK d by rw [A2.K.iv.ga];rfl]
 refine .cons (.call (.cons (.getL (v:=.ref 1) rfl (.cons (.getL (v:=.int g) rfl (.nil (.callM ((Az (g:=g) A2.K.hc A2.K.ok (by have:=A2.K.c;exact(Z16 this (nle 20 40 rfl))) (A2.fr.mono (by decide)) hg).mono ?_))))))))
 rintro _ σ ⟨rfl,F,rfl,U⟩
 refine .nil ⟨show 3<=100 by decide,.sets1 (.sets1 (.sets1 (.sets0 ?_)))⟩
 refine .seq ((deed1_w (b:=b) A2 hm hg U rfl rfl rfl rfl rfl rfl rfl rfl rfl).mono ?_)
 rintro f ⟨loc,σ3⟩ D
 obtain rfl:f = .next:=by obtain⟨e⟩:=D;exact e
 exact deed2_w A2.K.iv hg D (Z16 U.len (by have:=A2.K.c;exact(Z16 this (nle 20 40 rfl)))) fun x hx=>(U.pos x hx).2
end L01
end Lay
namespace Lay
theorem Wp.newM{n d:Nat}{Cl:Addr}{fm:FM}{vs:List V}{s:St}{Q:V->St->Prop}(h1:s.hp d=none)(h2:upd s.hp d (some (.attrs [])) n=none)(h:Ws fm (.ref n::vs) (upd (upd s.hp d (some (.attrs []))) n (some (.inst Cl d))) (fun r σ'=>r = .none/\Q (.ref n) {s with hp:=σ'})):Wp (newM n d Cl fm vs) s Q:=by
 obtain⟨_,σ',h3,rfl,h4⟩:=h
 exact⟨_,_,R.bind (R.new h1) (R.bind (R.new h2) (R.bind (R.callM h3) (R.bind (R.guard (b:=true) rfl) R.pure))),h4⟩
theorem W.mkDict{K:Type} [DecidableEq K]{key:V->Option K}{mk:List (K×V)->O}{n:Nat}{vs:List (V×V)}{kvs:List (K×V)}{s:St}{Q:V->St->Prop}(h:F6 key vs=some kvs)(hn:s.hp n=none)(k:Q (.ref n) {s with hp:=upd s.hp n (some (mk (Ek kvs)))}):Wp (mkDict key mk n vs) s Q :=
 ⟨_,_,bs h (R.new hn),k⟩
theorem F7{K:Type}{key:V->Option K}{k v:V}{x:K}{r:List (V×V)}{r':List (K×V)}(h1:key k=some x)(h2:v.low=true)(h3:F6 key r=some r'):F6 key ((k,v)::r)=some ((x,v)::r'):=bs h1 ((if_pos h2).trans (bs h3 rfl))
theorem Wp.dictI{n:Nat}{m:M (List (V×V))}{s:St}{Q:V->St->Prop}(h:Wp m s (fun vs s1=>Wp (mkDict Ev .idict n vs) s1 Q)):Wp (X.dictI n m) s Q:=.bind h
theorem atH{P:Hp->Prop}{σ:Hp}(Q:Hp->Prop)(h:Q σ)(k : ∀ σ,Q σ->P σ):P σ:=k σ h
namespace L01
variable{gs t:List G}{tops:List Int}{d:Cl}{kn kn':List (List Int×V)}{σ τ:Hp}{kvs kvs':List (Int×V)}{asked:List (Int×Int)}{xs pool:List Int}{g:Int}{n n' m:Nat}
theorem Cq(h1:σ 1=some (.inst 224 2))(h2:σ 2=some (.attrs []))(h3 : ∀ n,3<=n->n<=5->σ n=none)(hn:Free 560 σ) :
  Ws (Y4 560 1 Jg) [.ref 1] σ (fun u σ'=>u = .none/\Yp [.non,.tru] [] σ'/\∀ n,5<n->σ' n=σ n):=by
 refine Ws.fn rfl ?_
 unfold Jg
 refine .seq (.assignAttr (.list (.cons (.pure (.cons (.pure (.nil (.mkLstS rfl (show 2<=lim by decide) (h3 3 (by decide) (by decide)) (.getL (v:=.ref 1) rfl (W.setA (d:=2) h1 h2 rfl (by decide) ?_))))))))))
 rw [Jb (by simp)]
 refine .seq (.assignAttr (.list (.cons (.tup (.nil (.mkTup rfl (Z25 _) (.cons (.tup (.nil (.mkTup rfl (Z25 _) (.nil (.mkLstS rfl (show 2<=lim by decide) (h3 4 (by decide) (by decide)) (.getL (v:=.ref 1) rfl (W.setA (d:=2) h1 rfl rfl (show 1<1000 by decide) ?_))))))))))))))
 rw [Jb (by simp only [Z4c,Z3s,Z3u];decide)]
 refine .seq (.assignAttr (.new (h3 5 (by decide) (by decide)) (.getL (v:=.ref 1) rfl (W.setA (d:=2) h1 rfl rfl (show 2<1000 by decide) ?_))))
 rw [Jb (by simp only [Z4c,Z2b,Z3s,Z3u];decide)]
 refine .end ⟨_,_,rfl,Zs fun _=>Z7i,rfl,?_⟩
 refine atH (P:=fun τ=>Yp [.non,.tru] [] (cut 560 τ)/\∀ n,5<n->cut 560 τ n=σ n) (fun τ=>Yp [.non,.tru] [] τ/\∀ n,5<n->τ n=σ n) ⟨⟨h1,rfl,rfl,rfl,rfl⟩,fun n q=>?_⟩ fun τ h=>?_
 ·simp only [Z5 _ _ (show n≠2 by exact(Z1n (Z1h (nlt 2 5 rfl) q))),Z5 _ _ (show n≠3 by exact(Z1n (Z1h (nlt 3 5 rfl) q))),Z5 _ _ (show n≠4 by exact(Z1n (Z1h (nlt 4 5 rfl) q))),Z5 _ _ (show n≠5 by exact(Z1n q))]
 ·rw [Yg fun n q=>(h.2 n (by exact(Z1a (nlt 5 560 rfl) q))).trans (hn n q)];exact h
noncomputable abbrev base:List G := [.non,.tru]
theorem base_ok:COk base []:=by
 refine⟨by decide,fun i x h=>?_,(fun _ _ q=>nomatch q),Z25 _⟩
 have hl:=(Z2y.mp h).1
 have:i=0\/i=1:=by
  have:base.length=2:=rfl
  lia
 rcases this with rfl|rfl<;>obtain rfl:=Z54 h
 ·exact .non rfl
 ·exact .tru rfl
noncomputable abbrev mk1:List (Int×V) := [(1,.int 65535)]
theorem mk1_ok:MkOk base mk1:=by
 refine⟨rfl,fun i h1 h2=>?_⟩
 obtain rfl:i=1:=by
  have:base.length=2:=rfl
  exact(Z0v (Zw (Zd (Zq Z0 Z1) (Zd (Zj Z1 Ys) (Zh Z0 Yi))) rfl h2 this) (Y2 (Zd (Zb Yi Z0) (Zh Yi Z0)) rfl h1))
 refine⟨65535,rfl,msk_all.iff fun r _=>iff_of_true trivial ?_⟩
 rw [Nx (row mk1 r) (gs:=base) (i:=1) (x:=.tru) rfl];rfl
theorem E4:Pa base=0:=by decide
structure Gst(gs:List G)(kn:List (List Int×V))(kvs:List (Int×V))(xs:List Int)(n:Nat)(pool:List Int)(σ:Hp):Prop where
 ok:COk gs kn
 hc:Yp gs kn σ
 hm:σ 100=some (.idict kvs)
 mo:MkOk gs kvs
 sk:Sack xs n σ
 poo:σ 15=some (.list (pool.map .int))
 hp : ∀ p∈pool,In gs p
 ht:σ 13=some (.list [])
 ha:σ 14=some (.list [])
 fr : ∀ m,5<m->m≠13->m≠14->m≠15->m≠100->m≠101->σ m=none
theorem Gst.sip(S:Gst gs kn kvs xs n pool σ)(c:Sack xs n' τ)(f:FrS σ τ):Gst gs kn kvs xs n' pool τ :=
 ⟨S.ok,S.hc.mono fun i q=>f i (by exact(Z1o (Z17 q (nlt 5 101 rfl)))),(f _ (by decide)).trans S.hm,S.mo,c,(f _ (by decide)).trans S.poo,S.hp,(f _ (by decide)).trans S.ht,(f _ (by decide)).trans S.ha,fun m q1 q2 q3 q4 q5 q6=>(f m q6).trans (S.fr m q1 q2 q3 q4 q5 q6)⟩
theorem Nc(l:1<=gs.length)(tl:t.length<=1)(ti : ∀ x∈t,∃ ps,x = .and ps):Pa (gs++t)=Pa gs:=by
 match t,tl,ti with
 | [],_,_=>rw [Z29]
 | [x],_,ti=>obtain⟨ps,rfl⟩:=ti x (Z49.mpr rfl);exact Ae l
 |_::_::_,tl,_=>exact absurd tl (by simp)
theorem Gst.gate(S:Gst gs kn kvs xs n pool σ)(h:GtR gs xs n' pool σ τ) : ∃ t kn' kvs' g,t.length<=1/\(∀ x∈t,∃ ps,x = .and ps)/\Gst (gs++t) kn' kvs' xs n' (pool ++ [g]) τ:=by
 obtain⟨t,kn',kvs',g,tl,ti,ok,hc,hm,mo,sk,po,ig,fr⟩:=h
 refine⟨t,kn',kvs',g,tl,ti,ok,hc,hm,mo,sk,po,fun p hp=>?_,(fr _ (by decide) (by decide) (by decide) (by decide) (by decide) (by decide)).trans S.ht,(fr _ (by decide) (by decide) (by decide) (by decide) (by decide) (by decide)).trans S.ha,fun m q1 q2 q3 q4 q5 q6=>(fr m (by exact(Z1n (Z1h (nlt 3 5 rfl) q1))) (by exact(Z1n (Z1h (nlt 4 5 rfl) q1))) (by exact(Z1n q1)) q4 q5 q6).trans (S.fr m q1 q2 q3 q4 q5 q6)⟩
 rcases Z3w.mp hp with q|q
 ·exact(S.hp p q).app
 ·rw [Z49.mp q];exact ig
theorem Z0c{x:G}(ok:COk gs kn):In (gs ++ [x]) (gs.length:Int):=by
 have:=ok.len
 refine⟨by exact(Y2 (Zd (Zb Ys Z0) (Xn 1 (Zh Yi Z0))) rfl this),?_⟩
 rw [Z3b,Z6g];exact Z1g _
theorem Gst.inp(S:Gst gs kn kvs xs n pool σ)(h:InR gs kn pool σ τ) : ∃ kvs',Gst (gs ++ [.inp]) kn kvs' xs n (pool ++ [(gs.length:Int)]) τ:=by
 obtain⟨kvs',ok,hc,hm,mo,po,fr⟩:=h
 refine⟨kvs',ok,hc,hm,mo,S.sk.at (fr _ (by decide) (by decide) (by decide) (by decide) (by decide)),po,fun p hp=>?_,(fr _ (by decide) (by decide) (by decide) (by decide) (by decide)).trans S.ht,(fr _ (by decide) (by decide) (by decide) (by decide) (by decide)).trans S.ha,fun m q1 q2 q3 q4 q5 q6=>(fr m (by exact(Z1n (Z1h (nlt 3 5 rfl) q1))) (by exact(Z1n (Z1h (nlt 4 5 rfl) q1))) (by exact(Z1n q1)) q4 q5).trans (S.fr m q1 q2 q3 q4 q5 q6)⟩
 rcases Z3w.mp hp with q|q
 ·exact(S.hp p q).app
 ·rw [Z49.mp q];exact Z0c S.ok
theorem Done.app{s:Int}(iv:Inv gs tops d)(hs:s∈opK d)(h:Done gs d s):Done (gs++t) d s:=fun x hx=>h x (by
 obtain⟨h1,h2⟩:=iv.opk s hs
 have:=iv.key _ h2
 rwa [Z2r (by exact(Zw (Zd (Xp Zu Xm) (Zy Z0 Z1)) rfl this.2))] at hx)
theorem Ast.gate(A:Ast gs kn kvs d tops asked xs n pool m σ)(h:GtR gs xs n' pool σ τ)(hl:gs.length<=19)(pl:pool.length<=49)(nl:n'<2^38) : ∃ t kn' kvs' g,t.length<=1/\(∀ x∈t,∃ ps,x = .and ps)/\Ast (gs++t) kn' kvs' d tops asked xs n' (pool ++ [g]) m τ:=by
 obtain⟨t,kn',kvs',g,tl,ti,ok,hc,hm,mo,sk,po,ig,fr⟩:=h
 have f : ∀ i,5<i->i<15\/101<i->τ i=σ i:=fun i q1 q2=>fr i (by exact(Z1n (Z1h (nlt 3 5 rfl) q1))) (by exact(Z1n (Z1h (nlt 4 5 rfl) q1))) (by exact(Z1n q1)) (by lia) (by omega) (by lia)
 refine⟨t,kn',kvs',g,tl,ti,⟨by rw [Z3b];lia,ok,hc,hm,mo,A.K.h.mono fun i q1 q2=>f i (by exact(Z1a (nlt 5 6 rfl) q1)) (by lia),A.K.iv.app t,A.K.wa,fun s q=>(A.K.pe s q).app A.K.iv q.1,fun t ht=>⟨(A.K.tp t ht).1.app,(A.K.tp t ht).2.app⟩,A.K.lc⟩,sk,A.xl,nl,po,by rw [Z3b,Z3l];lia,by rw [Z3b,Z3l];exact(Y2 (Zd (Zb Z0 (Zo 49)) (Zh (Y0 Z0) (Zo 50))) rfl pl),fun p hp=>?_,(f _ (by decide) (by decide)).trans A.ht,(f _ (by decide) (by decide)).trans A.ha,A.A,A.lc,A.cnt,A.m4,fun i q=>(f i (by exact(Z1a (nlt 5 120 rfl) q)) (by lia)).trans (A.fr i q)⟩
 rcases Z3w.mp hp with q|q
 ·exact(A.hp p q).app
 ·rw [Z49.mp q];exact ig
theorem Ast.inp(A:Ast gs kn kvs d tops asked xs n pool m σ)(h:InR gs kn pool σ τ)(hl:gs.length<=19)(pl:pool.length<=49) : ∃ kvs',Ast (gs ++ [.inp]) kn kvs' d tops asked xs n (pool ++ [(gs.length:Int)]) m τ:=by
 obtain⟨kvs',ok,hc,hm,mo,po,fr⟩:=h
 have f : ∀ i,5<i->i<15\/100<i->τ i=σ i:=fun i q1 q2=>fr i (by exact(Z1n (Z1h (nlt 3 5 rfl) q1))) (by exact(Z1n (Z1h (nlt 4 5 rfl) q1))) (by exact(Z1n q1)) (by lia) (by lia)
 refine⟨kvs',⟨by rw [Z3b,Z3l];lia,ok,hc,hm,mo,A.K.h.mono fun i q1 q2=>f i (by exact(Z1a (nlt 5 6 rfl) q1)) (by lia),A.K.iv.app _,A.K.wa,fun s q=>(A.K.pe s q).app A.K.iv q.1,fun t ht=>⟨(A.K.tp t ht).1.app,(A.K.tp t ht).2.app⟩,A.K.lc⟩,A.sk.at (f _ (by decide) (by decide)),A.xl,A.nl,po,by rw [Z3b,Z3l];lia,by rw [Z3b,Z3l];exact(Y2 (Zd (Zb Z0 (Zo 49)) (Zh (Y0 Z0) (Zo 50))) rfl pl),fun p hp=>?_,(f _ (by decide) (by decide)).trans A.ht,(f _ (by decide) (by decide)).trans A.ha,A.A,A.lc,A.cnt,A.m4,fun i q=>(f i (by exact(Z1a (nlt 5 120 rfl) q)) (by exact(.inr (Y2 (Ze 101 (Zb (Zo 120) Z0) (Xn 119 (Zy (Zo 100) Z0))) rfl q)))).trans (A.fr i q)⟩
 rcases Z3w.mp hp with q|q
 ·exact(A.hp p q).app
 ·rw [Z49.mp q];exact Z0c A.K.ok
theorem Ast.zero{w:Int}(S:Gst gs kn kvs xs n pool σ)(c:gs.length<=20)(l4:4<=gs.length)(xl:xs.length<=60)(nl:n<2^38)(p0:0<pool.length)(pl:pool.length<=50)(e : ∀ i,i<6\/12<i->τ i=σ i)(h:ClsAt (Cin w 2) τ):Ast gs kn kvs (Cin w 2) [] [] xs n pool 0 τ:=by
 have fr:Free 120 τ:=fun i q=>(e i (.inr (by exact(Z1a (nlt 12 120 rfl) q)))).trans (S.fr i (by exact(Z1a (nlt 5 120 rfl) q)) (by exact(Z1n (Z1a (nlt 13 120 rfl) q))) (by exact(Z1n (Z1a (nlt 14 120 rfl) q))) (by exact(Z1n (Z1a (nlt 15 120 rfl) q))) (by exact(Z1n (Z1a (nlt 100 120 rfl) q))) (by exact(Z1n (Z1a (nlt 101 120 rfl) q))))
 exact⟨⟨c,S.ok,S.hc.mono fun i q=>e i (.inl (by exact(Z17 q (nlt 5 6 rfl)))),(e _ (.inr (by decide))).trans S.hm,S.mo,h,Ey l4 (Z12 _),rfl,(fun s q=>nomatch q.1),(fun _ q=>nomatch q),Z25 _⟩,S.sk.at (e _ (.inr (by decide))),xl,nl,(e _ (.inr (by decide))).trans S.poo,p0,pl,S.hp,(e _ (.inr (by decide))).trans S.ht,(e _ (.inr (by decide))).trans S.ha,(fun _ q=>nomatch q),Z25 _,Z25 _,Z25 _,fr⟩
end L01
end Lay
namespace Lay
theorem W.eqRT{neg:Bool}{n:Nat}{x y:List (List Int)}{s:St}{Q:V->St->Prop}(h:s.hp n=some (.list (x.map J0)))(k:Q (.bool (decide (x=y)^^neg)) s):Wp (vEq neg (.ref n) (.lst (y.map J0))) s Q :=
 W.eqv ((Lg h).trans (congrArg (Z4z PyData.list) (I2 x))) (B8 y) (Ut x) (Ut y) (by rw [show PyData.eqv (.list _) (.list _)=_ from Lj x y];exact k)
namespace L01
variable{gs t:List G}{tops:List Int}{d:Cl}{kn kn':List (List Int×V)}{σ τ:Hp}{kvs kvs':List (Int×V)}{asked:List (Int×Int)}{xs pool:List Int}{g w r:Int}{n n' m i a b c:Nat}
structure Lc(w:Int)(s:St):Prop where
 l1:s.loc 1=some (.ref 101)
 l2:s.loc 2=some (.ref 1)
 l3:s.loc 3=some (.ref 100)
 l4:s.loc 4=some (.int w)
 l5:s.loc 5=some (.ref 15)
 l6:s.loc 6=some (.ref 13)
 l7:s.loc 7=some (.ref 14)
theorem Pw{s:St}{Q:Bool->St->Prop}(l:Lc w s)(hc:Yp gs kn s.hp)(ok:COk gs kn)(hl:gs.length<=800)(hm:s.hp 100=some (.idict kvs))(mo:MkOk gs kvs)(sk:Sack xs n s.hp)(hx:xs.length<=60)(hpo:s.hp 15=some (.list (pool.map .int)))(p0:0<pool.length)(pl:pool.length<=60)(hp : ∀ p∈pool,In gs p)(hn:Free 160 s.hp)(hl2:n+9<2^39)
  (k : ∀ τ,GtR gs xs (n+9) pool s.hp τ->Q false {s with hp:=τ}):Wp (X.tnot (X.truth (Z79 (callM (Y4 160 4 Wx)) (Z74 (Z71 1) (Z74 (Z71 2) (Z74 (Z71 5) (Z74 (Z71 3) Z75))))))) s Q:=by
 refine .tnot (.truth (.call (.cons (.getL l.l1 (.cons (.getL l.l2 (.cons (.getL l.l5 (.cons (.getL l.l3 (.nil (.callM ((gate_ws hc ok hl hm mo sk hx hpo p0 pl hp hn hl2).mono ?_)))))))))))))
 rintro _ τ ⟨rfl,h⟩
 exact .asBool (k τ h)
theorem Tm{s:St}{Q:Fl->St->Prop}(l:Lc w s)(hc:Yp gs kn s.hp)(ok:COk gs kn)(hl:gs.length<=800)(hm:s.hp 100=some (.idict kvs))(mo:MkOk gs kvs)(hpo:s.hp 15=some (.list (pool.map .int)))(pl:pool.length<=60)(hn:Free 380 s.hp)(h3:Pa gs<=3)
  (k : ∀ τ,InR gs kn pool s.hp τ->Q .next {s with hp:=τ}):Wp (Z7e (Z79 (callM (Y4 380 3 W4)) (Z74 (Z71 2) (Z74 (Z71 5) (Z74 (Z71 3) Z75))))) s Q:=by
 refine .expr (.call (.cons (.getL l.l2 (.cons (.getL l.l5 (.cons (.getL l.l3 (.nil (.callM ((Cz hc ok hl hm mo hpo pl hn h3).mono ?_))))))))))
 rintro _ τ ⟨rfl,h⟩
 exact k τ h
inductive DdG(xs:List Int)(w:Int)(i a b c:Nat)(r:Int)(d:Cl)(tops:List Int)(asked:List (Int×Int))(f:Fl)(s:St):Prop
 |mk (e:f = .next) (l:Lc w s) (l8:s.loc 8=some (.int i)) (l9:s.loc 9=some (.ref 6)) (l10:s.loc 10=some (.lst (d.cs.map J0))) (l11:s.loc 11=some (.lst ((nuK d).map .int))) (l12:s.loc 12=some (.int r))
   (gs:List G) (kn:List (List Int×V)) (kvs:List (Int×V)) (pool:List Int) (n:Nat) (A:Ast gs kn kvs d tops asked xs n pool i s.hp) (gl:gs.length<=a) (pl:pool.length<=a) (ni:Pa gs<=b) (nl:n<=c)
inductive DdI(xs:List Int)(w:Int)(i:Nat)(s:St):Prop
 |mk (l:Lc w s) (l9:s.loc 9=some (.ref 6)) (gs:List G) (kn:List (List Int×V)) (kvs:List (Int×V)) (pool:List Int) (d:Cl) (tops:List Int) (asked:List (Int×Int)) (n:Nat) (A:Ast gs kn kvs d tops asked xs n pool i s.hp) (gl:gs.length<=6+2*i) (pl:pool.length<=6+2*i) (ni:Pa gs<=2+i) (nl:n<=100+13*i)
theorem more1_w{s:St}(h:DdG xs w i a b c r d tops asked .next s)(ha:a<=19)(hc:c<=1000) :
  Wp (Z7b ((X.and1 (Z7a (vEq false) (Z71 12) (pure (.int 1))) (X.and1 (X.tnot (X.truth (Z79 (callM (Y4 160 4 Wx)) (Z74 (Z71 1) (Z74 (Z71 2) (Z74 (Z71 5) (Z74 (Z71 3) Z75))))))) X.and0))) (Z73 (Z7f (pure (.bool false)))
 (Y.end)) (Y.end)) s (DdG xs w i (a+1) b (c+9) r d tops asked):=by
 obtain⟨_,l,l8,l9,l10,l11,l12,gs,kn,kvs,pool,n,A,gl,pl,ni,nl⟩:=h
 refine .ite (.and1 (.tcmp (.getL l12 (.pure (W.eqI (.asBool ⟨fun hb=>?_,fun hb=>⟨nofun,fun _=>.end ⟨rfl,l,l8,l9,l10,l11,l12,gs,kn,kvs,pool,n,A,by exact(Zw (Zd (Zb Z0 Z1) (Zh Z0 (Y0 Z1))) rfl gl),by exact(Zw (Zd (Zb Z0 Z1) (Zh Z0 (Y0 Z1))) rfl pl),ni,by exact(Zw (Zd (Zb Z0 Z1) (Zh Z0 (Z8 Z1 (Zo 9)))) rfl nl)⟩⟩⟩))))))
 refine .and1 (Pw l A.K.hc A.K.ok (by exact(Z16 (Z16 gl ha) (nle 19 800 rfl))) A.K.hm A.K.mo A.sk A.xl A.poo A.p0 (by exact(Z16 (Z16 pl ha) (nle 19 60 rfl))) A.hp (A.fr.mono (by decide)) (by exact(Zw (Zd (Zb Z0 (Zo 1000)) (Zd (Zb Z1 Z0) (Zy (Z8 Z1 (Zo 9)) (Zo (2^39))))) rfl hc nl)) fun τ h=>⟨nofun,fun _=>⟨nofun,fun _=>.end ?_⟩⟩)
 obtain⟨t,kn',kvs',g,tl,ti,A'⟩:=A.gate h (by exact(Z16 gl ha)) (by exact(Z16 (Z16 pl ha) (nle 19 49 rfl))) (by exact(Zw (Zd (Zb Z0 (Zo 1000)) (Zd (Zb Z1 Z0) (Zy (Z8 Z1 (Zo 9)) (Zo (2^38))))) rfl hc nl))
 exact⟨rfl,⟨l.l1,l.l2,l.l3,l.l4,l.l5,l.l6,l.l7⟩,l8,l9,l10,l11,l12,_,kn',kvs',_,_,A',by rw [Z3b];exact(Ye (Zd (Zb Z0 Z1) (Zd (Zb Za Yi) (Zh (Z8 Z0 Za) (Y0 Z1)))) rfl gl tl),by rw [Z3b,Z3l];lia,by rw [Nc (Z16 (by decide) A.K.ok.len) tl ti];exact ni,by lia⟩
theorem more2_w{s:St}(h:DdG xs w i a b c r d tops asked .next s)(ha:a<=19)(hb:i<2->b<=3) :
  Wp (Z7b ((X.and1 (Z7a (vEq false) (Z71 12) (pure (.int 2))) (X.and1 (Z7a vLt (Z71 8) (pure (.int 2))) X.and0))) (Z73 (Z7e (Z79 (callM (Y4 380 3 W4)) (Z74 (Z71 2) (Z74 (Z71 5) (Z74 (Z71 3) Z75)))))
 (Y.end)) (Y.end)) s (DdG xs w i (a+1) (b+1) c r d tops asked):=by
 obtain⟨_,l,l8,l9,l10,l11,l12,gs,kn,kvs,pool,n,A,gl,pl,ni,nl⟩:=h
 have no:DdG xs w i (a+1) (b+1) c r d tops asked .next s:=⟨rfl,l,l8,l9,l10,l11,l12,gs,kn,kvs,pool,n,A,by exact(Zw (Zd (Zb Z0 Z1) (Zh Z0 (Y0 Z1))) rfl gl),by exact(Zw (Zd (Zb Z0 Z1) (Zh Z0 (Y0 Z1))) rfl pl),by exact(Zw (Zd (Zb Z0 Z1) (Zh Z0 (Y0 Z1))) rfl ni),by exact nl⟩
 refine .ite (.and1 (.tcmp (.getL l12 (.pure (W.eqI (.asBool ⟨fun _=>.and1 (.tcmp (.getL l8 (.pure (W.lt (.asBool ⟨fun hi=>.and0 ⟨fun _=>?_,nofun⟩,fun _=>⟨nofun,fun _=>.end no⟩⟩))))),fun _=>⟨nofun,fun _=>.end no⟩⟩))))))
 have i2:i<2:=by have:=of_decide_eq_true hi;omega
 have b3:=hb i2
 refine .seq (Tm l A.K.hc A.K.ok (by exact(Z16 (Z16 gl ha) (nle 19 800 rfl))) A.K.hm A.K.mo A.poo (by exact(Z16 (Z16 pl ha) (nle 19 60 rfl))) (A.fr.mono (by decide)) (by exact(Z16 ni b3)) fun τ h=>.end ?_)
 obtain⟨kvs',A'⟩:=A.inp h (by exact(Z16 gl ha)) (by exact(Z16 (Z16 pl ha) (nle 19 49 rfl)))
 exact⟨rfl,⟨l.l1,l.l2,l.l3,l.l4,l.l5,l.l6,l.l7⟩,l8,l9,l10,l11,l12,_,kn,kvs',_,_,A',by rw [Z3b,Z3l];lia,by rw [Z3b,Z3l];lia,by rw [Lz (Z16 (by decide) A.K.ok.len)];lia,nl⟩
theorem deeds_w{s:St}{Q:Fl->St->Prop}(h:DdI xs w i s)(l8:s.loc 8=some (.int i))(hi:i<4)(k : ∀ s',DdI xs w (i+1) s'->Q .next s') :
  Wp (Z73 (Y.assignSwap [12,11,10] (Z74 (Z79 (E1 none) (Z74 (Z77 (Yn 112 (Z5k "clauses")) (Z71 9)) Z75)) (Z74 (Z79 (callM (Y4 170 1 Y7)) (Z74 (Z71 9) Z75)) (Z74 (Z79 (callM (Y4 580 2 Xd)) (Z74 (Z71 1) (Z74 (pure (.int 3)) Z75))) Z75))))
 (Z73 (Z7b ((X.and1 (Z7a (vEq false) (Z71 12) (pure (.int 1))) (X.and1 (X.tnot (X.truth (Z79 (callM (Y4 160 4 Wx)) (Z74 (Z71 1) (Z74 (Z71 2) (Z74 (Z71 5) (Z74 (Z71 3) Z75))))))) X.and0))) (Z73 (Z7f (pure (.bool false)))
 (Y.end)) (Y.end))
 (Z73 (Z7b ((X.and1 (Z7a (vEq false) (Z71 12) (pure (.int 2))) (X.and1 (Z7a vLt (Z71 8) (pure (.int 2))) X.and0))) (Z73 (Z7e (Z79 (callM (Y4 380 3 W4)) (Z74 (Z71 2) (Z74 (Z71 5) (Z74 (Z71 3) Z75)))))
 (Y.end)) (Y.end))
 (Z73 (Z7b ((X.or1 (Z7a (vEq true) (Z77 (Yn 112 (Z5k "clauses")) (Z71 9)) (Z71 10)) (X.or1 (Z7a (vEq true) (Z79 (callM (Y4 170 1 Y7)) (Z74 (Z71 9) Z75)) (Z71 11)) X.or0))) (Z73 (Z7f (pure (.bool false)))
 (Y.end)) (Y.end))
 (Z73 (Z7b ((X.or1 (X.tnot (X.truth (Z79 (callM (Y4 120 6 W1)) (Z74 (Z71 1) (Z74 (Z71 9) (Z74 (Z71 2) (Z74 (Z71 5) (Z74 (Z71 6) (Z74 (Z71 7) Z75))))))))) (X.or1 (X.tnot (X.truth (Z79 (callM (Y4 660 1 We)) (Z74 (Z77 (Yn 112 (Z5k "clauses")) (Z71 9)) Z75)))) X.or0))) (Z73 (Z7f (pure (.bool false)))
 (Y.end)) (Y.end))
 (Z73 (Z7b (X.tnot (X.truth (Z79 (callM (Y4 140 4 W2)) (Z74 (Z71 9) (Z74 (Z71 3) (Z74 (Z71 6) (Z74 (Z71 7) Z75))))))) (Z73 (Z7f (pure (.bool false)))
 (Y.end)) (Y.end))
 (Y.end))))))) s Q:=by
 have l1000:1000<lim:=by decide
 obtain⟨l,l9,gs,kn,kvs,pool,d,tops,asked,n,A,gl,pl,ni,nl⟩:=h
 have bd:=A.K.iv.bounds A.K.c
 have ht:d.ga.tail=nuK d:=by rw [A.K.iv.ga];rfl
 refine .seq (.assignSwap (.cons (.call (.cons (.op1 (.getL l9 (W.kClauses A.K.h (.nil (W.list (Lf (Yc fun _=>Z7i) (Jm A.K.h.cs)) (P6 _) (by have:=A.K.lc;rw [Z3g];exact(Z0y (Z1h (Z17 this (nlt 400 1000 rfl)) l1000))) (.cons (.call (.cons (.getL l9 (.nil (.callM ((V4 A.K.h (A.fr.mono (by decide)) (by exact(Z16 bd.2.1 (nle 20 1000 rfl)))).mono ?_))))))))))))))))
 rintro _ τ ⟨rfl,e⟩
 rw [ht]
 have A1:Ast gs kn kvs d tops asked xs n pool i τ:=by rw [e];exact A
 refine .cons (.call (.cons (.getL l.l1 (.cons (.pure (.nil (.callM ((Kg A1.sk (by exact(Zw (Ze 13 (Zq Z0 Xi) (Zd (Zb Z1 (Z8 (Zo 100) (Zm 13 Z0))) (Zy Z1 (Zo (2^39))))) rfl hi nl)) A1.xl (show (0:Int)<3 by decide) (A1.fr.mono (by decide))).mono ?_))))))))
 rintro _ τ2 ⟨r,rfl,_,_,c2,f2⟩
 have A2:=A1.sip c2 f2 (by exact(Zw (Ze 13 (Zq Z0 Xi) (Zd (Zb Z1 (Z8 (Zo 100) (Zm 13 Z0))) (Zy (Y0 Z1) (Zo (2^38))))) rfl hi nl))
 refine .nil ⟨show 3<=100 by decide,.sets1 (.sets1 (.sets1 (.sets0 ?_)))⟩
 refine .seq ((more1_w (xs:=xs) (w:=w) (i:=i) (a:=6+2*i) (b:=2+i) (c:=101+13*i) (r:=r) (d:=d) (tops:=tops) (asked:=asked) ?_ (by exact(Y2 (Ze 2 (Zq Z0 Xi) (Zh (Z8 (Zo 6) (Zm 2 Z0)) (Zo 19))) rfl hi)) (by exact(Y2 (Ze 13 (Zq Z0 Xi) (Zh (Z8 (Zo 101) (Zm 13 Z0)) (Zo 1000))) rfl hi))).mono ?_)
 ·exact⟨rfl,⟨l.l1,l.l2,l.l3,l.l4,l.l5,l.l6,l.l7⟩,l8,l9,rfl,rfl,rfl,gs,kn,kvs,pool,n+1,A2,gl,pl,ni,by exact(Zw (Zd (Zb Z0 (Z8 (Zo 100) (Zm 13 Z1))) (Zh (Y0 Z0) (Z8 (Zo 101) (Zm 13 Z1)))) rfl nl)⟩
 clear A A1 A2 l l9 l8 bd ht gl pl ni nl c2 f2 e
 intro f s2 D
 obtain rfl:f = .next:=by obtain⟨e⟩:=D;exact e
 refine .seq ((more2_w D (by exact(Y2 (Ze 2 (Zq Z0 Xi) (Zh (Y0 (Z8 (Zo 6) (Zm 2 Z0))) (Zo 19))) rfl hi)) (by lia)).mono ?_)
 clear D
 intro f s3 D
 obtain rfl:f = .next:=by obtain⟨e⟩:=D;exact e
 obtain⟨_,l,l8,l9,l10,l11,l12,gs,kn,kvs,pool,n,A,gl,pl,ni,nl⟩:=D
 have bd:=A.K.iv.bounds A.K.c
 have ht:d.ga.tail=nuK d:=by rw [A.K.iv.ga];rfl
 refine .seq (.ite (.or1 (.tcmp (.op1 (.getL l9 (W.kClauses A.K.h (.getL l10 (W.eqRT A.K.h.cs (.asBool ⟨fun hb=>?_,fun _=>.or1 (.tcmp (.call (.cons (.getL l9 (.nil (.callM ((V4 A.K.h (A.fr.mono (by decide)) (by exact(Z16 bd.2.1 (nle 20 1000 rfl)))).mono ?_)))))))⟩)))))))))
 ·rw [decide_eq_true rfl] at hb;cases hb
 rintro _ τ ⟨rfl,e⟩
 rw [ht]
 have A3:Ast gs kn kvs d tops asked xs n pool i τ:=by rw [e];exact A
 refine .getL l11 (W.eqL (.asBool ⟨fun hb=>?_,fun _=>.or0 ⟨nofun,fun _=>.end ?_⟩⟩))
 ·rw [decide_eq_true rfl] at hb;cases hb
 refine .seq (.ite (.or1 (.tnot (.truth (.call (.cons (.getL l.l1 (.cons (.getL l9 (.cons (.getL l.l2 (.cons (.getL l.l5 (.cons (.getL l.l6 (.cons (.getL l.l7 (.nil (.callM ((deed_ws A3 hi (by exact(Zw (Ze 13 (Zq Z0 Xi) (Zd (Zb Z1 (Z8 (Z8 (Zo 101) (Zm 13 Z0)) (Zo 9))) (Zy (Z8 Z1 Pu) (Zo (2^38))))) rfl hi nl))).mono ?_))))))))))))))))))))
 rintro _ τ4 ⟨rfl,d',tops',asked',A4⟩
 refine .asBool ⟨nofun,fun _=>.or1 (.tnot (.truth (.call (.cons (.op1 (.getL l9 (W.kClauses A4.K.h (.nil (.callM ((Ah A4.K.h.cs (fun c hc=>(A4.K.iv.row c hc).1) (A4.fr.mono (by decide))).mono ?_))))))))))⟩
 rintro _ τ5 ⟨rfl,e5⟩
 have A5:Ast gs kn kvs d' tops' asked' xs (n+3) pool (i+1) τ5:=by rw [e5];exact A4
 refine .asBool ⟨nofun,fun _=>.or0 ⟨nofun,fun _=>.end (.seq (.ite (.tnot (.truth (.call (.cons (.getL l9 (.cons (.getL l.l3 (.cons (.getL l.l6 (.cons (.getL l.l7 (.nil (.callM ((rows_ws A5.K A5.ht A5.ha A5.A (A5.fr.mono (by decide))).mono ?_))))))))))))))))⟩⟩
 rintro _ τ6 ⟨rfl,e6⟩
 exact .asBool ⟨nofun,fun _=>.end (.end (k _ ⟨⟨l.l1,l.l2,l.l3,l.l4,l.l5,l.l6,l.l7⟩,l9,gs,kn,kvs,pool,d',tops',asked',n+3,by rw [e6];exact A5,by omega,by omega,by omega,by exact(Zw (Zd (Zb Z0 (Z8 (Z8 (Zo 101) (Zm 13 Z1)) (Zo 9))) (Zh (Z8 Z0 Pu) (Z8 (Zo 100) (Zm 13 (Y0 Z1))))) rfl nl)⟩))⟩
end L01
end Lay
namespace Lay
namespace L01
inductive InpI(xs:List Int)(w:Int)(i:Nat)(s:St):Prop
 |mk (l:Lc w s) (kvs:List (Int×V)) (pool:List Int) (S:Gst (base++Z4p i .inp) [] kvs xs 1 pool s.hp) (pl:pool.length=i) (ni:Pa (base++Z4p i .inp)=i)
inductive GdI(xs:List Int)(w:Int)(i:Nat)(s:St):Prop
 |mk (l:Lc w s) (gs:List G) (kn:List (List Int×V)) (kvs:List (Int×V)) (pool:List Int) (S:Gst gs kn kvs xs (2+9*i) pool s.hp) (l4:4<=gs.length) (gl:gs.length<=4+i) (pl:pool.length=2+i) (ni:Pa gs=2) (sh : ∀ j x,2<=j->gs[j]?=some x->(j<4↔x = .inp))
theorem sh_base : ∀ (j:Nat) (x:G),2<=j->(base++Z4p 2 .inp)[j]?=some x->(j<4↔x = .inp):=fun j x h1 h2=>by
 have:=(Z2y.mp h2).1
 have:(base++Z4p 2 G.inp).length=4:=rfl
 have:j=2\/j=3:=by lia
 rcases this with rfl|rfl<;>obtain rfl:=Z54 h2<;>exact iff_of_true (by decide) rfl
theorem sh_app{gs t:List G}(l4:4<=gs.length)(ti : ∀ x∈t,∃ ps,x = .and ps)(sh : ∀ j x,2<=j->gs[j]?=some x->(j<4↔x = .inp)) : ∀ j x,2<=j->(gs++t)[j]?=some x->(j<4↔x = .inp):=fun j x h1 h2=>by
 by_cases q:j<gs.length
 ·rw [Z2r q] at h2;exact sh j x h1 h2
 ·rw [Z2s (by exact(Z10 q))] at h2
  obtain⟨ps,rfl⟩:=ti x (Z45 h2)
  exact iff_of_false (by exact(Z1p (Z16 l4 (Z10 q)))) nofun
theorem run_law(ys:List Int)(hys:ys.length<=63) : ∃ σ',Y4 100 1 A9 [.lst (ys.map .int)] (fun _=>none)=some (.bool true,σ'):=by
 suffices h:Ws (Y4 100 1 A9) [.lst (ys.map .int)] (fun _=>none) (fun v _=>v = .bool true) by
  obtain⟨v,σ',h1,rfl⟩:=h;exact⟨σ',h1⟩
 have l1000:1000<lim:=by decide
 have hxl:(ys.take 60).length<=60:=by rw [Z3m];exact(Y2 (Zd (Zb Z0 (Zo 60)) (Zh Z0 (Zo 60))) rfl (Z1l _ _))
 refine Ws.fn rfl ?_
 unfold A9
 refine .seq (.assignSwap (.cons (.dictS (.dcons (.pure (W.filt (RS:=ys.take 60) (emb:=V.int) (e:=fun y=>V.int (y%1000003)) (p:=fun _=>true) (v:=.lst ((ys.take 60).map .int)) ?_ rfl (fun _ _=>Vv) (fun _ _ _ _ _ _=>.and0 ⟨rfl,rfl⟩) (fun y _ _ s' _ _ e3=>?_) (fun _ _=>rfl) (by exact(Z1h (Z17 hxl (nlt 60 1000 rfl)) l1000)) fun s' e1 e2=>?_))))))
 ·exact .op2 (.getL (v:=.lst (ys.map .int)) rfl (.pure (W.upto J4 (by decide) (lmLe (by exact(Z0y (Z1h (Z17 hys (nlt 63 1000 rfl)) l1000)))) (W6 _) ⟨by rw [<-Z3v];rfl,rfl⟩)))
 ·exact .op2 (.call (.cons (.getL e3 (.nil (W.int (.pure (W.mod (by decide) ⟨rfl,rfl⟩)))))))
 rw [List.filter_eq_self.mpr fun _ _=>rfl,show (ys.take 60).map (fun y=>V.int (y%1000003))=((ys.take 60).map (· % 1000003)).map V.int by rw [Z3t];rfl]
 have hxl:((ys.take 60).map (· % 1000003)).length<=60:=by rw [Z3g];exact hxl
 generalize (ys.take 60).map (· % 1000003)=xs at hxl
 obtain⟨loc,σ0⟩:=s'
 have e1:σ0=fun _=>none:=e1
 subst e1
 clear e2
 refine .dcons (.pure (.pure (.dnil (W.mkDict (F7 Ib rfl (F7 Ib rfl rfl)) rfl ?_))))
 rw [show Ek [(Z5k "cells",V.lst (xs.map .int)),(Z5k "at",.int 0)] = [(Z5k "cells",V.lst (xs.map .int)),(Z5k "at",.int 0)] from rfl]
 refine .cons (.call (.nil (.newM rfl rfl ((Cq rfl rfl (fun n h1 h2=>?_) (fun n h=>?_)).mono ?_))))
 ·dsimp only;rw [Z5 _ _ (by exact(Z1n (Z1a (nlt 1 3 rfl) h1))),Z5 _ _ (by exact(Z1n (Z1a (nlt 2 3 rfl) h1))),Z5 _ _ (by exact(Z1o (Z17 h2 (nlt 5 101 rfl))))]
 ·dsimp only;rw [Z5 _ _ (by exact(Z1n (Z1a (nlt 1 560 rfl) h))),Z5 _ _ (by exact(Z1n (Z1a (nlt 2 560 rfl) h))),Z5 _ _ (by exact(Z1n (Z1a (nlt 101 560 rfl) h)))]
 rintro _ σ1 ⟨rfl,c1,o1⟩
 have s1 : ∀ n,5<n->n≠101->σ1 n=none:=fun n h1 h2=>by
  rw [o1 n h1]
  simp only [Z5 _ _ (show n≠1 by exact(Z1n (Z1h (nlt 1 5 rfl) h1))),Z5 _ _ (show n≠2 by exact(Z1n (Z1h (nlt 2 5 rfl) h1))),Z5 _ _ h2]
 have u1:Sack xs 0 σ1:=⟨0,by decide,by decide,by rw [o1 101 (by decide)];rfl⟩
 clear o1
 refine⟨rfl,.cons (.dictI (.dcons (.pure (.pure (.dnil (W.mkDict (kvs := [(1,.int 65535)]) (F7 Wm rfl rfl) (s1 100 (by decide) (by decide)) (.nil ⟨show 3<=100 by decide,.sets1 (.sets1 (.sets1 (.sets0 ?_)))⟩)))))))⟩
 refine atS (fun s=>(s.loc 1=some (.ref 101)/\s.loc 2=some (.ref 1)/\s.loc 3=some (.ref 100))/\(Yp base [] s.hp/\Sack xs 0 s.hp/\s.hp 100=some (.idict mk1))/\∀ n,5<n->n≠100->n≠101->s.hp n=none) ⟨⟨rfl,rfl,rfl⟩,⟨c1.mono fun n q=>Z5 _ _ (by exact(Z1o (Z17 q (nlt 5 100 rfl)))),u1.at rfl,rfl⟩,fun n q1 q2 q3=>(Z5 _ _ q2).trans (s1 n q1 q3)⟩ ?_
 clear c1 s1 u1
 rintro⟨loc,σ1⟩ ⟨⟨l1,l2,l3⟩,⟨c1,u1,m1⟩,s1⟩
 dsimp only at l1 l2 l3 c1 u1 m1 s1
 refine .seq (.assignDisp (.cons (.call (.cons (.getL l1 (.cons (.pure (.nil (.callM ((Kg u1 (by decide) hxl (show (0:Int)<2 by decide) (fun n q=>s1 n (by exact(Z1a (nlt 5 580 rfl) q)) (by exact(Z1n (Z1a (nlt 100 580 rfl) q))) (by exact(Z1n (Z1a (nlt 101 580 rfl) q))))).mono ?_))))))))))
 rintro _ σ2 ⟨w,rfl,_,_,u2,f2⟩
 have s2 : ∀ n,5<n->n≠100->n≠101->σ2 n=none:=fun n q1 q2 q3=>(f2 n q3).trans (s1 n q1 q2 q3)
 have fz : ∀ n,n≠13->n≠14->n≠15->upd (upd (upd σ2 15 (some (.list []))) 13 (some (.list []))) 14 (some (.list [])) n=σ2 n:=fun n q1 q2 q3=>by rw [Z5 _ _ q2,Z5 _ _ q1,Z5 _ _ q3]
 refine .cons (.list (.nil (.mkLstS rfl (Z25 _) (s2 15 (by decide) (by decide) (by decide)) (.cons (.list (.nil (.mkLstS rfl (Z25 _) (by exact s2 13 (by decide) (by decide) (by decide)) (.cons (.list (.nil (.mkLstS rfl (Z25 _) (by exact s2 14 (by decide) (by decide) (by decide)) (.nil ⟨show 4<=100 by decide,.sets1 (.sets1 (.sets1 (.sets1 (.sets0 ?_))))⟩))))))))))))
 refine atS (fun s=>Lc w s/\Gst base [] mk1 xs 1 [] s.hp) ⟨⟨l1,l2,l3,rfl,rfl,rfl,rfl⟩,base_ok,c1.mono fun n q=>(fz n (by exact(Z1o (Z17 q (nlt 5 13 rfl)))) (by exact(Z1o (Z17 q (nlt 5 14 rfl)))) (by exact(Z1o (Z17 q (nlt 5 15 rfl))))).trans (f2 n (by exact(Z1o (Z17 q (nlt 5 101 rfl))))),(fz 100 (by decide) (by decide) (by decide)).trans ((f2 100 (by decide)).trans m1),mk1_ok,u2.at (fz 101 (by decide) (by decide) (by decide)),rfl,(fun _ q=>nomatch q),rfl,rfl,fun m q1 q2 q3 q4 q5 q6=>(fz m q2 q3 q4).trans (s2 m q1 q5 q6)⟩ ?_
 clear c1 u1 m1 s1 u2 f2 s2 fz l1 l2 l3
 rintro s ⟨l,S⟩
 refine .seq (.for (.call (.cons (.pure (.nil (W.range1 ⟨rfl,.forS (xs:=_) (InpI xs w) ⟨l,mk1,[],S,rfl,E4⟩ (fun i s _=>Uf (by decide) (by decide)) ?_ ?_⟩))))))
 ·rintro i s x ⟨l,kvs,pool,S,pl,ni⟩ hx
  obtain⟨rfl,hi⟩:=Bx hx
  have bl:(base++Z4p i G.inp).length=2+i:=by rw [Z3b,List.length_replicate];rfl
  refine .setL (.seq (Tm (w:=w) ⟨l.l1,l.l2,l.l3,l.l4,l.l5,l.l6,l.l7⟩ S.hc S.ok (by exact(Zw (Zd (Xp (Xb X0 Zu) (Xh Ys)) (Zd (Zj Z1 (Z8 Ys Z0)) (Zh Z1 (Zo 800)))) rfl hi bl)) S.hm S.mo S.poo (by exact(Zw (Zd (Zj Z0 Z1) (Zd (Xp (Xb X0 Xm) (Xh Ys)) (Zh Z0 (Zo 60)))) rfl pl hi)) (fun n q=>S.fr n (by exact(Z1a (nlt 5 380 rfl) q)) (by exact(Z1n (Z1a (nlt 13 380 rfl) q))) (by exact(Z1n (Z1a (nlt 14 380 rfl) q))) (by exact(Z1n (Z1a (nlt 15 380 rfl) q))) (by exact(Z1n (Z1a (nlt 100 380 rfl) q))) (by exact(Z1n (Z1a (nlt 101 380 rfl) q)))) (by lia) fun τ h=>.end ?_))
  obtain⟨kvs',S'⟩:=S.inp h
  have e:base++Z4p (i+1) G.inp=(base++Z4p i .inp) ++ [.inp]:=by rw [List.replicate_succ',Z28]
  exact⟨⟨l.l1,l.l2,l.l3,l.l4,l.l5,l.l6,l.l7⟩,kvs',_,by rw [e];exact S',by rw [Z3b,pl];rfl,by rw [e,Lz (by exact(Zw (Ze (-1) (Zj Z0 (Z8 Ys Z1)) (Xn 1 (Zh Yi Z0))) rfl bl)),ni]⟩
 clear l S s
 rintro s ⟨l,kvs,pool,S,pl,ni⟩
 rw [show (Z3p (fun(i:Nat)=>V.int (0+i)) (Z4o ((2:Int)-0).toNat)).length=2 from rfl] at S pl ni
 refine .seq (.for (.call (.cons (.op2 (.pure (.call (.cons (.getL l.l1 (.cons (.pure (.nil (.callM ((Kg S.sk (by decide) hxl (show (0:Int)<2 by decide) (fun n q=>S.fr n (by exact(Z1a (nlt 5 580 rfl) q)) (by exact(Z1n (Z1a (nlt 13 580 rfl) q))) (by exact(Z1n (Z1a (nlt 14 580 rfl) q))) (by exact(Z1n (Z1a (nlt 15 580 rfl) q))) (by exact(Z1n (Z1a (nlt 100 580 rfl) q))) (by exact(Z1n (Z1a (nlt 101 580 rfl) q))))).mono ?_)))))))))))))
 rintro _ σ3 ⟨r,rfl,r0,r1,u3,f3⟩
 have S3:=S.sip u3 f3
 refine W.add (.nil (W.range1 ⟨rfl,.forS (xs:=_) (GdI xs w) ⟨⟨l.l1,l.l2,l.l3,l.l4,l.l5,l.l6,l.l7⟩,_,[],kvs,pool,S3,(by decide),(by decide),pl,ni,sh_base⟩ (fun i s _=>Uf (by decide) (by exact(J1 (Zd (Xp Zg (Xh Ys)) (Zd (Yr Zu (Xb Xx Zg)) (Zy Z0 (Zo (2^40))))) rfl r1 (Z6i (Wc (Zd (Xq X0 Zg) (Yv X0 (Xb Xx Zg))) rfl r0))))) ?_ ?_⟩))
 ·rintro i s x ⟨l,gs,kn,kvs,pool,S,l4,gl,pl,ni,sh⟩ hx
  obtain⟨rfl,hi⟩:=Bx hx
  refine .setL (.seq (.ite (Pw (w:=w) ⟨l.l1,l.l2,l.l3,l.l4,l.l5,l.l6,l.l7⟩ S.hc S.ok (by exact(Vg (Zd (Xp Zg (Xh Ys)) (Zd (Zb Z0 (Z8 Xi Z1)) (Zd (Xp (Xb X0 Xm) (Xb Xx Zg)) (Zh Z0 (Zo 800))))) rfl r1 gl hi)) S.hm S.mo S.sk hxl S.poo (by lia) (by exact(Vg (Zd (Xp Zg (Xh Ys)) (Zd (Zj Z0 (Z8 Ys Z1)) (Zd (Xp (Xb X0 Xm) (Xb Xx Zg)) (Zh Z0 (Zo 60))))) rfl r1 pl hi)) S.hp (fun n q=>S.fr n (by exact(Z1a (nlt 5 160 rfl) q)) (by exact(Z1n (Z1a (nlt 13 160 rfl) q))) (by exact(Z1n (Z1a (nlt 14 160 rfl) q))) (by exact(Z1n (Z1a (nlt 15 160 rfl) q))) (by exact(Z1n (Z1a (nlt 100 160 rfl) q))) (by exact(Z1n (Z1a (nlt 101 160 rfl) q)))) (by exact(J1 (Ze 9 (Xp Zg (Xh Ys)) (Ze 9 (Xp (Xb X0 Zu) (Xb Xx Zg)) (Zy (Z8 (Z8 Ys (Zm 9 Z0)) (Zo 9)) (Zo (2^39))))) rfl r1 hi)) fun τ h=>⟨nofun,fun _=>.end (.end ?_)⟩)))
  obtain⟨t,kn',kvs',g,tl,ti,S'⟩:=S.gate h
  exact⟨⟨l.l1,l.l2,l.l3,l.l4,l.l5,l.l6,l.l7⟩,gs++t,kn',kvs',_,S',by rw [Z3b];exact(Zw (Zd (Zb Xi Z0) (Zh Xi (Z8 Z0 Z1))) rfl l4),by rw [Z3b];exact(Ye (Zd (Zb Z0 (Z8 Xi Z1)) (Zd (Zb Za Yi) (Zh (Z8 Z0 Za) (Z8 Xi (Y0 Z1))))) rfl gl tl),by rw [Z3b,Z3l];exact(Zw (Zd (Zj Z0 (Z8 Ys Z1)) (J9 (Y0 Z0) (Z8 Ys (Y0 Z1)))) rfl pl),by rw [Nc (by exact(Z16 (nle 1 4 rfl) l4)) tl ti];exact ni,sh_app l4 ti sh⟩
 clear S S3 l u3 f3 pl ni kvs pool s
 rintro s ⟨l,gs,kn,kvs,pool,S,l4,gl,pl,ni,sh⟩
 rw [Z3g,Z3j] at S gl pl
 have hn:2+9*(1+r-0).toNat<100:=by exact(J1 (Ze 9 (Xp Zg (Xh Ys)) (Ze 9 (Yr Zu (Yl (Xb Xx Zg) X0)) (Zy (Z8 Ys (Zm 9 Z0)) (Zo 100)))) rfl r1 (Z6w (Wc (Zd (Xq X0 Zg) (Yv X0 (Yl (Xb Xx Zg) X0))) rfl r0)))
 have gl:gs.length<=6:=by exact(Vg (Zd (Xp Zg (Xh Ys)) (Zd (Zb Z0 (Z8 Xi Z1)) (Zd (Yr Xm (Yl (Xb Xx Zg) X0)) (Zh Z0 (Zo 6))))) rfl r1 gl (Z6w (Wc (Zd (Xq X0 Zg) (Yv X0 (Yl (Xb Xx Zg) X0))) rfl r0)))
 have pl6:pool.length<=6:=by exact(Vg (Ze 61 (Xp Zg (Xh Ys)) (Ze 79 (Zj Z0 (Z8 Ys Z1)) (Ze 2 (Zq (Z8 Ys (Zm 9 Z1)) (Zo 100)) (Ze 61 (Yr Xm (Yl (Xb Xx Zg) X0)) (Xn 78 (Zh Z0 (Zo 6))))))) rfl r1 pl hn (Z6w (Wc (Zd (Xq X0 Zg) (Yv X0 (Yl (Xb Xx Zg) X0))) rfl r0)))
 have p0:0<pool.length:=by exact(Zw (Ze (-1) (Zj Z0 (Z8 Ys Z1)) (Xn 1 (Zy Wt Z0))) rfl pl)
 generalize 2+9*(1+r-0).toNat=n at S hn
 clear pl
 have none6 : ∀ i,5<i->i<13\/101<i->s.hp i=none:=fun i q1 q2=>S.fr i q1 (by lia) (by lia) (by lia) (by lia) (by lia)
 have h7:upd (upd s.hp 7 (some (.attrs []))) 6 (some (.inst 112 7)) 7=some (.attrs []):=rfl
 have fu : ∀ i,i≠6->i≠7->upd (upd s.hp 7 (some (.attrs []))) 6 (some (.inst 112 7)) i=s.hp i:=fun i q1 q2=>by rw [Z5 _ _ q1,Z5 _ _ q2]
 refine .seq (.assign (.call (.cons (.getL l.l2 (.cons (.getL l.l4 (.nil (.newM (none6 7 (by decide) (by decide)) ((Z5 _ _ (by decide)).trans (none6 6 (by decide) (by decide))) ((init_ws (w:=w) (by exact(Z16 gl (nle 6 20 rfl))) l4 sh (S.hc.mono fun i q=>fu i (by exact(Z1o (Z17 q (nlt 5 6 rfl)))) (by exact(Z1o (Z17 q (nlt 5 7 rfl))))) (Z4 _ _ _) h7 (fun i q1 q2=>(fu i (by exact(Z1n (Z1a (nlt 6 8 rfl) q1))) (by exact(Z1n (Z1a (nlt 7 8 rfl) q1)))).trans (none6 i (by exact(Z1a (nlt 5 8 rfl) q1)) (by lia))) (fun i q=>(fu i (by exact(Z1n (Z1a (nlt 6 280 rfl) q))) (by exact(Z1n (Z1a (nlt 7 280 rfl) q)))).trans (none6 i (by exact(Z1a (nlt 5 280 rfl) q)) (by exact(.inr (Y2 (Ze 51 (Zb (Zo 280) Z0) (Xn 139 (Zy (Zo 101) Z0))) rfl q)))))).mono ?_)))))))))
 rintro _ σ4 ⟨rfl,f4,k4⟩
 refine⟨rfl,?_⟩
 refine atS (fun s=>Lc w s/\s.loc 9=some (.ref 6)/\Ast gs kn kvs (Cin w 2) [] [] xs n pool 0 s.hp) ⟨⟨l.l1,l.l2,l.l3,l.l4,l.l5,l.l6,l.l7⟩,rfl,Ast.zero (τ:=σ4) S (by exact(Z16 gl (nle 6 20 rfl))) l4 hxl (by exact(Y2 (Zd (Zq Z0 (Zo 100)) (Zy Z0 (Zo (2^38)))) rfl hn)) p0 (by exact(Z16 pl6 (nle 6 50 rfl))) (fun i q=>(f4 i q).trans (fu i (by lia) (by lia))) k4⟩ ?_
 clear k4 f4 l S none6 h7 fu σ4 s
 rintro s ⟨l,l9,A⟩
 refine .seq (.for (.call (.cons (.op2 (.pure (.call (.cons (.getL l.l1 (.cons (.pure (.nil (.callM ((Kg A.sk (by exact(Y2 (Zd (Zq Z0 (Zo 100)) (Zy Z0 (Zo (2^39)))) rfl hn)) hxl (show (0:Int)<2 by decide) (A.fr.mono (by decide))).mono ?_)))))))))))))
 rintro _ σ4 ⟨r',rfl,_,_,u4,f4⟩
 have A4:=A.sip u4 f4 (by exact(Y2 (Zd (Zq Z0 (Zo 100)) (Zy (Y0 Z0) (Zo (2^38)))) rfl hn))
 refine W.add (.nil (W.range1 ⟨rfl,.forS (xs:=_) (DdI xs w) ⟨⟨l.l1,l.l2,l.l3,l.l4,l.l5,l.l6,l.l7⟩,l9,gs,kn,kvs,pool,_,[],[],n+1,A4,gl,pl6,by lia,by exact(Y2 (Zd (Zq Z0 (Zo 100)) (Zh (Y0 Z0) (Z8 (Zo 100) (Zm 13 Wt)))) rfl hn)⟩ (fun i s _=>Uf (by decide) (by exact(J1 (Zd (Xp Zg (Xh Ys)) (Zd (Yr Zu (Xb (Xh Pu) Zg)) (Zy Z0 (Zo (2^40))))) rfl (by assumption) (Z6i (Wc (Zd (Xq X0 Zg) (Yv X0 (Xb (Xh Pu) Zg))) rfl (by assumption)))))) ?_ fun s h=>?_⟩))
 ·rintro i s x h hx
  obtain⟨rfl,hi⟩:=Bx hx
  rw [Z6x]
  obtain⟨l,l9,gs,kn,kvs,pool,d,tops,asked,n,A,gl,pl,ni,nl⟩:=h
  exact .setL (deeds_w (w:=w) (i:=i) ⟨⟨l.l1,l.l2,l.l3,l.l4,l.l5,l.l6,l.l7⟩,l9,gs,kn,kvs,pool,d,tops,asked,n,A,gl,pl,ni,nl⟩ rfl (by exact(J1 (Zd (Xp Zg (Xh Ys)) (Zd (Xp (Xb X0 Zu) (Xb (Xh Pu) Zg)) (Zy Z0 Xi))) rfl (by assumption) hi)) fun s' h=>h)
 ·exact .seq (.ret (.pure ⟨_,_,rfl,Zs fun _=>Z7i,rfl⟩))
end L01
end Lay
namespace Lay
theorem H1{p q:Program}{loose:List Str}{Xt:Shared->Bool}{α:Type}{Yf:Shared->α}{Ya:World->α}{N:Nat}{g0:Bool}{m₀:Nat}{ann:Option Value}
  (e:opening p=plainProg p.main.scope.names) (hN:Nat.ble 600 N=true) (f : ∀ s,fenceModules? p s=some s)
  (size : ∀ w:World,(((boot_heap w.params).isNs mainGlobals&&((Array.mk []:Array GenState).size==0)),(boot_heap w.params).objs.size,(boot_heap w.params).nsMap mainGlobals "__annotations__")=(true,m₀,ann))
  (h : ∀ (w:World) (os:OsState),(Fast.tw14082659384304107361 Fast.tw14364793385576792824 p w m₀ ann N ⟨boot_heap w.params,Array.mk [],boot_drawn,boot_toks,os⟩ (topStub p)).map
    (fun s=>(staticsOk (Fast.tw5923862056798008813 p.main.body) (boot_heap w.params) s.heap&&namesBound p s.heap&&gensDone s&&laidKept (boot_heap w.params) s.heap,Fast.tw4187177175401517315 q loose (Fast.tw5923862056798008813 p.main.body) Xt g0 s,Yf s))=some (true,openGood q loose,Ya w)):LeftO p q loose Xt Yf Ya N g0:=fun w=>by
 obtain⟨⟨hp,gs,d,k,os⟩,h1,h2⟩:=Z50.mp (boot_open e hN f w)
 obtain⟨rfl,rfl,rfl,rfl⟩:hp=boot_heap w.params/\gs=Array.mk []/\d=boot_drawn/\k=boot_toks:=by simpa using h2
 obtain⟨z1,z2,z3⟩:_/\_/\_:=by simpa only [Prod.mk.injEq] using size w
 have h3:=h w os
 rw [<-Fast.te14082659384304107361,<-Fast.te14364793385576792824,<-Fast.te5923862056798008813,<-Fast.te4187177175401517315] at h3
 obtain⟨s,h4,h5⟩:=Z50.mp h3
 obtain⟨l1,l2,l3⟩:_/\_/\_:=by simpa only [Prod.mk.injEq] using h5
 have t:topFrom treeTable p w N ⟨boot_heap w.params,Array.mk [],boot_drawn,boot_toks,os⟩=some s:=by
  unfold topFrom
  dsimp only
  rw [z1,z2,z3,h4]
  show (match staticsOk (importedModules p.main.body) (boot_heap w.params) s.heap&&namesBound p s.heap&&gensDone s&&laidKept (boot_heap w.params) s.heap with|true=>_|false=>_)=_
  rw [l1]
 unfold openEnds
 rw [h1]
 show (topFrom treeTable p w N ⟨boot_heap w.params,Array.mk [],boot_drawn,boot_toks,os⟩).map _=_
 rw [t]
 show some (_,_)=_
 rw [l2,l3]
end Lay
namespace Lay
noncomputable def view01:Program:=view PySem.Challenge.pw_rr0081_01 [0,2,3,4,6,8,9,10,11,12,13,14,15,16,17,18,19,20,21]
theorem head01(H:Hook){d:DefRec}{kwd:List (Str×Expr)}(hw:(OpenLaw.row Challenge.rw_rr0081_01).toRowW.promised)(hc:WalkO view01 [] (XL view01 []) H.says (OpenLaw.row Challenge.rw_rr0081_01).toRowW d kwd fun f vs=>PySem.call f vs)
  (h : ∀ (w:World) (os:OsState),(Fast.tw14082659384304107361 Fast.tw14364793385576792824 (OpenLaw.row Challenge.rw_rr0081_01).prog w 11 (some (.ref 6)) 3418 ⟨boot_heap w.params,Array.mk [],boot_drawn,boot_toks,os⟩ (topStub (OpenLaw.row Challenge.rw_rr0081_01).prog)).map
    (fun s=>(staticsOk (Fast.tw5923862056798008813 (OpenLaw.row Challenge.rw_rr0081_01).prog.main.body) (boot_heap w.params) s.heap&&namesBound (OpenLaw.row Challenge.rw_rr0081_01).prog s.heap&&gensDone s&&laidKept (boot_heap w.params) s.heap,Fast.tw4187177175401517315 view01 [] (Fast.tw5923862056798008813 (OpenLaw.row Challenge.rw_rr0081_01).prog.main.body) (fun s=>xlAt view01 [] s&&recOk (OpenLaw.row Challenge.rw_rr0081_01).toRowW.records s) true s,H.obs s))=some (true,openGood view01 [],H.val w):=by exact fun _ _=>by kernel_rfl)
  (hdef:defOf view01 (OpenLaw.row Challenge.rw_rr0081_01).name=some (d,kwd):=by rfl) (hp:(OpenLaw.row Challenge.rw_rr0081_01).prog.theDef (OpenLaw.row Challenge.rw_rr0081_01).name=some (d.params,d.body,d.scope):=by rfl) (hk:kwWritten? d.params.kwonlyargs d.params.kw_defaults=some kwd:=by rfl)
  (k1:(OpenLaw.row Challenge.rw_rr0081_01).wellSaid=true:=by assumption):(OpenLaw.row Challenge.rw_rr0081_01).Holds :=
 holds_open (q:=view01) (loose := []) (Xt:=fun s=>xlAt view01 [] s&&recOk (RowW.records (OpenRow.toRowW (OpenLaw.row Challenge.rw_rr0081_01))) s) (XP:=XL view01 []) (Yf:=H.obs) (Ya:=H.val) (YP:=H.says) (N:=3418)
  (H1 (m₀:=11) (ann:=some (.ref 6)) (by kernel_rfl) (by kernel_rfl) (fun s=>by kernel_rfl) (fun w=>by kernel_rfl) h) H.of H.keeps (fun s e=>xl_of s (Bool.and_eq_true_iff.mp e).1) XL.keeps hdef hp hk (fun s e=>recFacts_of (Bool.and_eq_true_iff.mp e).2) (by rfl) k1 (by decide +kernel) ⟨rfl,rfl,rfl,rfl,rfl,by decide +kernel⟩ hw hc
theorem law01(h:(OpenLaw.row Challenge.rw_rr0081_01).wellSaid=true->(OpenLaw.row Challenge.rw_rr0081_01).Holds):Challenge.rw_rr0081_01.Holds:=holds_law (by kernel_rfl) h
local macro_rules | `(tactic| o_head $H) => `(tactic| refine head01 $H ?hw ?hc)
local macro_rules | `(tactic| o_law) => `(tactic| refine law01 fun said => ?_)
open_top hd01 for PySem.Challenge.rw_rr0081_01
end Lay
namespace Lay
namespace L01
noncomputable abbrev Wd01(w:World)(l:List Str)(mg mb:Str->Option Value):Wd:=⟨Challenge.rw_rr0081_01.row.prog,w,Lay.hd01.heap_1 w.params,view01,l,mg,mb⟩
variable{w:World}{l:List Str}{mg mb:Str->Option Value}{p:Params}
noncomputable abbrev HP(p:Params):Frag:=Lay.hd01.heap_1 p
theorem F1:Cc (HP p) (Z5k "_law_are_plain") 292:=⟨by rfl,by rfl⟩
theorem U1:Cc (HP p) (Z5k "_law_mask") 250:=⟨by rfl,by rfl⟩
theorem W3:Cc (HP p) (Z5k "_law_pick") 236:=⟨by rfl,by rfl⟩
theorem Fg:Cc (HP p) (Z5k "_law_side") 243:=⟨by rfl,by rfl⟩
theorem Tb:Cc (HP p) (Z5k "_law_spread") 275:=⟨by rfl,by rfl⟩
theorem Rt:Cc (HP p) (Z5k "_law_under") 265:=⟨by rfl,by rfl⟩
theorem Xy:Cc (HP p) (Z5k "_law_variables") 270:=⟨by rfl,by rfl⟩
theorem Px:Cc (HP p) (Z5k "clause_of") 28:=⟨by rfl,by rfl⟩
theorem F4:P8 (HP p) 224 (Z5k "all_of") 172:=⟨by rfl,by rfl,by rfl,by rfl⟩
theorem Xl:P8 (HP p) 224 (Z5k "kind") 144:=⟨by rfl,by rfl,by rfl,by rfl⟩
theorem Vw:P8 (HP p) 224 (Z5k "new_gate") 158:=⟨by rfl,by rfl,by rfl,by rfl⟩
theorem Kq:P8 (HP p) 224 (Z5k "new_input") 165:=⟨by rfl,by rfl,by rfl,by rfl⟩
theorem Wf:P8 (HP p) 224 (Z5k "parts") 151:=⟨by rfl,by rfl,by rfl,by rfl⟩
theorem Bm:P8 (HP p) 224 (Z5k "size") 137:=⟨by rfl,by rfl,by rfl,by rfl⟩
theorem G0:P8 (HP p) 112 (Z5k "add_top") 109:=⟨by rfl,by rfl,by rfl,by rfl⟩
theorem Wg:P8 (HP p) 112 (Z5k "enter") 78:=⟨by rfl,by rfl,by rfl,by rfl⟩
theorem Uy:P8 (HP p) 112 (Z5k "flush") 97:=⟨by rfl,by rfl,by rfl,by rfl⟩
theorem Ga:P8 (HP p) 112 (Z5k "gate_of") 71:=⟨by rfl,by rfl,by rfl,by rfl⟩
theorem Ke:P8 (HP p) 112 (Z5k "literal_of") 104:=⟨by rfl,by rfl,by rfl,by rfl⟩
theorem Bn:P8 (HP p) 112 (Z5k "many") 57:=⟨by rfl,by rfl,by rfl,by rfl⟩
theorem Vc:P8 (HP p) 112 (Z5k "number_of") 64:=⟨by rfl,by rfl,by rfl,by rfl⟩
theorem Kr:P8 (HP p) 112 (Z5k "open_gate") 90:=⟨by rfl,by rfl,by rfl,by rfl⟩
theorem Wy:P8 (HP p) 112 (Z5k "tell") 85:=⟨by rfl,by rfl,by rfl,by rfl⟩
theorem Xc:nsIn (HP p) mainGlobals (Z5k "_law_all")=some (some (.int 65535 468)):=by rfl
theorem Je:Uv (Wd01 w l mg mb) 112 (Z5k "gates"):=⟨by rfl,by rfl,_,by rfl,by rfl⟩
theorem Qv:nsIn (HP p) mainGlobals (Z5k "abs")=some none:=by rfl
theorem Rs:nsIn (HP p) mainGlobals (Z5k "sorted")=some none:=by rfl
theorem g_set:nsIn (HP p) mainGlobals (Z5k "set")=some none:=by rfl
theorem g_dict:nsIn (HP p) mainGlobals (Z5k "dict")=some none:=by rfl
theorem Q8:nsIn (HP p) mainGlobals (Z5k "enumerate")=some none:=by rfl
theorem Iz:nsIn (HP p) mainGlobals (Z5k "place_of")=some (some (.ref 35)):=by rfl
theorem Er:nsIn (HP p) mainGlobals (Z5k "tuple")=some none:=by rfl
theorem K8:nsIn (HP p) mainGlobals (Z5k "len")=some none:=by rfl
theorem Fr:Gp (Wd01 w l mg mb) 224 (Z5k "kinds"):=⟨by rfl,by rfl,by rfl,by rfl⟩
theorem Ks:Gp (Wd01 w l mg mb) 224 (Z5k "parts_now"):=⟨by rfl,by rfl,by rfl,by rfl⟩
theorem Fs:Gp (Wd01 w l mg mb) 224 (Z5k "known"):=⟨by rfl,by rfl,by rfl,by rfl⟩
theorem Jd:Uv (Wd01 w l mg mb) 224 (Z5k "kinds"):=⟨by rfl,by rfl,_,by rfl,by rfl⟩
theorem V7:Uv (Wd01 w l mg mb) 224 (Z5k "parts_now"):=⟨by rfl,by rfl,_,by rfl,by rfl⟩
theorem V5:Uv (Wd01 w l mg mb) 224 (Z5k "known"):=⟨by rfl,by rfl,_,by rfl,by rfl⟩
theorem Bh:nsIn (HP p) mainGlobals (Z5k "_law_columns")=some (some (.ref 229)):=by rfl
theorem Bg : ∃ o,(HP p).lookup 229=some o/\o.cls = .type "tuple" /\∃ ys n,o.data = .seq ys n/\IntsAre ys.toList [43690,52428,61680,65280]:=⟨_,by rfl,by rfl,_,_,by rfl,.cons _ _ (.cons _ _ (.cons _ _ (.cons _ _ (.nil))))⟩
theorem Yj:Uv (Wd01 w l mg mb) 112 (Z5k "clauses"):=⟨by rfl,by rfl,_,by rfl,by rfl⟩
theorem Wk:Uv (Wd01 w l mg mb) 112 (Z5k "numbers"):=⟨by rfl,by rfl,_,by rfl,by rfl⟩
theorem Gf:Gp (Wd01 w l mg mb) 112 (Z5k "circuit"):=⟨by rfl,by rfl,by rfl,by rfl⟩
theorem Fu:Gp (Wd01 w l mg mb) 112 (Z5k "whole"):=⟨by rfl,by rfl,by rfl,by rfl⟩
theorem Gg:Gp (Wd01 w l mg mb) 112 (Z5k "clauses"):=⟨by rfl,by rfl,by rfl,by rfl⟩
theorem Ft:Gp (Wd01 w l mg mb) 112 (Z5k "gates"):=⟨by rfl,by rfl,by rfl,by rfl⟩
theorem Gh:Gp (Wd01 w l mg mb) 112 (Z5k "numbers"):=⟨by rfl,by rfl,by rfl,by rfl⟩
theorem Fa:Gp (Wd01 w l mg mb) 112 (Z5k "opened"):=⟨by rfl,by rfl,by rfl,by rfl⟩
theorem Gi:Gp (Wd01 w l mg mb) 112 (Z5k "waiting"):=⟨by rfl,by rfl,by rfl,by rfl⟩
theorem F0:nsIn (HP p) mainGlobals (Z5k "range")=some none:=by rfl
theorem Uw:Uv (Wd01 w l mg mb) 112 (Z5k "whole"):=⟨by rfl,by rfl,_,by rfl,by rfl⟩
theorem Ub:Uv (Wd01 w l mg mb) 112 (Z5k "opened"):=⟨by rfl,by rfl,_,by rfl,by rfl⟩
theorem Jn:Uv (Wd01 w l mg mb) 112 (Z5k "waiting"):=⟨by rfl,by rfl,_,by rfl,by rfl⟩
theorem Yu:Uv (Wd01 w l mg mb) 112 (Z5k "circuit"):=⟨by rfl,by rfl,_,by rfl,by rfl⟩
theorem H0:nsIn (HP p) mainGlobals (Z5k "reversed")=some none:=by rfl
theorem Z0b:nsIn (HP p) mainGlobals (Z5k "list")=some none:=by rfl
theorem kp_224:keepIn (HP p) (.ref 224)=true:=by rfl
theorem mk_224:makesIn (HP p) 224=true:=by rfl
theorem Bo:findIn (HP p) (.ref 224) (Z5k "__init__")=some (some (.ref 130)):=by rfl
theorem ty_130:typeIn (HP p) (.ref 130)=some (.type "function"):=by rfl
theorem Eo:nsIn (HP p) mainGlobals (Z5k "Circuit")=some (some (.ref 224)):=by rfl
theorem g_int:nsIn (HP p) mainGlobals (Z5k "int")=some none:=by rfl
theorem Z0f:keepIn (HP p) (.ref 260)=true:=by rfl
theorem Ff:nsIn (HP p) mainGlobals (Z5k "_law_input")=some (some (.ref 260)):=by rfl
theorem Z0e:keepIn (HP p) (.ref 255)=true:=by rfl
theorem Bf:nsIn (HP p) mainGlobals (Z5k "_law_gate")=some (some (.ref 255)):=by rfl
theorem kp_112:keepIn (HP p) (.ref 112)=true:=by rfl
theorem mk_112:makesIn (HP p) 112=true:=by rfl
theorem Bp:findIn (HP p) (.ref 112) (Z5k "__init__")=some (some (.ref 50)):=by rfl
theorem ty_50:typeIn (HP p) (.ref 50)=some (.type "function"):=by rfl
theorem Ep:nsIn (HP p) mainGlobals (Z5k "Clauses")=some (some (.ref 112)):=by rfl
theorem kp_287:keepIn (HP p) (.ref 287)=true:=by rfl
theorem Gy:nsIn (HP p) mainGlobals (Z5k "_law_deed_right")=some (some (.ref 287)):=by rfl
theorem kp_282:keepIn (HP p) (.ref 282)=true:=by rfl
theorem Gz:nsIn (HP p) mainGlobals (Z5k "_law_rows_right")=some (some (.ref 282)):=by rfl
theorem Um:Xo (Wd01 w l mg mb) (.ref 250) 700 (3+1) (Y4 700 2 W9):=by
 refine FD 720 (b:=fun s xs hl hk=>Q3 hl (fun a b=>by rfl)) (c:=?_)
 exact fun A L mid=>(Z2 (Zn (Jz (Z7 SV Z6 Te) (Zl SV SV) (Zk (X9 Xc (by rfl)) (Zl SV (Y5 SV Jp)) Jr))) Zc)
theorem Gu:Xo (Wd01 w l mg mb) (.ref 71) 680 (3+1) (Y4 680 2 J2):=by
 refine FD 700 (b:=fun s xs hl hk=>Q3 hl (fun a b=>by rfl)) (c:=?_)
 exact fun A L mid=>(Z2 (Zn (Zl (Zz Je SV) SV)) Zc)
theorem Fp:Xo (Wd01 w l mg mb) (.ref 292) 660 (3+1) (Y4 660 1 We):=by
 refine FD 680 (b:=fun s xs hl hk=>T3 hl (fun a=>by rfl)) (c:=?_)
 exact fun A L mid=>(Z2 (J5 SV (SimA.name SL) (Z2 (U8 none trivial SV (by rfl) (by rfl) (fun _=>SimT.nil) (fun _=>(B1 Qv SV Vz)) SL) (Z2 (X3 (Z7 SV (R6 (SB Rs) (SB g_set) trivial SV) Uj) (Z2 (Zn Zt) Zc) Zc) Zc))) (Z2 (Zn Zt) Zc))
theorem Rn:Xo (Wd01 w l mg mb) (.ref 275) 640 (3+1) (Y4 640 2 Vl):=by
 refine FD 660 (b:=fun s xs hl hk=>Q3 hl (fun a b=>by rfl)) (c:=?_)
 exact fun A L mid=>(Z2 (U7 (Z3 (C1 (SB g_dict) CallOk.type SV (Co (nB rfl) (.inr (nB rfl)))) (Z3 Z6 (Z3 Zt Zf))) (.cons (SimSts.name (Uk (by rfl) (by rfl) (by rfl))) (.cons (SimSts.name SL) (.cons (SimSts.name SL) .nil)))) (Z2 (Qj (V1 SV) (Z2 (Zx Zt SL) (Z2 (J5 SV (SimA.name SL) (Z2 (U8 none trivial SV (by rfl) (by rfl) (fun _=>SimT.nil) (fun _=>(M2 _ SW (Y5 SV Jp) Z6 (MethAt.dict PySem.F.slot_dict_get PySem.F.type_dict_get) CallOk.builtin Na)) SL) (Z2 (Q1 (SB Q8) SV SL SL (Z2 (Zx (Zk (X9 Xc (by rfl)) (M2 _ SW SV Z6 (MethAt.dict PySem.F.slot_dict_get PySem.F.type_dict_get) CallOk.builtin Na) Jr) SL) (Z2 (Q1 (SB Q8) SV SL SL (Z2 (Zx (Jz (Z7 SV SV Uj) (Zk SV SV Kz) SV) SL) Zc)) (Z2 (X3 (Z7 SV Z6 Uj) (Z2 (Xg (Zk (M2 _ SW SV Z6 (MethAt.dict PySem.F.slot_dict_get PySem.F.type_dict_get) CallOk.builtin Na) SV vOr_K) SW SV) (Z2 (Zx Zt SL) Zc)) Zc) Zc)))) (Z2 (Zx (X9 Xc (by rfl)) SL) (Z2 (J5 SV (SimA.name SL) (Z2 (Zx (Zk SV SV Kz) SL) Zc)) (Z2 (Zx (Zk SV SV vOr_K) SL) Zc)))))) Zc))) (Z2 (Il 640 (Zn (V0 (Z3 SW (Z3 SV Zf)))) (nB rfl)) Zc)))
theorem Iv:Xo (Wd01 w l mg mb) (.ref 35) 620 (3+1) (Y4 620 1 Vo):=by
 refine FD 640 (b:=fun s xs hl hk=>T3 hl (fun a=>by rfl)) (c:=?_)
 exact fun A L mid=>(Z2 (Zn (V0 (Z3 (B1 Qv SV Vz) (Z3 SV Zf)))) Zc)
theorem Mc:Xo (Wd01 w l mg mb) (.ref 28) 600 (6+1) (Y4 600 1 Uq):=by
 refine FD 620 (b:=fun s xs hl hk=>T3 hl (fun a=>by rfl)) (c:=?_)
 exact fun A L mid=>(Z2 (Zx (Vq 600 _ Th (nB rfl) (.inr (nB rfl))) SL) (Z2 (J5 SV (SimA.name SL) (Z2 (X3 (Z7 (Y5 SV Jp) SV vIn_K) (Z2 (Zn Ku) Zc) Zc) (Z2 (Xg Zt SV SV) Zc))) (Z2 (Zn (C1 (SB Er) CallOk.type (B2 (SB Rs) SV (Xr Iz (by rfl)) trivial Iv (nB rfl) (nB rfl)) L8)) Zc)))
theorem Wr:Xo (Wd01 w l mg mb) (.ref 236) 580 (3+1) (Y4 580 2 Xd):=by
 refine FD 600 (b:=fun s xs hl hk=>Q3 hl (fun a b=>by rfl)) (c:=?_)
 exact fun A L mid=>(Z2 (Xg (Zk (Zl SV Zr) Z6 (Uz trivial)) SV Zr) (Z2 (X3 (Z7 (Zl SV Zr) (B1 K8 (Zl SV Zr) V8) vLe_K) (Z2 (Zn (Zk (Zl (Zl SV Zr) (Zk (Zl SV Zr) Z6 Jr)) SV Ig)) Zc) Zc) (Z2 (Zn (Zk (Zk (Zk (Zk (Zk (Zk Z6 (Zl SV Zr) C9) (Zl SV Zr) C9) (Zk Z6 (Zl SV Zr) C9) (Uz trivial)) Z6 (Uz trivial)) Z6 Ig) SV Ig)) Zc)))
theorem Bc:Xo (Wd01 w l mg mb) (.ref 243) 570 (6+1) (Y4 570 2 Jj):=by
 refine FD 580 (b:=fun s xs hl hk=>Q3 hl (fun a b=>by rfl)) (c:=?_)
 exact fun A L mid=>(Z2 (Zx (Zl SV (Zk (Zk (B1 K8 SV V8) Z6 Jr) (G2 W3 SV (B1 K8 SV V8) Wr) Jr)) SL) (Z2 (Zn (Jz (Z7 (G2 W3 SV Z6 Wr) Z6 Ui) SV (Y5 SV Jp))) Zc))
theorem Fn:Xo (Wd01 w l mg mb) (.ref 130) 560 (3+1) (Y4 560 1 Jg):=by
 refine FD 570 (b:=fun s xs hl hk=>T3 hl (fun a=>by rfl)) (c:=?_)
 exact fun A L mid=>(Z2 (Yt Fr (X2 (some 3) (Z3 Zr (Z3 Zr Zf)) ⟨(nB rfl),.inl (nB rfl)⟩) SV) (Z2 (Yt Ks (X2 (some 4) (Z3 (V0 Zf) (Z3 (V0 Zf) Zf)) ⟨(nB rfl),.inl (nB rfl)⟩) SV) (Z2 (Yt Fs (Vq 5 _ emptyT (nB rfl) (.inl (nB rfl))) SV) Zc)))
theorem T9:Xo (Wd01 w l mg mb) (.ref 137) 540 (3+1) (Y4 540 1 Jx):=by
 refine FD 560 (b:=fun s xs hl hk=>T3 hl (fun a=>by rfl)) (c:=?_)
 exact fun A L mid=>(Z2 (Zn (Zk (B1 K8 (Zz Jd SV) V8) Z6 Jr)) Zc)
theorem Xv:Xo (Wd01 w l mg mb) (.ref 144) 520 (3+1) (Y4 520 2 Y3):=by
 refine FD 540 (b:=fun s xs hl hk=>Q3 hl (fun a b=>by rfl)) (c:=?_)
 exact fun A L mid=>(Z2 (Zn (Zl (Zz Jd SV) (B1 Qv SV Vz))) Zc)
theorem Wo:Xo (Wd01 w l mg mb) (.ref 151) 500 (3+1) (Y4 500 2 X5):=by
 refine FD 520 (b:=fun s xs hl hk=>Q3 hl (fun a b=>by rfl)) (c:=?_)
 exact fun A L mid=>(Z2 (Zn (Zl (Zz V7 SV) (B1 Qv SV Vz))) Zc)
theorem U0:Xo (Wd01 w l mg mb) (.ref 158) 480 (3+1) (Y4 480 3 X8):=by
 refine FD 500 (b:=fun s xs hl hk=>bind3 hl (fun a b c=>by rfl)) (c:=?_)
 exact fun A L mid=>(Z2 (Yq (AP _ (Zz Jd SV) SV)) (Z2 (Yq (AP _ (Zz V7 SV) SV)) (Z2 (Zn (Zk (B1 K8 (Zz Jd SV) V8) Z6 Jr)) Zc)))
theorem Q4:Xo (Wd01 w l mg mb) (.ref 165) 460 (6+1) (Y4 460 1 W7):=by
 refine FD 480 (b:=fun s xs hl hk=>T3 hl (fun a=>by rfl)) (c:=?_)
 exact fun A L mid=>(Z2 (Zn (D2 _ SV Zr (V0 Zf) Vw U0)) Zc)
theorem Fm:Xo (Wd01 w l mg mb) (.ref 172) 440 (6+1) (Y4 440 2 Jf):=by
 refine FD 460 (b:=fun s xs hl hk=>Q3 hl (fun a b=>by rfl)) (c:=?_)
 exact fun A L mid=>(Z2 (Zx (Vq 440 _ Th (nB rfl) (.inr (nB rfl))) SL) (Z2 (J5 SV (SimA.name SL) (Z2 (X3 (Yy (X6 (Z7 SV (Y5 Z6 Jp) Ui) (X6 (Z7 (Y5 SV Jp) SV vIn_K) Ua))) (Z2 (Zn (Y5 Z6 Jp)) Zc) Zc) (Z2 (X3 (Z7 SV Z6 Uj) (Z2 (Xg Zt SV SV) Zc) Zc) Zc))) (Z2 (Zx (C1 (SB Er) CallOk.type (B1 Rs SV (E3 trivial)) L8) SL) (Z2 (X3 (Z7 (B1 K8 SV V8) Z6 vLt_K) (Z2 (Zn (Jz (Z7 (B1 K8 SV V8) Z6 Ui) (Zl SV Z6) Z6)) Zc) Zc) (Z2 (X3 (Z7 SV (Zz V5 SV) U6) (Z2 (Xg (D2 _ SV Zr SV Vw U0) (Zz V5 SV) SV) Zc) Zc) (Z2 (Zn (Zl (Zz V5 SV) SV)) Zc))))))
theorem Fe:Xo (Wd01 w l mg mb) (.ref 260) 380 (9+1) (Y4 380 3 W4):=by
 refine FD 400 (b:=fun s xs hl hk=>bind3 hl (fun a b c=>by rfl)) (c:=?_)
 exact fun A L mid=>(Z2 (Yq (AP _ SV (D0 _ SW Kq Q4))) (Z2 (Xg (Tz Bh Bg (B1 K8 (Hv (nB rfl) SV (by rfl) (by rfl) (fun _=>(SimT.one (Z7 (D1 _ SW SV Xl Xv) Zr Ui))) (fun _=>SV)) V8) (by rfl)) SV (Zl SV (Y5 Z6 Jp))) Zc))
theorem Ps:Xo (Wd01 w l mg mb) (.ref 265) 360 (6+1) (Y4 360 2 U4):=by
 refine FD 380 (b:=fun s xs hl hk=>Q3 hl (fun a b=>by rfl)) (c:=?_)
 exact fun A L mid=>(Z2 (X1 (names := [(Z5k "found"),(Z5k "waiting")]) (Z3 (X2 (some 361) Zf ⟨(nB rfl),.inr (nB rfl)⟩) (Z3 (X2 (some 360) (Z3 (B1 Qv SV Vz) Zf) ⟨(nB rfl),.inr (nB rfl)⟩) Zf)) (.cons (SimSts.bind SL) (.cons (SimSts.bind SL) .nil)) (by rfl)) (Z2 (Qj (Z7 SV (X2 none Zf trivial) Uj) (Z2 (Zx (M0 _ SV (MethAt.list PySem.F.slot_list_pop PySem.F.type_list_pop) CallOk.builtin De) SL) (Z2 (X3 (Z7 SV SV U6) (Z2 (Yq (AP _ SV SV)) (Z2 (Zx (Zk SV (Vy none trivial (D1 _ SV SV Wf Wo) (by rfl) (by rfl) (fun _=>SimT.nil) (fun _=>(B1 Qv SV Vz))) (Uz ⟨(nB rfl),.inr (nB rfl)⟩)) SL) (Cj 360 362 Zc (by decide) (nB rfl) (nB rfl) (nB rfl)))) Zc) Zc))) (Z2 (Zn SV) Zc)))
theorem J8:Xo (Wd01 w l mg mb) (.ref 85) 340 (9+1) (Y4 340 2 Xj):=by
 refine FD 360 (b:=fun s xs hl hk=>Q3 hl (fun a b=>by rfl)) (c:=?_)
 exact fun A L mid=>(Z2 (Zx (G1 Px SV Mc) SL) (Z2 (X3 (Z7 SV Ku Z02) (Z2 (Yq (AP _ (Zz Yj SV) SV)) Zc) Zc) Zc))
theorem Ta:Xo (Wd01 w l mg mb) (.ref 57) 320 (3+1) (Y4 320 1 Jy):=by
 refine FD 340 (b:=fun s xs hl hk=>T3 hl (fun a=>by rfl)) (c:=?_)
 exact fun A L mid=>(Z2 (Zn (Zk (B1 K8 (Zz Je SV) V8) Z6 Jr)) Zc)
theorem Vs:Xo (Wd01 w l mg mb) (.ref 64) 300 (3+1) (Y4 300 2 Xk):=by
 refine FD 320 (b:=fun s xs hl hk=>Q3 hl (fun a b=>by rfl)) (c:=?_)
 exact fun A L mid=>(Z2 (X3 (Z7 SV (Zz Wk SV) U6) (Z2 (Xg (B1 K8 (Zz Je SV) V8) (Zz Wk SV) SV) (Z2 (Yq (AP _ (Zz Je SV) SV)) Zc)) Zc) (Z2 (Zn (Zl (Zz Wk SV) SV)) Zc))
theorem Fo:Xo (Wd01 w l mg mb) (.ref 50) 280 (6+1) (Y4 280 3 Jh):=by
 refine FD 300 (b:=fun s xs hl hk=>bindD3 hl (fun a b c=>binds_K hk (by rfl) (by rfl) (by rfl) (by rfl) (by rfl))) (c:=?_)
 exact fun A L mid=>(Z2 (Yt Gf SV SV) (Z2 (Yt Fu SV SV) (Z2 (Yt Gg (X2 (some 8) Zf ⟨(nB rfl),.inl (nB rfl)⟩) SV) (Z2 (Yt Ft (X2 (some 9) (Z3 Z6 Zf) ⟨(nB rfl),.inl (nB rfl)⟩) SV) (Z2 (Yt Gh (Vq 10 _ Th (nB rfl) (.inl (nB rfl))) SV) (Z2 (Yt Fa (Vq 11 _ Th (nB rfl) (.inl (nB rfl))) SV) (Z2 (Yt Gi (X2 (some 12) Zf ⟨(nB rfl),.inl (nB rfl)⟩) SV) (Z2 (J5 (C2 (SB F0) CallOk.type Z6 (Zk (D0 _ SV Bm T9) Z6 (Uz trivial)) Ki) (SimA.name SL) (Z2 (X3 (Z7 (D1 _ SV SV Xl Xv) Zr Ui) (Z2 (Yq (D1 _ SV SV Vc Vs)) Zc) Zc) Zc)) Zc))))))))
theorem Wq:Xo (Wd01 w l mg mb) (.ref 78) 260 (6+1) (Y4 260 2 Yw):=by
 refine FD 280 (b:=fun s xs hl hk=>Q3 hl (fun a b=>by rfl)) (c:=?_)
 exact fun A L mid=>(Z2 (Zx (B1 Qv SV Vz) SL) (Z2 (Zx (D1 _ SV SV Vc Vs) SL) (Z2 (J5 (Jz (Z7 (Zz Uw SV) Z6 Te) (V0 (Z3 SV (Z3 (Y5 SV Jp) Zf))) (V0 (Z3 SV Zf))) (SimA.name SL) (Z2 (X3 (Z7 SV (Zz Ub SV) U6) (Z2 (Xg Zt (Zz Ub SV) SV) (Z2 (Yq (AP _ (Zz Jn SV) SV)) Zc)) Zc) Zc)) (Z2 (Zn (Jz (Z7 SV Z6 Te) SV (Y5 SV Jp))) Zc))))
theorem Q5:Xo (Wd01 w l mg mb) (.ref 90) 240 (12+1) (Y4 240 2 W8):=by
 refine FD 260 (b:=fun s xs hl hk=>Q3 hl (fun a b=>by rfl)) (c:=?_)
 exact fun A L mid=>(Z2 (X1 (names := [(Z5k "kind"),(Z5k "number")]) (Z3 (D1 _ (Zz Yu SW) (B1 Qv SV Vz) Xl Xv) (Z3 (Zl (Zz Wk SW) (B1 Qv SV Vz)) Zf)) (.cons (SimSts.bind SL) (.cons (SimSts.bind SL) .nil)) (by rfl)) (Z2 (X3 (Z7 SV Zr Ui) (Z2 (Yq (D1 _ SW (X2 none (Z3 SV Zf) trivial) Wy J8)) Zc) (Z2 (X3 (Yy (Xa (Z7 SV Zr Ui) (Xa (Z7 SV Z6 Te) Vm))) (Z2 (J5 (D1 _ (Zz Yu SW) SV Wf Wo) (SimA.name SL) (Z2 (Yq (D1 _ SW (X2 none (Z3 (Y5 SV Jp) (Z3 (D1 _ SW SV Wg Wq) Zf)) trivial) Wy J8)) Zc)) Zc) (Z2 (X3 (Z7 SV Zr Ui) (Z2 (Yq (D1 _ SW (Zk (X2 none (Z3 SV Zf) trivial) (Vy none trivial (D1 _ (Zz Yu SW) (Y5 SV Jp) Wf Wo) (by rfl) (by rfl) (fun _=>SimT.nil) (fun _=>(D1 _ SW (Y5 SV Jp) Wg Wq))) (Uz trivial)) Wy J8)) Zc) Zc) Zc)) Zc)) Zc))
theorem K5:Xo (Wd01 w l mg mb) (.ref 97) 220 (15+1) (Y4 220 1 Ww):=by
 refine FD 240 (b:=fun s xs hl hk=>T3 hl (fun a=>by rfl)) (c:=?_)
 exact fun A L mid=>(Z2 (Qj (Z7 (B1 K8 (Zz Jn SV) V8) Z6 Te) (Z2 (Yq (D1 _ SV (M0 _ (Zz Jn SV) (MethAt.list PySem.F.slot_list_pop PySem.F.type_list_pop) CallOk.builtin De) Kr Q5)) Zc)) Zc)
theorem Kp:Xo (Wd01 w l mg mb) (.ref 104) 200 (18+1) (Y4 200 2 Xf):=by
 refine FD 220 (b:=fun s xs hl hk=>Q3 hl (fun a b=>by rfl)) (c:=?_)
 exact fun A L mid=>(Z2 (Zx (D1 _ SV SV Wg Wq) SL) (Z2 (Yq (D0 _ SV Uy K5)) (Z2 (Zn SV) Zc)))
theorem Gs:Xo (Wd01 w l mg mb) (.ref 109) 180 (18+1) (Y4 180 2 W0):=by
 refine FD 200 (b:=fun s xs hl hk=>Q3 hl (fun a b=>by rfl)) (c:=?_)
 exact fun A L mid=>(Z2 (X1 (names := [(Z5k "waiting"),(Z5k "seen")]) (Z3 (X2 (some 181) (Z3 SV Zf) ⟨(nB rfl),.inr (nB rfl)⟩) (Z3 (Vq 180 _ Th (nB rfl) (.inr (nB rfl))) Zf)) (.cons (SimSts.bind SL) (.cons (SimSts.bind SL) .nil)) (by rfl)) (Z2 (Qj (Z7 (B1 K8 SV V8) Z6 Te) (Z2 (Zx (M0 _ SV (MethAt.list PySem.F.slot_list_pop PySem.F.type_list_pop) CallOk.builtin De) SL) (Z2 (X3 (Z7 SV SV vIn_K) (Z2 Pc Zc) Zc) (Z2 (Xg Zt SV SV) (Z2 (Zx (D1 _ (Zz Yu SW) (B1 Qv SV Vz) Xl Xv) SL) (Z2 (X3 (Yy (Xa (Z7 SV Zr Ui) (Xa (Z7 SV Z6 Te) Vm))) (Z2 (Yq (Ij _ (SB H0) SV (D1 _ (Zz Yu SW) SV Wf Wo))) Zc) (Z2 (X3 (Z7 SV Zr Ui) (Z2 (Yq (D1 _ SW (Vy none trivial (D1 _ (Zz Yu SW) (Y5 SV Jp) Wf Wo) (by rfl) (by rfl) (fun _=>SimT.nil) (fun _=>(D1 _ SW (Y5 SV Jp) Wg Wq))) Wy J8)) Zc) (Z2 (X3 (Z7 SV Z6 Uj) (Z2 (Yq (D1 _ SW (Jz (Z7 SV Zr Ui) (X2 none (Z3 (D1 _ SW SV Wg Wq) Zf) trivial) (X2 none Zf trivial)) Wy J8)) Zc) Zc) Zc)) Zc)) Zc)))))) (Z2 (Yq (D0 _ SW Uy K5)) Zc)))
theorem Wb:Xo (Wd01 w l mg mb) (.ref 270) 170 (6+1) (Y4 170 1 Y7):=by
 refine FD 180 (b:=fun s xs hl hk=>T3 hl (fun a=>by rfl)) (c:=?_)
 exact fun A L mid=>(Z2 (Zn (Vy none trivial (C2 (SB F0) CallOk.type Z6 (Zk (D0 _ SW Bn Ta) Z6 (Uz trivial)) Ki) (by rfl) (by rfl) (fun _=>SimT.nil) (fun _=>(D1 _ SW SV Ga Gu)))) Zc)
theorem Bb:Xo (Wd01 w l mg mb) (.ref 255) 160 (9+1) (Y4 160 4 Wx):=by
 refine FD 170 (b:=fun s xs hl hk=>bind4 hl (fun a b c d=>by rfl)) (c:=?_)
 exact fun A L mid=>(Z2 (X1 (names := [(Z5k "some"),(Z5k "due")]) (Z3 (Vy none trivial (C1 (SB F0) CallOk.type (Zk Z6 (G2 W3 SW Z6 Wr) (Uz trivial)) Ki) (by rfl) (by rfl) (fun _=>SimT.nil) (fun _=>(G2 Fg SW SW Bc))) (Z3 (X9 Xc (by rfl)) Zf)) (.cons (SimSts.bind SL) (.cons (SimSts.bind SL) .nil)) (by rfl)) (Z2 (J5 SV (SimA.name SL) (Z2 (Zx (Zk SV (G2 U1 SV SV Um) Kz) SL) Zc)) (Z2 (Zx (D1 _ SV SV F4 Fm) SL) (Z2 (Yq (M2 _ SV (B1 Qv SV Vz) SV (MethAt.dict PySem.F.slot_dict_setdefault PySem.F.type_dict_setdefault) CallOk.builtin mSetD_C)) (Z2 (Yq (AP _ SW SV)) (Z2 (Zn (Wn (G2 U1 SV SV Um) SV Ui)) Zc))))))
theorem Gw:Xo (Wd01 w l mg mb) (.ref 282) 140 (9+1) (Y4 140 4 W2):=by
 refine FD 160 (b:=fun s xs hl hk=>bind4 hl (fun a b c d=>by rfl)) (c:=?_)
 exact fun A L mid=>(Z2 (X1 (names := [(Z5k "held"),(Z5k "known"),(Z5k "gates")]) (Z3 (X9 Xc (by rfl)) (Z3 (Vq 140 _ Th (nB rfl) (.inr (nB rfl))) (Z3 (G1 Xy SV Wb) Zf))) (.cons (SimSts.bind SL) (.cons (SimSts.bind SL) (.cons (SimSts.bind SL) .nil))) (by rfl)) (Z2 (J5 SV (SimA.name SL) (Z2 (Zx (Zk SV (G2 U1 SV SV Um) Kz) SL) Zc)) (Z2 (Q1 (SB Q8) SV SL SL (Z2 (X3 (Z7 (D1 _ (Zz Yu SV) SV Xl Xv) Zr Ui) (Z2 (Ty (Zl SV SV) (Zk (X9 Xc (by rfl)) (Zl SV SV) Jr) (SimA.sub SV (Zk SV Z6 (Uz trivial))) (SimA.sub SV (Zk (Y5 SV Jp) Z6 Jr))) Zc) Zc) Zc)) (Z2 (Tx (G2 Tb (Zz Yj SV) SV Rn) (.cons (SimSts.name SL) (.cons (SimSts.name SL) .nil))) (Z2 (X3 (Z7 SV (Zk (X9 Xc (by rfl)) SV Jr) Uj) (Z2 (Zn Zt) Zc) Zc) (Z2 (J5 (Zz Yj SV) (SimA.name SL) (Z2 (Zx Z6 SL) (Z2 (J5 SV (SimA.name SL) (Z2 (Zx (Zk SV (Jz (Z7 SV Z6 Te) (Zl SV (Zl SV (Zk SV Z6 Jr))) (Zk (X9 Xc (by rfl)) (Zl SV (Zl SV (Zk (Y5 SV Jp) Z6 Jr))) Jr)) vOr_K) SL) Zc)) (Z2 (X3 (Z7 (Zk SV (Zk (X9 Xc (by rfl)) SV Jr) Kz) Z6 Uj) (Z2 (Zn Zt) Zc) Zc) Zc)))) (Z2 (J5 SV (SimA.tuple (.cons (SimSts.name SL) (.cons (SimSts.name SL) .nil))) (Z2 (X1 (names := [(Z5k "rows"),(Z5k "yes"),(Z5k "no")]) (Z3 (G2 U1 SV SV Um) (Z3 (Zk (M2 _ SV SV Z6 (MethAt.dict PySem.F.slot_dict_get PySem.F.type_dict_get) CallOk.builtin Na) SV Kz) (Z3 (Zk (M2 _ SV (Y5 SV Jp) Z6 (MethAt.dict PySem.F.slot_dict_get PySem.F.type_dict_get) CallOk.builtin Na) SV Kz) Zf))) (.cons (SimSts.bind SL) (.cons (SimSts.bind SL) (.cons (SimSts.bind SL) .nil))) (by rfl)) (Z2 (X3 (Yy (X6 (Z7 SV (Zk SV (Zk (X9 Xc (by rfl)) SV Jr) Kz) Uj) (X6 (Z7 (Zk SV (Zk (X9 Xc (by rfl)) SV Jr) Kz) Z6 Uj) (X6 (Yy (Xa (Z7 (Zz Uw SV) Z6 Ui) (Xa (Z7 SV (Zk SV SV Kz) Uj) Vm))) Ua)))) (Z2 (Zn Zt) Zc) Zc) Zc))) (Z2 (Zn Zt) Zc))))))))
theorem Gv:Xo (Wd01 w l mg mb) (.ref 287) 120 (21+1) (Y4 120 6 W1):=by
 refine FD 140 (b:=fun s xs hl hk=>bind6 hl (fun a b c d e f=>by rfl)) (c:=?_)
 exact fun A L mid=>(Z2 (X1 (names := [(Z5k "is_top"),(Z5k "gate")]) (Z3 (Wn (G2 W3 SV Z6 Wr) Z6 Ui) (Z3 (G2 Fg SV (Zk (X2 none (Z3 Z6 Zf) trivial) SV (Uz trivial)) Bc) Zf)) (.cons (SimSts.bind SL) (.cons (SimSts.bind SL) .nil)) (by rfl)) (Z2 (U7 (Z3 (C1 (SB Z0b) CallOk.type (Zz Yj SV) (E2 trivial)) (Z3 (G1 Xy SV Wb) (Z3 (G2 Rt SW SV Ps) Zf))) (.cons (SimSts.name SL) (.cons (SimSts.name SL) (.cons (SimSts.name (Uk (by rfl) (by rfl) (by rfl))) .nil)))) (Z2 (X3 (V1 SV) (Z2 (Yq (AP _ SV SV)) (Z2 (Yq (D1 _ SV SV G0 Gs)) Zc)) (Z2 (Yq (AP _ SV (V0 (Z3 SV (Z3 (D1 _ SV SV Ke Kp) Zf))))) Zc)) (Z2 (Zx (G1 Xy SV Wb) (Uk (by rfl) (by rfl) (by rfl))) (Z2 (Zx (Ci none trivial SW (B1 K8 SV V8)) SL) (Z2 (X3 (Yy (X6 (Z7 (R8 none trivial (Zz Yj SV) (B1 K8 SV V8)) SV Uj) (X6 (Z7 (R8 none trivial SW (B1 K8 SV V8)) SV Uj) (X6 (Z7 (Ik (SB K8) (SB g_set) SW) (B1 K8 SW V8) Uj) Ua)))) (Z2 (Zn Zt) Zc) Zc) (Z2 (X3 (Z7 (Vy none trivial SV (by rfl) (by rfl) (fun _=>(SimT.one (Z7 SV SW U6))) (fun _=>SV)) (X2 none Zf trivial) Uj) (Z2 (Zn Zt) Zc) Zc) (Z2 (X3 (V1 SV) (Z2 (U8 none trivial SW (by rfl) (by rfl) (fun _=>(SimT.one (Yy (Xa (Z7 (D1 _ SW SV Xl Xv) Zr Ui) (Xa (Z7 SV SW U6) Vm))))) (fun _=>SV) SL) (Z2 (Zn (Ch (Wn SV (X2 none Zf trivial) Ui) (L0 (Sim_BOr (Wn (D1 _ SW SV Xl Xv) Zr Uj) (L0 (Wn (B1 Qv SV Vz) SV U6)))))) Zc)) Zc) (Z2 (Zx (Zl (Zl SV (Y5 Z6 Jp)) Z6) SL) (Z2 (X3 (Yy (X6 (Z7 (Zl SW (Zk (B1 Qv SV Vz) Z6 Jr)) (B1 Qv SV Vz) Uj) (X6 (Z7 (Wn SV Z6 Te) (Wn SV Z6 Te) Uj) Ua))) (Z2 (Zn Zt) Zc) Zc) (Z2 (Zn (Wn (Vy none trivial SW (by rfl) (by rfl) (fun _=>(SimT.one (Z7 SV SW U6))) (fun _=>SV)) (X2 none Zf trivial) Ui)) Zc)))))))))))
theorem f_law:Xo (Wd01 w l mg mb) (.ref 297) 100 (24+1) (Y4 100 1 A9):=by
 refine FD 120 (b:=fun s xs hl hk=>T3 hl (fun a=>by rfl)) (c:=?_)
 exact fun A L mid=>(Z2 (X1 (names := [(Z5k "sack"),(Z5k "circuit"),(Z5k "masks")]) (Z3 (M6 101 (SimQ.cons Zr (Vy none trivial (R8 none trivial SV Z6) (by rfl) (by rfl) (fun _=>SimT.nil) (fun _=>(Zk (C1 (SB g_int) CallOk.type SV bInt_C) Z6 Ig))) (SimQ.cons Zr Z6 SimQ.nil)) (nB rfl) (.inr (nB rfl))) (Z3 (Xs (Xr Eo (by rfl)) (CallOk.K kp_224) Zf TreesOk.nil (Mz Fn (nB rfl) (nB rfl) mk_224 Bo ty_130 (nB rfl) (nB rfl) (nB rfl))) (Z3 (M5 100 (SimQ.cons Z6 (X9 Xc (by rfl)) SimQ.nil) (nB rfl) (.inr (nB rfl))) Zf))) (.cons (SimSts.bind SL) (.cons (SimSts.bind SL) (.cons (SimSts.bind SL) .nil))) (by rfl)) (Z2 (U7 (Z3 (G2 W3 SV Z6 Wr) (Z3 (X2 (some 15) Zf ⟨(nB rfl),.inl (nB rfl)⟩) (Z3 (X2 (some 13) Zf ⟨(nB rfl),.inl (nB rfl)⟩) (Z3 (X2 (some 14) Zf ⟨(nB rfl),.inl (nB rfl)⟩) Zf)))) (.cons (SimSts.name SL) (.cons (SimSts.name SL) (.cons (SimSts.name SL) (.cons (SimSts.name SL) .nil))))) (Z2 (J5 (C1 (SB F0) CallOk.type Z6 Ki) (SimA.name SL) (Z2 (Yq (Xs (Xr Ff (by rfl)) (CallOk.K Z0f) (Z3 SV (Z3 SV (Z3 SV Zf))) (TreesOk.cons (TreesOk.cons (TreesOk.cons TreesOk.nil))) (Vp Fe (nB rfl) (nB rfl)))) Zc)) (Z2 (J5 (C1 (SB F0) CallOk.type (Zk Z6 (G2 W3 SV Z6 Wr) (Uz trivial)) Ki) (SimA.name SL) (Z2 (X3 (Vr (V1 (Xs (Xr Bf (by rfl)) (CallOk.K Z0e) (Z3 SV (Z3 SV (Z3 SV (Z3 SV Zf)))) (TreesOk.cons (TreesOk.cons (TreesOk.cons (TreesOk.cons TreesOk.nil)))) (Vp Bb (nB rfl) (nB rfl))))) (Z2 (Zn Zt) Zc) Zc) Zc)) (Z2 (Zx (C2 (Xr Ep (by rfl)) (CallOk.K kp_112) SV SV (Mz Fo (nB rfl) (nB rfl) mk_112 Bp ty_50 (nB rfl) (nB rfl) (nB rfl))) SL) (Z2 (J5 (C1 (SB F0) CallOk.type (Zk Z6 (G2 W3 SV Z6 Wr) (Uz trivial)) Ki) (SimA.name SL) (Z2 (X1 (names := [(Z5k "elder"),(Z5k "before"),(Z5k "way")]) (Z3 (C1 (SB Z0b) CallOk.type (Zz Yj SV) (E2 trivial)) (Z3 (G1 Xy SV Wb) (Z3 (G2 W3 SV Z6 Wr) Zf))) (.cons (SimSts.bind SL) (.cons (SimSts.bind SL) (.cons (SimSts.bind SL) .nil))) (by rfl)) (Z2 (X3 (Yy (Xa (Z7 SV Z6 Ui) (Xa (Vr (V1 (Xs (Xr Bf (by rfl)) (CallOk.K Z0e) (Z3 SV (Z3 SV (Z3 SV (Z3 SV Zf)))) (TreesOk.cons (TreesOk.cons (TreesOk.cons (TreesOk.cons TreesOk.nil)))) (Vp Bb (nB rfl) (nB rfl))))) Vm))) (Z2 (Zn Zt) Zc) Zc) (Z2 (X3 (Yy (Xa (Z7 SV Z6 Ui) (Xa (Z7 SV Z6 vLt_K) Vm))) (Z2 (Yq (Xs (Xr Ff (by rfl)) (CallOk.K Z0f) (Z3 SV (Z3 SV (Z3 SV Zf))) (TreesOk.cons (TreesOk.cons (TreesOk.cons TreesOk.nil))) (Vp Fe (nB rfl) (nB rfl)))) Zc) Zc) (Z2 (X3 (Yy (X6 (Z7 (Zz Yj SV) SV Uj) (X6 (Z7 (G1 Xy SV Wb) SV Uj) Ua))) (Z2 (Zn Zt) Zc) Zc) (Z2 (X3 (Yy (X6 (Vr (V1 (Xs (Xr Gy (by rfl)) (CallOk.K kp_287) (Z3 SV (Z3 SV (Z3 SV (Z3 SV (Z3 SV (Z3 SV Zf)))))) (TreesOk.cons (TreesOk.cons (TreesOk.cons (TreesOk.cons (TreesOk.cons (TreesOk.cons TreesOk.nil)))))) (Vp Gv (nB rfl) (nB rfl))))) (X6 (Vr (V1 (G1 F1 (Zz Yj SV) Fp))) Ua))) (Z2 (Zn Zt) Zc) Zc) (Z2 (X3 (Vr (V1 (Xs (Xr Gz (by rfl)) (CallOk.K kp_282) (Z3 SV (Z3 SV (Z3 SV (Z3 SV Zf)))) (TreesOk.cons (TreesOk.cons (TreesOk.cons (TreesOk.cons TreesOk.nil)))) (Vp Gw (nB rfl) (nB rfl))))) (Z2 (Zn Zt) Zc) Zc) Zc))))))) (Z2 (Zn Zt) Zc)))))))
end L01
end Lay
namespace Lay.L01
theorem post_ok(args ds:List WData):Challenge.rw_rr0081_01.row.claim.post args (.bool true) ds=true:=by
 unfold RowW.claim
 dsimp only
 simp only [Challenge.rw_rr0081_01,OpenLaw.row]
 rw [Z5q]
 refine⟨by first|rfl|simp [WShape.has],?_⟩
 unfold WTm.holds
 simp only [WTm.value]
 have e:same (WData.bool true) (WData.bool true)=true:=by decide +kernel
 rw [e]
end Lay.L01
theorem PySem.Challenge.cw_rr0081_01_holds : PySem.Challenge.rw_rr0081_01.Holds := by
 refine Lay.hd01 ?_
 k_fill
 intro w s₀ s₁ mg mb G Y fa o pm cd doc dV kV ho hd hcd hD hmg hg args vals as hpre hlay hrd hwl hlo
 have KX:=kIn_of Y
 refine Ground.open G ?_
 intro T B D TE TW
 have hfa:fa=297:=by
  have h1:=mg_of (n:=Z5k "law") (v:=.ref 297) KX T.g (by rfl)
  have h2:some (Value.ref 297)=some (Value.ref fa):=h1.symm.trans hmg
  injection h2 with h3
  injection h3 with h4
  exact h4.symm
 subst hfa
 have hlo2:=hlo
 wrow_args hpre hlay hrd hwl hlo
 rename_i a vs as2 hL ra w1 r0 hI hr hc1 hc2
 cases w1 with|list ha hw =>
 rename_i vs2
 have hvs:vs=vs2:=by
  obtain⟨o,ho,_,n,hd⟩:=hL
  rw [ha] at ho
  cases ho
  injection hd with e1 e2
  have:=congrArg Array.toList e1
  simpa using this.symm
 subst hvs
 have hsys:a≠sysModules:=by
  cases r0 with|list _ _ _ _=>have:=hlo2 a (by simp);simpa using this
 refine Lay.law_end (W:=Lay.L01.Wd01 w (looseW Lay.view01 []) mg mb) Lay.L01.f_law ⟨by decide +kernel,by decide +kernel,rfl⟩ ⟨KX,topRead_of T⟩ ha hsys hI (Lay.L01.run_law _ (by(first|lia|omega))) fun h' tk keep=>?_
 refine GoodW.toG ⟨.inl ⟨.bool true,.bool true,[],rfl,fun cls=>by rfl,ReadsW.bool _,Lay.L01.post_ok _ _,fun _=>⟨Z4e,nofun⟩⟩,keep,rfl,hg⟩
