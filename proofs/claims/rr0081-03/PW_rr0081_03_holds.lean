import PyProof.Rows.All
import Wide.All
import OpenK.AllK
import Wide.FinOn
import KE.KSortTup
import KE.KDictList
import PyProof.AttrMissHeap
import KE.KDictOf
import KE.KPop
import KE.KRevIter
import PyProof.CollectWalk
import PyProof.ListNew
import PyProof.SetScanFacts
import PyProof.Rows.SetFrom
import KE.KSetInts
import PyProof.ZipIter
import Lean
import PySem.Challenge.RW_rr0081_03
set_option Elab.async false
set_option linter.unusedVariables false
set_option genSizeOf false
set_option bootstrap.genMatcherCode false
set_option compiler.extract_closed false
open Nat renaming lt_of_lt_of_le→Yq,lt_of_le_of_lt→Yr,le_trans→Ys,lt_trans→Yt,ne_of_lt→Yu,ne_of_gt→Yv,le_of_lt→Yw,zero_le→Yx,le_refl→Yy,le_of_eq→Yz,le_of_not_lt→X0,le_add_right→X1,lt_succ_self→X2
open List renaming getElem?_eq_getElem→X3,length_map→X4,getElem?_eq_some_iff→X5,length_append→X6,mem_singleton→X7,getElem?_map→X8,mem_append→X9,mem_of_getElem?→Xa,map_cons→Xb,map_append→Xc,mem_cons→Xd,append_nil→Xe,nodup_nil→Xf,length_cons→Xg,mem_append_right→Xh,mem_append_left→Xi,getElem?_append_left→Xj
open Option renaming some_ne_none→Xk,map_eq_some_iff→Xl
open Option.some renaming inj→Xm
open Array renaming getElem?_eq_getElem→Xn,getElem?_toList→Xo,length_toList→Xp,getElem?_eq_some_iff→Xq
open Classical renaming byContradiction→Xr
open PySem.Heap renaming get?_push_size→Xs,get?_push_of_some→Xu,lt_size→Xv,SameBut→Xw
open PySem.Str renaming ofString→Xx
open PySem renaming wpAny_bind→Xy,wpAny_pure→Xz,wpAny_of_eq→W0,wpAny_holding→W1,wpAny_call_entry→W2
open Bool renaming xor_false→W3,and_eq_true→W4
open Int renaming natAbs_neg→W5
open PySem PySem.W PyProof.Rows
namespace Lay
theorem nB{n m:Nat}(h:Nat.ble n m=true):n≤m:=Nat.le_of_ble_eq_true h
theorem byC{p:Prop}(h : ¬p→False):p:=Xr h
theorem ar0{a b:Nat}(h0:(100≤a))(h1:(a<b))(h2:((a<100)∨(b≤a))):False:=by grind
theorem ar1:(0≤64):=Yx 64
theorem ar2{a:Int}(h0:(a≠(0:Int))):((Int.natAbs a)≠0):=Int.natAbs_ne_zero.mpr h0
theorem ar3{a:Nat}(h0:(a<63)):((a+1)≤64):=Nat.le_succ_of_le h0
theorem ar4{a b c:Nat}(h0:(((a+(8*c))+100)<b)):((a+64)<b):=by lia
theorem ar5{a:Nat}(h0:((a+1)≤64)):(a≤64):=Nat.le_of_succ_le h0
theorem ar6{a b c:Nat}(h0:(((a+(8*c))+100)<b)):((a+1)<b):=by lia
theorem ar7{a b c d e:Nat}(h0:(((a+(8*e))+100)<d))(h1:(b≤64))(h2:((min b c)≤b)):(((a+1)+(min b c))<d):=by lia
theorem ar8{a b:Nat}(h0:((a+1)≤b)):(a≤b):=Nat.le_of_succ_le h0
theorem ar9{a b c:Nat}(h0:((a+(c+1))<b)):(a<b):=Nat.lt_of_add_right_lt h0
theorem ar10{a b c d e:Nat}(h0:(c≤b))(h1:(d=c))(h2:(e=c))(h3:(a<(min b e))):(a<b):=Yq h3 (Nat.min_le_left _ _)
theorem ar11{a b c d e:Nat}(h0:(c≤d))(h1:(e=c))(h2:(b=c))(h3:(a<d))(h4:(a<(min d b))):(a<b):=by grind
theorem ar12{a b c d e:Nat}(h0:(b≤c))(h1:(d=b))(h2:(e=b))(h3:(a<e)):(a<(min b c)):=by lia
theorem ar13{a b c d e:Nat}(h0:(c≤b))(h1:(d=c))(h2:(e=c))(h3:(a<e)):(a<b):=by lia
theorem ar14{a b c d e:Nat}(h0:(d≤b))(h1:(e=d))(h2:(c=d))(h3:(a<c)):(a<(min b c)):=Nat.lt_min.mpr ⟨Yq (h2▸h3) h0,h3⟩
theorem ar15{a b c:Nat}(h0:((a+(b+1))<c)):(((a+1)+b)<c):=by lia
theorem ar16{a b c:Nat}(h0:(((a+(8*(b+1)))+100)<c)):((((a+3)+(8*b))+100)<c):=by lia
theorem ar17{a b c d:Nat}(h0:(b≤d))(h1:((a+d)<c)):((a+b)<c):=by lia
theorem ar18{a b c d:Nat}(h0:(b≤d))(h1:(((a+(8*d))+100)<c)):(((a+(8*b))+100)<c):=by lia
theorem ar19{a:Nat}{b:Int}(h0:(((0:Int)≤(b+((a:Nat):Int)))∧((b+((a:Nat):Int))<((a:Nat):Int)))):((-((a:Nat):Int))≤b):=by omega
theorem ar20{a:Int}(h0:(¬(a<(0:Int)))):((0:Int)≤a):=Int.not_lt.mp h0
theorem ar21{b:Nat}{a:Int}(h0:(((0:Int)≤a)∧(a<((b:Nat):Int)))):(a<((b:Nat):Int)):=by grind
theorem ar22{a b c:Nat}(h0:(c<b))(h1:(a=c)):(a≤b):=by lia
theorem ar23{a b:Nat}(h0:(a≤b)):(a≤b):=String.Pos.Raw.mk_le_mk.mp h0
theorem ar24{a b c:Nat}(h0:(c≤b))(h1:(a=c)):(a≤b):=le_of_eq_of_le h1 h0
theorem ar25{a b:Int}(h0:(b<a)):((0:Int)≤((a-b)-(1:Int))):=by lia
theorem ar26{a:Int}(h0:(a>(0:Int))):((0:Int)≤a):=Int.le_of_lt h0
theorem ar27{a:Int}(h0:((0:Int)≤a)):((0:Int)≤(a+(1:Int))):=Int.le_add_one h0
theorem ar28{a b:Int}(h0:(a>b)):((0:Int)≤((a-b)-(1:Int))):=by lia
theorem ar29{a:Int}(h0:(¬(a>(0:Int)))):((0:Int)≤(-a)):=by simp at *;omega
theorem ar30{b:Nat}{a:Int}(h0:(((b:Nat):Int)<a)):((0:Int)<(a-((b:Nat):Int))):=Int.sub_pos_of_lt h0
theorem ar31{a:Nat}{b:Int}(h0:((0:Int)≤b))(h1:(((a:Nat):Int)<b)):(a<(Int.toNat b)):=Int.lt_toNat.mpr h1
theorem ar32{b:Nat}{a c:Int}:((a+((((b:Nat):Int)*c)+((1:Int)*c)))=((a+(((b:Nat):Int)*c))+c)):=by lia
theorem ar33{b:Nat}{a:Int}:((a-(((b+1):Nat):Int))=((a-((b:Nat):Int))-(1:Int))):=by lia
theorem ar34{b:Nat}{a:Int}(h0:(¬(((b:Nat):Int)<a))):((a-((b:Nat):Int))≤(0:Int)):=by lia
theorem ar35{b:Nat}{a:Int}(h0:(¬(((b:Nat):Int)<a))):(a≤((b:Nat):Int)):=Int.not_lt.mp h0
theorem ar36{a:Int}(h0:((a≠(0:Int))∧((Int.natAbs a)<(2^63)))):((Int.natAbs a)≠0):=by omega
theorem ar37{a:Nat}(h0:(a<63)):(a<9000):=by lia
theorem ar38{b c:Nat}{a:Int}(h0:(((0:Int)≤a)∧(b≤c))):(a=(((Int.toNat a):Nat):Int)):=by lia
theorem ar44{a b c:Nat}(h0:(c≤b))(h1:(a<c)):(a≠b):=by lia
theorem ar45{a b c:Nat}(h0:(c=b))(h1:(a=c)):(a=b):=by lia
theorem ar46{a b:Nat}(h0:(a≤(b-1)))(h1:(0<b)):((a+1)≤b):=Nat.add_le_of_le_sub h1 h0
theorem ar47{a b c:Nat}(h0:(b<1000))(h1:(a≤c))(h2:(c≤(b+1))):(a≤(16777216+1)):=by lia
theorem ar48{a b:Nat}(h0:(a<100))(h1:(100≤b)):(a<b):=Yq h0 h1
theorem ar49{a b c d:Nat}(h0:((b+1)≤d))(h1:((a+d)<c)):(((a+1)+b)<c):=by lia
theorem ar50{a b c d:Nat}(h0:((b+1)≤d))(h1:(((a+(8*d))+100)<c)):((((a+1)+(8*b))+100)<c):=by lia
theorem ar51{a b c:Nat}(h0:(b=c))(h1:(a<c)):(a<b):=Nat.lt_of_lt_of_eq h1 (Eq.symm h0)
theorem ar71{a:Nat}(h0:(2≤a)):(0<a):=Nat.zero_lt_of_lt h0
theorem ar81{a b:Nat}(h0:(¬(b<a))):(a≤b):=X0 h0
theorem ar89{a b c:Nat}(h0:(((a+b)/2)≤c))(h1:(¬(c=((a+b)/2)))):(((a+b)/2)<c):=Nat.lt_of_le_of_ne h0 fun a_1=>h1 (Eq.symm a_1)
theorem ar94{a b c:Nat}(h0:(a<(((b+c)/2)+1)))(h1:(¬(a=((b+c)/2)))):(a<((b+c)/2)):=by lia
theorem ar106{a b c:Nat}(h0:(a<c))(h1:(c=b)):(a<b):=Nat.lt_of_lt_of_eq h0 h1
theorem ar117{a b:Nat}(h0:(a≤b))(h1:(¬(a<b))):(a=b):=by simp at *;omega
theorem ar118{a:Nat}:(¬(((a:Nat):Int)<(0:Int))):=Int.not_ofNat_neg a
theorem ar119{a b c:Nat}(h0:(b<(2^63)))(h1:(a≤b))(h2:(c=a)):(((a:Nat):Int)<((2:Int)^63)):=by lia
theorem ar120{a b:Nat}(h0:(b<(2^63)))(h1:(a≤b)):(((a:Nat):Int)<((2:Int)^63)):=by lia
theorem ar123{a b c:Int}(h0:(a≤c))(h1:(c≤b)):(a≤b):=Int.le_trans h0 h1
theorem ar124{a b:Int}:((a≤b)∨(b≤a)):=Int.le_total a b
theorem ar125{a b c:Nat}(h0:(a<64))(h1:(b=a))(h2:(c=a)):(a≤16777216):=by lia
theorem ar126{a b c d:Int}:((¬((a<b)∨((a=b)∧(c<d))))↔((b<a)∨((a=b)∧(d≤c)))):=⟨fun h=>(Int.lt_trichotomy a b).elim (fun w=>absurd (.inl w) h) fun w=>w.elim (fun e=>.inr ⟨e,Int.not_lt.mp fun k=>h (.inr ⟨e,k⟩)⟩) .inl,fun h k=>h.elim (fun w=>k.elim (fun x=>Int.lt_asymm w x) fun x=>Int.ne_of_gt w x.1) fun w=>k.elim (fun x=>Int.ne_of_lt x w.1) fun x=>Int.not_le.mpr x.2 w.2⟩
theorem ar127{a b:Nat}(h0:((a+(b+1))<64)):(a≤16777216):=by lia
theorem ar128{a b:Nat}(h0:((a+(b+1))<64)):((a+1)≤(16777216+1)):=by lia
theorem ar129{a b:Nat}(h0:((a+(b+1))<64)):(((a+1)+b)<64):=by omega
theorem ar130{a b c d:Int}(h0:(b=a))(h1:(d=c)):((a<b)∨((b=a)∧(c≤d))):=by lia
theorem ar131{a b:Int}:((a<a)∨((a=a)∧(b≤b))):=by simp
theorem ar132{a b c d e f:Int}(h0:((a<e)∨((a=e)∧(c<f))))(h1:((e<b)∨((e=b)∧(f<d)))):((a<b)∨((a=b)∧(c<d))):=by rcases h0 with h|⟨rfl,h⟩<;>rcases h1 with k|⟨rfl,k⟩;exact .inl (Int.lt_trans h k);exact .inl h;exact .inl k;exact .inr ⟨rfl,Int.lt_trans h k⟩
theorem ar133{a b c d:Int}(h0:(¬((a=b)∧(c=d)))):(((a<b)∨((a=b)∧(c<d)))∨((b<a)∨((b=a)∧(d<c)))):=(Int.lt_trichotomy a b).elim (fun w=>.inl (.inl w)) fun w=>w.elim (fun e=>(Int.lt_trichotomy c d).elim (fun k=>.inl (.inr ⟨e,k⟩)) fun k=>k.elim (fun k=>absurd ⟨e,k⟩ h0) fun k=>.inr (.inr ⟨e.symm,k⟩)) fun w=>.inr (.inl w)
theorem ar134{a b c d:Nat}(h0:(c=b))(h1:(d=c))(h2:(a<c)):(a<b):=ar106 h2 h0
theorem ar135{a b c d e f:Int}(h0:((a<e)∨((e=a)∧(c≤f))))(h1:((e<b)∨((b=e)∧(f≤d)))):((a<b)∨((b=a)∧(c≤d))):=by rcases h0 with h|⟨rfl,h⟩<;>rcases h1 with k|⟨rfl,k⟩;exact .inl (Int.lt_trans h k);exact .inl h;exact .inl k;exact .inr ⟨rfl,Int.le_trans h k⟩
theorem ar136{a b c d:Int}(h0:((a<b)∨((a=b)∧(c<d)))):((a<b)∨((b=a)∧(c≤d))):=h0.imp id fun h=>⟨h.1.symm,Int.le_of_lt h.2⟩
theorem ar137{a b c d e:Nat}(h0:(b=c))(h1:(d=b))(h2:(a<e))(h3:(e=b)):(a<b):=Nat.lt_of_lt_of_eq h2 h3
theorem ar138{e f g:Nat}{a b c d:Int}(h0:(e<f))(h1:(g<f))(h2:((a<b)∨((a=b)∧(c<d)))):((a<b)∨((b=a)∧(c≤d))):=by grind
theorem ar139{a:Nat}(h0:(a<64)):(a≤16777216):=by lia
theorem ar140{a b:Nat}(h0:(a<64))(h1:(b=a)):(a≤(16777216+1)):=by lia
theorem ar141{a b c d:Nat}(h0:(a<64))(h1:(b=a))(h2:(c=b))(h3:(d=a)):(a≤16777216):=ar125 h0 h1 h1
theorem ar142{a b c d:Nat}(h0:((b+1)≤d))(h1:((a+d)<c)):((a+b)<c):=by lia
theorem ar143{a b c d:Nat}(h0:((b+1)≤d))(h1:(((a+(8*d))+100)<c)):(((((a+1)+1)+(8*b))+100)<c):=by lia
theorem ar144{a b c d e:Nat}(h0:(a<64))(h1:(b=a))(h2:(c=b))(h3:(d=a))(h4:(e=a))(h5:(d<2)):(a<2):=lt_of_eq_of_lt (Eq.symm h3) h5
theorem ar145{a b c d e:Nat}(h0:(c=d))(h1:(e=c))(h2:(a=d))(h3:(b=d)):(a≤b):=by lia
theorem ar146{a b c d e:Nat}(h0:(a<64))(h1:(b=a))(h2:(c=b))(h3:(d=a))(h4:(e=a))(h5:(¬(d<2))):(2≤a):=by lia
theorem ar147{a b c d e f:Nat}(h0:(a<64))(h1:(b=a))(h2:(c=b))(h3:(d=a))(h4:(e=a))(h5:(2≤a))(h6:(f=c)):(0<a):=ar71 h5
theorem ar148{a b:Nat}(h0:((b-a)=0))(h1:(a≤b)):(a=b):=by lia
theorem ar149{a b c:Nat}(h0:((b-a)=(c+1)))(h1:(a≤b)):(a<b):=Nat.lt_of_sub_eq_succ h0
theorem ar150{a b c:Nat}(h0:((a-b)=(c+1)))(h1:(b<a)):((a-(b+1))=c):=congrArg Nat.pred h0
theorem ar151{a b c d:Nat}(h0:(a≤(d+c)))(h1:(d≤(b+1))):(a≤(b+(c+1))):=by lia
theorem ar152{a b c:Nat}(h0:(a≤(min b c))):(a≤b):=by lia
theorem ar153{a b c d e f g:Nat}(h0:(c≤b))(h1:(c=d))(h2:(e=c))(h3:(f<c))(h4:(a=g))(h5:(g≤f)):((a+1)≤b):=by lia
theorem ar154{a b c:Nat}(h0:(a=c))(h1:((a+1)≤b)):(a≤b):=ar22 h1 rfl
theorem ar155{a b c:Nat}(h0:(a=c))(h1:(b=a)):(a≤b):=Yz (Eq.symm h1)
theorem ar157{a b:Nat}(h0:(a=b))(h1:(0<b)):((a-1)<a):=by omega
theorem ar158{a b:Nat}(h0:(a=b))(h1:(0<b))(h2:((a-1)<a)):(((a-1)+1)=a):=by lia
theorem ar159{a b:Nat}(h0:((a+1)<(b+1))):(a<b):=Nat.succ_lt_succ_iff.mp h0
theorem ar161{a:Nat}(h0:(((a:Nat):Int)<((2:Int)^63))):(¬(((a:Nat):Int)<(0:Int))):=Int.not_ofNat_neg a
theorem ar162{a:Nat}(h0:(((a:Nat):Int)<((2:Int)^63))):((-((2:Int)^63))≤((a:Nat):Int)):=Int.neg_ofNat_le_natCast (2^63) a
theorem ar163{a b:Nat}(h0:(a<b)):(a<b):=ar51 rfl h0
theorem ar164{a:Nat}(h0:(a≤16777216)):(((a:Nat):Int)<((2:Int)^62)):=by lia
theorem ar165{a:Nat}(h0:(((a:Nat):Int)<((2:Int)^62))):(((a:Nat):Int)<((2:Int)^63)):=by lia
theorem ar166{a:Nat}:(¬(((a:Nat):Int)<((((a:Nat):Int)-(1:Int))+(1:Int)))):=by lia
theorem ar167{a:Nat}(h0:(((a:Nat):Int)<((2:Int)^62))):(((-((2:Int)^63))≤((((a:Nat):Int)-(1:Int))+(1:Int)))∧(((((a:Nat):Int)-(1:Int))+(1:Int))<((2:Int)^63))):=by simp at *;omega
theorem ar168{a b:Nat}(h0:(a≤b))(h1:(((a:Nat):Int)<((2:Int)^62))):(¬((Int.toNat ((((a:Nat):Int)-(1:Int))+(1:Int)))>b)):=by simp at *;omega
theorem ar169{a:Nat}(h0:(((a:Nat):Int)<((2:Int)^62))):(¬(((((a:Nat):Int)-(1:Int))+(1:Int))<(0:Int))):=by lia
theorem ar170{a b:Nat}(h0:((a+1)≤b)):((a+1)≤(b+1)):=Nat.le_add_right_of_le h0
theorem ar171{a b:Nat}(h0:((a+1)≤b)):(a≤(b+1)):=by grind
theorem ar172{a b c:Nat}(h0:(b<(c+a)))(h1:(c≤b)):(((((a:Nat):Int)-(1:Int))-(((b-c):Nat):Int))=((((a-1)-(b-c)):Nat):Int)):=((Int.natCast_sub (Nat.le_sub_one_of_lt (Nat.sub_lt_left_of_lt_add h1 h0))).trans (congrArg (· - _) (Int.natCast_sub (Nat.pos_of_ne_zero fun e=>by subst e;exact Nat.not_lt_of_le h1 h0)))).symm
theorem ar173{a b c:Nat}(h0:(((((a:Nat):Int)-(1:Int))-(((b-c):Nat):Int))=((((a-1)-(b-c)):Nat):Int))):(((a-1)-(b-c))<a):=by omega
theorem ar174{a b c:Nat}(h0:(a≤16777216))(h1:(b<(c+a)))(h2:(c≤b))(h3:(((((a:Nat):Int)-(1:Int))-(((b-c):Nat):Int))=((((a-1)-(b-c)):Nat):Int))):(((((a-1)-(b-c)):Nat):Int)<((2:Int)^63)):=by lia
theorem ar175{a b:Nat}(h0:(a≤b)):(a≤(b+1)):=Nat.le_add_right_of_le h0
theorem ar176{a b c:Nat}(h0:(a<(b+c)))(h1:(((((c:Nat):Int)-(1:Int))-(((a-b):Nat):Int))=((((c-1)-(a-b)):Nat):Int))):((a+1)≤(b+c)):=ar24 h0 rfl
theorem ar177{a b c:Nat}(h0:(c≤b))(h1:(((((a:Nat):Int)-(1:Int))-(((b-c):Nat):Int))=((((a-1)-(b-c)):Nat):Int))):((((((a-1)-(b-c)):Nat):Int)-(1:Int))=((((a:Nat):Int)-(1:Int))-((((b+1)-c):Nat):Int))):=by rw [←h1,Nat.sub_add_comm h0,Int.natCast_add];exact Int.sub_sub ..
theorem ar178{a b:Nat}(h0:(b≤(b+a))):(((((a:Nat):Int)-(1:Int))-((((b+a)-b):Nat):Int))=(-(1:Int))):=by simp at *;omega
theorem ar179{a b c:Nat}(h0:(a<(b+c)))(h1:(¬(a<b))):((a-b)<c):=by lia
theorem ar180{a b c d:Nat}(h0:(a=(c+d)))(h1:(¬(b<(c+d)))):(a≤b):=by lia
theorem ar181{a b c:Nat}(h0:(¬(c<(a+b)))):((a+b)≤c):=ar81 h0
theorem ar182{a b c:Nat}(h0:(((c+a)+1)≤b)):(a≤b):=by lia
theorem ar183{a b c:Nat}(h0:(((a+b)+1)≤c)):((a+b)≤c):=Nat.le_of_succ_le h0
theorem ar184{a b:Nat}:(a≤(a+b)):=X1 a b
theorem ar185{a b c:Nat}(h0:(((a+c)+1)≤b)):((a+1)≤b):=by lia
theorem ar186{a b c:Nat}(h0:((a+b)<c)):(((a+b)+1)≤c):=Nat.succ_le_of_lt h0
theorem ar187{a b c d:Nat}(h0:(a=b))(h1:(((c+b)+1)≤d))(h2:(d=16777216)):(((a:Nat):Int)<((2:Int)^63)):=by lia
theorem ar188{a b c d e:Nat}(h0:(b=d))(h1:(((e+d)+1)≤c))(h2:(c=16777216))(h3:(a=e)):(((a+b)+1)≤c):=by lia
theorem ar189{a b:Nat}(h0:(a≤b)):(a<(b+1)):=Nat.lt_succ_of_le h0
theorem ar190{a b:Nat}(h0:(a<(b+1))):(a≤b):=Nat.le_of_lt_succ h0
theorem ar191{a b c:Nat}(h0:(a≤c))(h1:(b≤a)):((a-b)≤c):=by simp at *;omega
theorem ar192{a b:Nat}(h0:(a≤b)):((a+(b-a))=b):=Nat.add_sub_of_le h0
theorem ar193{a b c:Nat}(h0:(b≤a))(h1:(¬(b≤c))):((((a+1)-b)+c)≤a):=Nat.le_of_lt_succ (Nat.lt_of_lt_of_eq (Nat.add_lt_add_left (Nat.lt_of_not_le h1) _) (Nat.sub_add_cancel (Nat.le_succ_of_le h0)))
theorem ar194{a b c:Nat}(h0:(a≤b)):((a+(((b+1)-a)+c))=((b+1)+c)):=by lia
theorem ar195{a b:Nat}(h0:(a<(b*32))):((a/32)<b):=by lia
theorem ar196{a b:Nat}(h0:(a≤b)):((13+a)≤(b+13)):=by lia
theorem ar197{a b:Nat}(h0:((a+9)≤b)):(((a+9)≤b)∧(((a+9)≤(a+9))∧(a≤(a+9)))):=by simp at *;omega
theorem ar198{a b:Nat}(h0:(a≤b))(h1:(¬((a+9)≤b))):((a≤b)∧((a≤(a+9))∧(a≤a))):=by simp at *;omega
theorem ar199{a b c d e:Nat}(h0:((c≤b)∧((c≤(d+9))∧(d≤c))))(h1:((a+e)=c)):(a≤b):=by lia
theorem ar200{a:Int}(h0:((a%((2:Int)^64))<((2:Int)^64))):((Int.toNat (a%((2:Int)^64)))<(2^64)):=by simp at *;omega
theorem ar201{a b c:Nat}(h0:((b≤c)∧((b≤(a+9))∧(a≤b)))):((a+(b-a))=b):=by grind
theorem ar202{a:Nat}(h0:(a=0)):(¬(a>0)):=Std.Rxo.size_eq_zero_iff_not_le.mp h0
theorem ar203{a b c d:Nat}(h0:((b+c)=d))(h1:(a≤b)):(a≤(b+1)):=ar175 h1
theorem ar204{a b c:Nat}(h0:((a+b)=c))(h1:(0<b)):(((a+1)+(b-1))=c):=by lia
theorem ar205{a:Nat}(h0:(¬(0<a))):(a=0):=Nat.eq_zero_of_not_pos h0
theorem ar206{a b:Nat}(h0:(a=(b+1))):(0<a):=Nat.lt_of_sub_eq_succ h0
theorem ar207{a b:Nat}(h0:(a=(b+1))):((a-1)=b):=Eq.symm (Nat.eq_sub_of_add_eq (Eq.symm h0))
theorem ar208{a b c d e:Nat}(h0:((b≤c)∧((b≤(d+9))∧(d≤b))))(h1:((e+a)=b))(h2:(d≤e)):((a+1)≤(10*(0+1))):=by lia
theorem ar209{a b c d e f g:Nat}(h0:(a≤(10*(c+1))))(h1:(d=e))(h2:((f≤g)∧((f≤(e+9))∧(e≤f))))(h3:((d+b)=f)):((a+(b+1))≤(10*((c+1)+1))):=by lia
theorem ar210{a b:Nat}(h0:(a≤b))(h1:((b+1)≤a)):False:=by lia
theorem ar211{a b c:Nat}(h0:(a=c))(h1:((c*5)<(b*3))):(a≤b):=by lia
theorem ar212{a b c:Nat}(h0:(c≤(b+13)))(h1:(a≤(10*(c+1)))):(a<(10*(b+15))):=by lia
theorem ar213{a b:Nat}(h0:(a<b)):(a<(b+1)):=Nat.lt_add_right 1 h0
theorem ar214{a b:Nat}(h0:((b-a)≤0))(h1:(a≤b)):(a=b):=by grind
theorem ar215{a b c:Nat}(h0:(b≤c))(h1:(a<b)):(((a+b)/2)<c):=by lia
theorem ar216{a b c:Nat}(h0:((a-b)≤(c+1)))(h1:(b<a)):((a-(((b+a)/2)+1))≤c):=Ys (Nat.sub_le_sub_left (Nat.succ_le_succ ((Nat.le_div_iff_mul_le (by decide)).mpr (Nat.mul_two b▸Nat.add_le_add_left (Yw h1) b))) a) (Nat.pred_le_pred h0)
theorem ar217{a b:Nat}(h0:(a<b)):((((a+b)/2)+1)≤b):=by omega
theorem ar218{a b c:Nat}(h0:((b-a)≤(c+1)))(h1:(a<b)):((((a+b)/2)-a)≤c):=Nat.sub_le_of_le_add (Nat.le_of_lt_succ (Yq (Nat.div_lt_of_lt_mul (show a+b<2*b from(Nat.two_mul b).symm▸Nat.add_lt_add_right h1 b)) (Nat.succ_add c a▸Nat.le_add_of_sub_le h0)))
theorem ar219{a b:Nat}(h0:(a<b)):(a≤((a+b)/2)):=by lia
theorem ar220{a b c:Nat}(h0:(b≤c))(h1:(a<b)):(((a+b)/2)≤c):=by omega
theorem ar221{a b c:Nat}(h0:(¬(c<a)))(h1:(c<b)):(a≤b):=by lia
theorem ar222{a:Nat}:((a-0)≤a):=Nat.sub_le a 0
theorem ar223{a b c:Nat}(h0:(a≤b))(h1:(a<c))(h2:(c<b)):(a<b):=Yt h1 h2
theorem ar224{a b c d e:Nat}(h0:(a≤c))(h1:(a<b))(h2:(b<c))(h3:(d≤e))(h4:(e<d)):(a=b):=by lia
theorem ar225{a b c:Nat}(h0:(c<c)):(a=b):=by lia
theorem ar226{a b:Nat}(h0:(a≤b))(h1:(b≠a)):(a<b):=Nat.lt_of_le_of_ne h0 (id (Ne.symm h1))
theorem ar227{a b c d:Nat}(h0:(c=b))(h1:((a≤d)∧((a≤(b+9))∧(b≤a)))):(0<((a+1)-b)):=Nat.sub_pos_of_lt (Nat.lt_succ_of_le h1.2.2)
theorem ar228{a b c d:Nat}(h0:((a+(b+1))≤c))(h1:(d=(c+1))):(((a+1)+b)≤c):=by lia
theorem ar229{a b c:Nat}(h0:(c=(b+1)))(h1:(a<c)):(a≤b):=by lia
theorem ar230{a b c d:Nat}(h0:((a+(b+1))≤c))(h1:(d=(c+1)))(h2:(a=d)):False:=by lia
theorem ar231{a b c:Nat}(h0:(c=(b+1)))(h1:(a≤(b+13))):(a<(b+15)):=by lia
theorem ar232{a b c:Nat}(h0:(b=(c+1)))(h1:(a<(c+1))):(a<b):=Nat.lt_of_lt_of_eq h1 (Eq.symm h0)
theorem ar233{a b c:Nat}(h0:(c=(a+1)))(h1:(¬(b<(a+1)))):((a+1)≤b):=ar181 h1
theorem ar234{a b c:Nat}(h0:(a=(c+1)))(h1:(¬(b<(c+1)))):(a≤b):=by lia
theorem ar235{a:Nat}(h0:(a<300))(h1:((a*5)<(7*3)))(h2:((7*3)≤((a+1)*5))):(((7=7)∧(a=4))∨(((7=31)∧(a=18))∨((7=127)∧(a=76)))):=by lia
theorem ar236{a:Nat}(h0:(a<300))(h1:((a*5)<(31*3)))(h2:((31*3)≤((a+1)*5))):(((31=7)∧(a=4))∨(((31=31)∧(a=18))∨((31=127)∧(a=76)))):=by lia
theorem ar237{a:Nat}(h0:(a<300))(h1:((a*5)<(127*3)))(h2:((127*3)≤((a+1)*5))):(((127=7)∧(a=4))∨(((127=31)∧(a=18))∨((127=127)∧(a=76)))):=by lia
theorem ar238{a:Nat}(h0:(a<300))(h1:((511*3)≤((a+1)*5))):(((511=7)∧(a=4))∨(((511=31)∧(a=18))∨((511=127)∧(a=76)))):=by omega
theorem ar239{a b:Nat}(h0:((a*5)<(b*3))):((a+0)≤b):=ar211 rfl h0
theorem ar240{a b c d e:Nat}(h0:(a<300))(h1:(c=b))(h2:(d=(a+1)))(h3:(e=(a+1)))(h4:((a*5)<(b*3))):((a+1)≤b):=by lia
theorem ar241{a:Nat}(h0:((a-1)=7)):(a≤16777216):=by simp at *;omega
theorem ar242{a:Nat}(h0:((a-1)=31)):(a≤16777216):=by lia
theorem ar243{a:Nat}(h0:((a-1)=127)):(a≤16777216):=by lia
theorem ar244{a:Nat}(h0:((a-1)=511)):(a≤16777216):=by lia
theorem ar245{a b c d e:Nat}(h0:(a<300))(h1:(c=(a+1)))(h2:(d=(a+1)))(h3:(((a+1)*5)<((b-1)*3)))(h4:(e=(a+1))):((a+1)≤(b-1)):=by lia
theorem ar246{a b c d:Nat}(h0:(c=(a+1)))(h1:(d=(a+1)))(h2:(¬((b*3)≤((a+1)*5)))):(¬(((a+1)*5)≥(b*3))):=Not.imp h2 fun a=>a
theorem ar247{a b c d:Nat}(h0:(c=(a+1)))(h1:(d=(a+1)))(h2:(¬((b*3)≤((a+1)*5)))):(((a+1)*5)<(b*3)):=Nat.lt_of_not_le h2
theorem ar248{a b c:Nat}(h0:(a<300))(h1:(b=a))(h2:(c=(a+1))):((a+1)≤16777216):=by lia
theorem ar249{a b c:Nat}(h0:(a<300))(h1:(b=a))(h2:(c=(a+1))):(a<4096):=by lia
theorem ar250{a b c:Nat}(h0:(c<(b+1)))(h1:(a<c)):(a<b):=by lia
theorem ar251{a b c:Nat}(h0:(c<(10*b)))(h1:(a<c)):(a<(10*b)):=Yt h1 h0
theorem ar252{a b:Nat}(h0:(a<300))(h1:(b=a)):((a+1)≤16777216):=ar248 h0 h1 rfl
theorem ar253{a:Nat}(h0:(a=7)):((10*(a+15))≤5260):=by lia
theorem ar254{a:Nat}(h0:(a=31)):((10*(a+15))≤5260):=by lia
theorem ar255{a:Nat}(h0:(a=127)):((10*(a+15))≤5260):=by lia
theorem ar256{a:Nat}(h0:(a=511)):((10*(a+15))≤5260):=by lia
theorem ar257{a b:Nat}(h0:(a<(10*b)))(h1:((10*b)≤5260)):(a<100000):=by lia
theorem ar258{a b:Nat}(h0:(a≤b)):(¬(a>b)):=Nat.not_lt.mpr h0
theorem ar259{a b c:Nat}(h0:((a-b)=(c+1)))(h1:(b≤a)):((a-(b+1))=c):=congrArg Nat.pred h0
theorem ar260{a b c:Nat}(h0:((b-a)=(c+1)))(h1:(a≤b)):((a+1)≤b):=by lia
theorem ar261{a:Nat}:((((a+1)+1)+1)≤(a+100)):=by lia
theorem ar262{a:Nat}(h0:(a≤0)):(a=0):=Nat.eq_zero_of_le_zero h0
theorem ar263{a b:Nat}(h0:(a≤b))(h1:(b<a)):(a=0):=by lia
theorem ar264{a b c:Nat}(h0:(a≤(b+1)))(h1:(c<a)):((a-1)≤b):=Nat.sub_le_of_le_add h0
theorem ar266{a b:Nat}(h0:(b≤a))(h1:(0<b)):(0<a):=Yq h1 h0
theorem ar267{a b c:Nat}(h0:(a≤b))(h1:(0<a))(h2:(c<0)):False:=Nat.not_succ_le_zero c h2
theorem ar268{a b:Nat}(h0:(a≤b))(h1:(¬(a=0))):((a-1)<b):=by lia
theorem ar269{a b c:Nat}(h0:(a≤b))(h1:(c≤b))(h2:(a<c)):(a<b):=ar13 h1 rfl rfl h2
theorem ar270{a b c:Nat}(h0:(a≤b))(h1:(¬(a=0)))(h2:(c≤b))(h3:(a<c)):((a-1)<a):=Nat.sub_one_lt h1
theorem ar271{a b c d e:Nat}(h0:(a≤b))(h1:(c≤b))(h2:(a<c))(h3:(d<(e+1)))(h4:(e<d)):False:=by lia
theorem ar272{a b:Nat}(h0:(a<b)):(a≤(b-1)):=Nat.le_sub_one_of_lt h0
theorem ar273{a:Nat}(h0:((a+1)≤a)):False:=by lia
theorem ar274{a b c d:Nat}(h0:(b=c))(h1:(d=a))(h2:(a<c)):(a<b):=ar106 h2 (Eq.symm h0)
theorem ar275{a b c d:Nat}(h0:(c=a))(h1:(a<d))(h2:(b=d)):(a<b):=ar51 h2 h1
theorem ar276{a b:Nat}(h0:(b=a)):(¬((a+1)=0)):=Nat.add_one_ne_zero a
theorem ar277{a b c d:Nat}(h0:(a=c))(h1:(b≤c))(h2:(d=b))(h3:(¬(b<c))):(a≤b):=by lia
theorem ar278{a b c:Nat}(h0:(b=c))(h1:(a<c)):((min a b)=a):=by grind
theorem ar279{a b c d:Nat}(h0:(b≤300))(h1:(c=b))(h2:(a<b))(h3:(d=a)):(a<300):=Yq h2 h0
theorem ar280{a b c:Nat}(h0:(c=b))(h1:(a<b)):(a≠b):=Yu h1
theorem ar281{a b c:Nat}(h0:((c+100)<b))(h1:(a≤(c+100))):(a<b):=Yr h1 h0
theorem ar282{a b c:Nat}(h0:(a=b))(h1:(c<b))(h2:(c=b)):False:=by lia
theorem ar283{a b:Nat}(h0:(b≤300))(h1:(a=b)):(((a:Nat):Int)<(9223372036854775808:Int)):=by lia
theorem ar284{a b c:Nat}(h0:(((a+(8*c))+100)<b)):((a+100)<b):=by lia
theorem ar285{a b:Nat}(h0:(a<64))(h1:(b=a)):(a≤16777216):=ar125 h0 h1 h1
theorem ar286:(2≤16777216):=Nat.le_of_ble_eq_true rfl
theorem ar287{a:Nat}:((a+4)≠(a+2)):=by lia
theorem ar288{a:Nat}:((a+4)≠(a+3)):=Ne.symm (Nat.ne_add_one (a+3))
theorem ar289{a:Nat}:((a+4)≠a):=by lia
theorem ar290{a:Nat}:((a+4)≠(a+1)):=by simp
theorem ar291{a:Nat}:((a+2)≠(a+3)):=Nat.ne_add_one (a+2)
theorem ar292{a:Nat}:((a+2)≠a):=by lia
theorem ar293{a:Nat}:((a+2)≠(a+1)):=Ne.symm (Nat.ne_add_one (a+1))
theorem ar294{a:Nat}:((a+3)≠a):=by lia
theorem ar295{a:Nat}:((a+3)≠(a+1)):=by lia
theorem ar296{a:Nat}:(a≠(a+1)):=Nat.ne_add_one a
theorem ar297{a:Nat}:(a≠(a+4)):=Ne.symm ar289
theorem ar298{a:Nat}:(a≠(a+3)):=Ne.symm ar294
theorem ar299{a:Nat}:((a+1)≠(a+4)):=by lia
theorem ar300{a:Nat}:((a+1)≠(a+3)):=Ne.symm ar292
theorem ar301{a b:Nat}(h0:(a<b)):(a≠(b+4)):=by lia
theorem ar302{a b:Nat}(h0:(a<b)):(a≠(b+3)):=by lia
theorem ar303{a b:Nat}(h0:(a<b)):(a≠b):=Yu h0
theorem ar304{a:Nat}:((a+2)≠(a+4)):=Ne.symm ar292
theorem ar305{a:Nat}:((a+3)≠(a+4)):=Ne.symm ar293
theorem ar306{a b:Nat}(h0:(b≤a))(h1:(a≤(b+4))):((a=b)∨((a=(b+1))∨((a=(b+2))∨((a=(b+3))∨(a=(b+4)))))):=by lia
theorem ar307{a:Nat}:(a≤(a+4)):=X1 a 4
theorem ar308{a:Nat}:((a+4)≤(a+4)):=Yy (a+4)
theorem ar309{a:Nat}:(a≤(a+2)):=X1 a 2
theorem ar310{a:Nat}:((a+2)≤(a+4)):=by simp
theorem ar311{a:Nat}:(a≤(a+3)):=X1 a 3
theorem ar312{a:Nat}:((a+3)≤(a+4)):=Nat.le_succ (a+3)
theorem ar313{a:Nat}:(a≤a):=ar145 rfl rfl rfl rfl
theorem ar314{a:Nat}:(a≤(a+1)):=X1 a 1
theorem ar315{a:Nat}:((a+1)≤(a+4)):=ar311
theorem ar316{a b c d:Nat}(h0:(c≤d))(h1:((min c d)≤b))(h2:(a=c)):(a≤b):=by lia
theorem ar317{a:Nat}(h0:(¬(a≤(a+4)))):(a≤(a+4)):=X1 a 4
theorem ar318{a:Nat}(h0:(¬(a≤a))):(a≤a):=Yy a
theorem ar319{a b c:Nat}(h0:(c=(b+5)))(h1:((b+4)<a)):(a≠(b+4)):=Ne.symm (ar303 h1)
theorem ar320{a:Nat}:((a≤(a+4))∧((a+4)≤(a+4))):=by simp
theorem ar321{a:Nat}:((a≤(a+3))∧((a+3)≤(a+4))):=by simp
theorem ar322{a:Nat}:((a≤a)∧(a≤(a+4))):=by lia
theorem ar323{a:Nat}:((a≤(a+1))∧((a+1)≤(a+4))):=by simp
theorem ar324{a b c:Nat}(h0:(b<c))(h1:(c≤a)):(a≠b):=Ne.symm (ar44 h1 h0)
theorem ar325{a b c:Nat}(h0:(a≤c))(h1:(c≤b)):(a≤b):=Ys h0 h1
theorem ar326{a b:Nat}(h0:(a≤b))(h1:(b≤a)):(a=b):=Nat.le_antisymm h0 h1
theorem ar327{a b c:Nat}(h0:((a-b)<(c+1)))(h1:(b<a)):((a-(b+1))<c):=show a-b-1<c from Nat.sub_lt_right_of_lt_add (Nat.sub_pos_of_lt h1) h0
theorem ar328{a:Nat}:((a-0)<(a+1)):=Nat.sub_lt_succ a 0
end Lay
namespace Lay
theorem nope{α:Type}{x:α}(e:none=some x):False:=nomatch e
theorem pair_of{α β:Type}{a b:α}{s t:β}(e:some (a,s)=some (b,t)):b=a∧t=s:=Prod.mk.inj (Xm e.symm)
open Classical in
noncomputable def un{α β:Type}(f:α→β)(b:β):Option α:=if h : ∃ a,b=f a then some h.choose else none
theorem Zk{α β:Type}{f:α→β}{b:β}{a:α}(e:un f b=some a):b=f a:=by
 unfold un at e
 by_cases h : ∃ a,b=f a
 ·rw [dif_pos h] at e;exact h.choose_spec.trans (congrArg f (Xm e))
 ·rw [dif_neg h] at e;exact(nope e).elim
theorem un_self{α β:Type}{f:α→β}{a:α}(i : ∀ x y,f x=f y→x=y):un f (f a)=some a:=by
 have h : ∃ x,f a=f x:=⟨a,rfl⟩
 unfold un
 rw [dif_pos h];exact congrArg some (i _ _ h.choose_spec.symm)
theorem un_none{α β:Type}{f:α→β}{b:β}(h : ∀ a,b≠f a):un f b=none:=dif_neg fun⟨a,e⟩=>h a e
theorem bs{α β:Type}{o:Option α}{f:α→Option β}{a:α}{r:Option β}(h:o=some a)(k:f a=r):o.bind f=r:=by subst h;exact k
theorem ors{α:Type}{x y:Option α}{a:α}(h:x=some a):x.or y=some a:=by subst h;rfl
theorem orn{α:Type}{x y r:Option α}(h:x=none)(k:y=r):x.or y=r:=by subst h;exact k
theorem bn{α β:Type}{o:Option α}{f:α→Option β}(h:o=none):o.bind f=none:=by subst h;rfl
inductive BindO{α β:Type}(o:Option α)(f:α→Option β)(b:β):Prop
 |mk (a:α) (h:o=some a) (k:f a=some b)
theorem ob{α β:Type}{o:Option α}{f:α→Option β}{b:β}(e:o.bind f=some b):BindO o f b:=by
 cases o with
 |none=>exact(nope e).elim
 |some a=>exact⟨a,rfl,e⟩
inductive IfO{β:Type}(p:Prop)(x:Option β)(b:β):Prop
 |mk (h:p) (k:x=some b)
theorem io{β:Type}{p:Prop}{_:Decidable p}{x:Option β}{b:β}(e:(if p then x else none)=some b):IfO p x b:=by
 by_cases h:p
 ·rw [if_pos h] at e;exact⟨h,e⟩
 ·rw [if_neg h] at e;exact(nope e).elim
theorem oro{α:Type}{x y:Option α}{a:α}(e:x.or y=some a):x=some a∨y=some a:=by
 cases x with
 |none=>exact .inr e
 |some b=>exact .inl e
noncomputable abbrev HM:=Addr→Option Obj
noncomputable abbrev RM:=Nat→Option Addr
noncomputable def Le{α β:Type}(f g:α→Option β):Prop := ∀ a o,f a=some o→g a=some o
theorem Le.refl{α β:Type}(f:α→Option β):Le f f:=fun _ _ e=>e
theorem Le.trans{α β:Type}{f g h:α→Option β}(a:Le f g)(b:Le g h):Le f h:=fun x o e=>b x o (a x o e)
structure Wd where
 prog:Program
 w:World
 K:Frag
 p:Program
 loose:List Str
 mg:Str→Option Value
 mb:Str→Option Value
noncomputable def Wd.Ok(W:Wd)(h:Heap):Prop:=W.K.In h∧TopRead W.p W.loose W.mg W.mb h
theorem Wd.Ok.keeps{W:Wd}{h h':Heap}(x:W.Ok h)(k:Le h.get? h'.get?):W.Ok h':=⟨x.1.keeps k,x.2.keeps k⟩
inductive V where
 |none|bool (b:Bool)|int (i:Int)|str (s:Str)
 |tup (xs:List V)|lst (xs:List V)|dct (kvs:List (Int×V))
 |ref (n:Nat)|val (v:Value)|rng (a b c:Int)
noncomputable def V.low(v:V):Bool:=@V.casesOn (fun _=>Bool) v true (fun _=>true) (fun _=>true) (fun _=>true) (fun _=>true) (fun _=>true) (fun _=>true) (fun n=>decide (n<100)) (fun _=>true) (fun _ _ _=>true)
noncomputable def TupIs(o:Obj)(ys:Array Value):Prop:=o.cls = .type "tuple" ∧∃ n,o.data = .seq ys n
noncomputable def LstIs(o:Obj)(ys:Array Value):Prop := ∃ n,o=⟨.type "list",none,.seq ys n,#[]⟩
theorem LstIs.cls{o:Obj}{ys:Array Value}(h:LstIs o ys):o.cls = .type "list" :=by obtain⟨n,rfl⟩:=h;rfl
theorem LstIs.data{o:Obj}{ys:Array Value}(h:LstIs o ys) : ∃ n,o.data = .seq ys n:=by obtain⟨n,rfl⟩:=h;exact⟨n,rfl⟩
noncomputable abbrev dctO(es:Array DictEntry)(n:Nat):Obj:=⟨.type "dict",none,.dict es n,#[]⟩
noncomputable def Ent(W:Wd){K:Type} [DecidableEq K](knd:KeyKind W.prog W.w K)(es:Array DictEntry)(kvs:List (K×Value)):Prop :=
 KeysOf knd es∧Pairs knd es.toList kvs∧(kvs.map (·.1)).Nodup
mutual
def VR(W:Wd)(ζ:HM)(ρ:RM):V→Value→Prop
 |.none,x=>x = .none
 |.bool b,x=>x = .bool b
 |.int i,x => ∃ t,x = .int i t
 |.str s,x => ∃ t,x = .str s t
 |.tup xs,x => ∃ a o ys,x = .ref a∧ζ a=some o∧TupIs o ys∧VRs W ζ ρ xs ys.toList
 |.lst xs,x => ∃ a o ys,x = .ref a∧ζ a=some o∧LstIs o ys∧VRs W ζ ρ xs ys.toList
 |.dct kvs,x => ∃ a es n kys,x = .ref a∧ζ a=some (dctO es n)∧Ent W (intKind W.prog W.w) es kys∧VRp W ζ ρ kvs kys
 |.ref n,x => ∃ a,ρ n=some a∧x = .ref a
 |.val v,x=>x=v
 |.rng a b c,x => ∃ r t u w,x = .ref r∧ζ r=some {cls:=.type "range",data:=.fields #[.int a t,.int b u,.int c w]}
def VRs(W:Wd)(ζ:HM)(ρ:RM):List V→List Value→Prop
 | [],ys=>ys = []
 |x::xs,ys => ∃ y r,ys=y::r∧x.low=true∧VR W ζ ρ x y∧VRs W ζ ρ xs r
def VRp(W:Wd)(ζ:HM)(ρ:RM):List (Int×V)→List (Int×Value)→Prop
 | [],ys=>ys = []
 |(k,x)::xs,ys => ∃ y r,ys=(k,y)::r∧x.low=true∧VR W ζ ρ x y∧VRp W ζ ρ xs r
end
noncomputable def LowLe(ρ ρ':RM):Prop := ∀ n a,n<100→ρ n=some a→ρ' n=some a
theorem Le.low{ρ ρ':RM}(h:Le ρ ρ'):LowLe ρ ρ':=fun n a _ e=>h n a e
mutual
theorem VR.lowMono{W:Wd}{ζ ζ':HM}{ρ ρ':RM}(hz:Le ζ ζ')(hr:LowLe ρ ρ') : ∀ (v:V) (x:Value),v.low=true→VR W ζ ρ v x→VR W ζ' ρ' v x
 |.none,_,_,h=>h
 |.bool _,_,_,h=>h
 |.int _,_,_,h=>h
 |.str _,_,_,h=>h
 |.tup xs,_,_,h=>by
  refine(?_:Exists _)
  refine byC fun hG=>?_
  obtain⟨a,o,ys,e,hz',ho,hs⟩:=h
  refine hG ?_
  clear hG
  exact⟨a,o,ys,e,hz _ _ hz',ho,VRs.mono hz hr xs _ hs⟩
 |.lst xs,_,_,h=>by
  refine(?_:Exists _)
  refine byC fun hG=>?_
  obtain⟨a,o,ys,e,hz',ho,hs⟩:=h
  refine hG ?_
  clear hG
  exact⟨a,o,ys,e,hz _ _ hz',ho,VRs.mono hz hr xs _ hs⟩
 |.dct kvs,_,_,h=>by
  refine(?_:Exists _)
  refine byC fun hG=>?_
  obtain⟨a,es,n,kys,e,hz',hk,hs⟩:=h
  refine hG ?_
  clear hG
  exact⟨a,es,n,kys,e,hz _ _ hz',hk,VRp.mono hz hr kvs _ hs⟩
 |.ref n,_,hl,h=>by
  refine(?_:Exists _)
  obtain⟨a,e,hx⟩:=h
  exact⟨a,hr _ _ (of_decide_eq_true hl) e,hx⟩
 |.val _,_,_,h=>h
 |.rng _ _ _,_,_,h=>by
  refine(?_:Exists _)
  refine byC fun hG=>?_
  obtain⟨r,t,u,w,e,hz'⟩:=h
  refine hG ?_
  clear hG
  exact⟨r,t,u,w,e,hz _ _ hz'⟩
theorem VRs.mono{W:Wd}{ζ ζ':HM}{ρ ρ':RM}(hz:Le ζ ζ')(hr:LowLe ρ ρ') : ∀ (v:List V) (x:List Value),VRs W ζ ρ v x→VRs W ζ' ρ' v x
 | [],_,h=>h
 |v::vs,_,h=>by
  refine(?_:Exists _)
  refine byC fun hG=>?_
  obtain⟨y,r,e,hl,h1,h2⟩:=h
  refine hG ?_
  clear hG
  exact⟨y,r,e,hl,VR.lowMono hz hr v y hl h1,VRs.mono hz hr vs r h2⟩
theorem VRp.mono{W:Wd}{ζ ζ':HM}{ρ ρ':RM}(hz:Le ζ ζ')(hr:LowLe ρ ρ') : ∀ (v:List (Int×V)) (x:List (Int×Value)),VRp W ζ ρ v x→VRp W ζ' ρ' v x
 | [],_,h=>h
 |(k,v)::vs,_,h=>by
  refine(?_:Exists _)
  refine byC fun hG=>?_
  obtain⟨y,r,e,hl,h1,h2⟩:=h
  refine hG ?_
  clear hG
  exact⟨y,r,e,hl,VR.lowMono hz hr v y hl h1,VRp.mono hz hr vs r h2⟩
end
theorem VR.mono{W:Wd}{ζ ζ':HM}{ρ ρ':RM}(hz:Le ζ ζ')(hr:Le ρ ρ'){v:V}{x:Value}(h:VR W ζ ρ v x):VR W ζ' ρ' v x:=by
 cases v with
 |ref n=>refine(?_:Exists _);obtain⟨a,e,hx⟩:=h;exact⟨a,hr _ _ e,hx⟩
 |_=>exact VR.lowMono hz hr.low _ _ rfl h
noncomputable def VRa(W:Wd)(ζ:HM)(ρ:RM):List V→List Value→Prop
 | [],ys=>ys = []
 |x::xs,ys => ∃ y r,ys=y::r∧VR W ζ ρ x y∧VRa W ζ ρ xs r
theorem VRa.mono{W:Wd}{ζ ζ':HM}{ρ ρ':RM}(hz:Le ζ ζ')(hr:Le ρ ρ') : ∀ {v:List V} {x:List Value},VRa W ζ ρ v x→VRa W ζ' ρ' v x
 | [],_,h=>h
 |_::_,_,hH=>by obtain⟨y,r,e,h1,h2⟩:=hH;exact⟨y,r,e,h1.mono hz hr,VRa.mono hz hr h2⟩
theorem VRs.toA{W:Wd}{ζ:HM}{ρ:RM} : ∀ {v:List V} {x:List Value},VRs W ζ ρ v x→VRa W ζ ρ v x
 | [],_,h=>h
 |_::_,_,h=>by obtain⟨y,r,e,_,h1,h2⟩:=h;exact⟨y,r,e,h1,h2.toA⟩
theorem VRa.toS{W:Wd}{ζ:HM}{ρ:RM} : ∀ {v:List V} {x:List Value},VRa W ζ ρ v x→v.all V.low=true→VRs W ζ ρ v x
 | [],_,h,_=>h
 |_::_,_,hH,hl=>by
  refine byC fun hG=>?_
  obtain⟨y,r,e,h1,h2⟩:=hH
  refine hG ?_
  clear hG
  simp only [List.all_cons,W4] at hl
  refine(?_:Exists _);exact⟨y,r,e,hl.1,h1,h2.toS hl.2⟩
theorem VRs.length{W:Wd}{ζ:HM}{ρ:RM} : ∀ {v:List V} {x:List Value},VRs W ζ ρ v x→x.length=v.length
 | [],_,h=>by change _=_ at h;subst h;rfl
 |_::_,_,h=>by obtain⟨y,r,rfl,_,_,h2⟩:=h;simp [h2.length]
theorem VRa.length{W:Wd}{ζ:HM}{ρ:RM} : ∀ {v:List V} {x:List Value},VRa W ζ ρ v x→x.length=v.length
 | [],_,h=>by change _=_ at h;subst h;rfl
 |_::_,_,hH=>by obtain⟨y,r,e,_,h2⟩:=hH;subst e;simp [h2.length]
theorem VRs.get{W:Wd}{ζ:HM}{ρ:RM} : ∀ {v:List V} {x:List Value},VRs W ζ ρ v x→∀ (i:Nat) (u:V),v[i]?=some u→∃ y,x[i]?=some y∧u.low=true∧VR W ζ ρ u y
 | [],_,_,i,u,e=>by simp at e
 |a::r,_,h,i,u,e=>by
  refine byC fun hG=>?_
  obtain⟨y,r',rfl,hl,h1,h2⟩:=h
  refine hG ?_
  clear hG
  cases i with
  |zero=>simp at e;subst e;exact⟨y,by simp,hl,h1⟩
  |succ i=>simp at e;obtain⟨z,hz⟩:=h2.get i u e;exact⟨z,by simpa using hz⟩
theorem VRs.append{W:Wd}{ζ:HM}{ρ:RM} : ∀ {v v':List V} {x x':List Value},VRs W ζ ρ v x→VRs W ζ ρ v' x'→VRs W ζ ρ (v++v') (x++x')
 | [],_,_,_,h,h'=>by change _=_ at h;subst h;exact h'
 |a::r,_,_,_,h,h'=>by
  refine(?_:Exists _)
  refine byC fun hG=>?_
  obtain⟨y,r',rfl,hl,h1,h2⟩:=h
  refine hG ?_
  clear hG
  exact⟨y,_,rfl,hl,h1,h2.append h'⟩
theorem VRs.one{W:Wd}{ζ:HM}{ρ:RM}{v:V}{x:Value}(hl:v.low=true)(h:VR W ζ ρ v x):VRs W ζ ρ [v] [x]:=by
 refine(?_:Exists _);exact⟨x,[],rfl,hl,h,rfl⟩
theorem VRs.snoc{W:Wd}{ζ:HM}{ρ:RM}{v:List V}{x:List Value}{u:V}{y:Value}(h:VRs W ζ ρ v x)(hl:u.low=true)(hy:VR W ζ ρ u y):VRs W ζ ρ (v ++ [u]) (x ++ [y]):=h.append (.one hl hy)
theorem VRs.reverse{W:Wd}{ζ:HM}{ρ:RM} : ∀ {v:List V} {x:List Value},VRs W ζ ρ v x→VRs W ζ ρ v.reverse x.reverse
 | [],_,h=>by change _=_ at h;subst h;rfl
 |a::r,_,h=>by
  refine byC fun hG=>?_
  obtain⟨y,r',rfl,hl,h1,h2⟩:=h
  refine hG ?_
  clear hG
  simp only [List.reverse_cons]
  exact h2.reverse.snoc hl h1
theorem VRs.take{W:Wd}{ζ:HM}{ρ:RM} : ∀ {v:List V} {x:List Value},VRs W ζ ρ v x→∀ n,VRs W ζ ρ (v.take n) (x.take n)
 | [],_,h,n=>by change _=_ at h;subst h;cases n<;>rfl
 |a::r,_,h,0=>rfl
 |a::r,_,h,n+1=>by
  refine byC fun hG=>?_
  obtain⟨y,r',rfl,hl,h1,h2⟩:=h
  refine hG ?_
  clear hG
  refine(?_:Exists _)
  exact⟨y,_,rfl,hl,h1,h2.take n⟩
theorem VRs.drop{W:Wd}{ζ:HM}{ρ:RM} : ∀ {v:List V} {x:List Value},VRs W ζ ρ v x→∀ n,VRs W ζ ρ (v.drop n) (x.drop n)
 | [],_,h,n=>by change _=_ at h;subst h;cases n<;>rfl
 |a::r,_,h,0=>by simpa using h
 |a::r,_,h,n+1=>by
  refine byC fun hG=>?_
  obtain⟨y,r',rfl,hl,h1,h2⟩:=h
  refine hG ?_
  clear hG
  simp only [List.drop_succ_cons]
  exact h2.drop n
noncomputable def VRk{K:Type}(W:Wd)(ζ:HM)(ρ:RM):List (K×V)→List (K×Value)→Prop
 | [],ys=>ys = []
 |(k,x)::xs,ys => ∃ y r,ys=(k,y)::r∧x.low=true∧VR W ζ ρ x y∧VRk W ζ ρ xs r
theorem VRk_p{W:Wd}{ζ:HM}{ρ:RM} : ∀ {kvs:List (Int×V)} {kys:List (Int×Value)},VRk W ζ ρ kvs kys↔VRp W ζ ρ kvs kys
 | [],_=>Iff.rfl
 |(k,v)::r,_=>⟨fun h=>by obtain⟨y,r',e,hl,h1,h2⟩:=h;exact⟨y,r',e,hl,h1,VRk_p.mp h2⟩,fun h=>by obtain⟨y,r',e,hl,h1,h2⟩:=h;exact⟨y,r',e,hl,h1,VRk_p.mpr h2⟩⟩
theorem VRk.mono{K:Type}{W:Wd}{ζ ζ':HM}{ρ ρ':RM}(hz:Le ζ ζ')(hr:LowLe ρ ρ') : ∀ {v:List (K×V)} {x:List (K×Value)},VRk W ζ ρ v x→VRk W ζ' ρ' v x
 | [],_,h=>h
 |(_,_)::_,_,hH=>by obtain⟨y,r,e,hl,h1,h2⟩:=hH;exact⟨y,r,e,hl,VR.lowMono hz hr _ _ hl h1,VRk.mono hz hr h2⟩
theorem VRk.keys{K:Type}{W:Wd}{ζ:HM}{ρ:RM} : ∀ {v:List (K×V)} {x:List (K×Value)},VRk W ζ ρ v x→x.map (·.1)=v.map (·.1)
 | [],_,h=>by change _=_ at h;subst h;rfl
 |(_,_)::_,_,hH=>by obtain⟨y,r,e,hl,h1,h2⟩:=hH;subst e;simp [h2.keys]
inductive O where
 |list (xs:List V)
 |idict (kvs:List (Int×V))
 |sdict (kvs:List (Str×V))
 |tdict (kvs:List (List Int×V))
 |attrs (kvs:List (Str×V))
 |inst (C:Addr) (d:Nat)
noncomputable def TKeys(W:Wd)(ζ:HM)(ρ:RM):List (List Int×V)→List (List Int×Addr×Value)→Prop
 | [],ys=>ys = []
 |(k,x)::xs,ys => ∃ a y r ks o,ys=(k,a,y)::r∧ζ a=some o∧TupIs o ks∧ItemsAre (intKind W.prog W.w) k ks.toList∧x.low=true∧VR W ζ ρ x y∧TKeys W ζ ρ xs r
theorem TKeys.mono{W:Wd}{ζ ζ':HM}{ρ ρ':RM}(hz:Le ζ ζ')(hr:LowLe ρ ρ') : ∀ {v:List (List Int×V)} {x:List (List Int×Addr×Value)},TKeys W ζ ρ v x→TKeys W ζ' ρ' v x
 | [],_,h=>h
 |(_,_)::_,_,hH=>by obtain⟨a,y,r,ks,o,e,h0,ht,h1,hl,h2,h3⟩:=hH;exact⟨a,y,r,ks,o,e,hz _ _ h0,ht,h1,hl,VR.lowMono hz hr _ _ hl h2,h3.mono hz hr⟩
noncomputable def kvGet{K:Type} [DecidableEq K]{α:Type}(kvs:List (K×α))(k:K):Option α:=(kvs.find? fun kv=>kv.1=k).map (·.2)
noncomputable def kvSet{K:Type} [DecidableEq K]{α:Type}(kvs:List (K×α))(k:K)(v:α):List (K×α) :=
 if kvs.any (fun kv=>kv.1=k) then kvs.map (fun kv=>if kv.1=k then (kv.1,v) else kv) else kvs ++ [(k,v)]
theorem kvGet_nil{K:Type} [DecidableEq K]{α:Type}(k:K):kvGet ([]:List (K×α)) k=none:=rfl
theorem Zr{K:Type} [DecidableEq K]{α:Type}(k':K)(v:α)(r:List (K×α))(k:K):kvGet ((k',v)::r) k=if k'=k then some v else kvGet r k:=by
 unfold kvGet
 by_cases h:k'=k
 ·rw [List.find?_cons_of_pos (by exact decide_eq_true h),if_pos h];rfl
 ·rw [List.find?_cons_of_neg (by exact mt of_decide_eq_true h),if_neg h]
theorem kvGet_append{K:Type} [DecidableEq K]{α:Type}(a b:List (K×α))(k:K):kvGet (a++b) k=(kvGet a k).or (kvGet b k):=by
 unfold kvGet
 rw [List.find?_append]
 cases a.find? (fun kv=>decide (kv.1=k))<;>rfl
theorem kvGet_some_of_any{K:Type} [DecidableEq K]{α:Type}(kvs:List (K×α))(k:K):kvs.any (fun kv=>decide (kv.1=k))=(kvGet kvs k).isSome:=by
 induction kvs with
 |nil=>rfl
 |cons p r ih =>
  refine(congrArg (_ || ·) ih).trans ?_
  refine Eq.trans ?_ (congrArg Option.isSome (Zr p.1 p.2 r k)).symm
  change (decide (p.1=k)||_)=_
  by_cases h:p.1=k
  ·rw [if_pos h,decide_eq_true h];rfl
  ·rw [if_neg h,decide_eq_false h];rfl
theorem kvGet_map{K:Type} [DecidableEq K]{α:Type}(kvs:List (K×α))(k:K)(v:α)(x:K):kvGet (kvs.map fun kv=>if kv.1=k then (kv.1,v) else kv) x=if x=k then (kvGet kvs x).map (fun _=>v) else kvGet kvs x:=by
 induction kvs with
 |nil=>exact(ite_self (c:=x=k) none).symm
 |cons p r ih =>
  obtain⟨a,b⟩:=p
  rw [Xb,Zr]
  by_cases q:a=k
  ·rw [if_pos q,Zr,ih]
   by_cases q':a=x
   ·rw [if_pos q',if_pos q',if_pos (q'.symm.trans q)];rfl
   ·rw [if_neg q',if_neg q']
  ·rw [if_neg q,Zr,ih]
   by_cases q':a=x
   ·rw [if_pos q',if_pos q',if_neg (fun e=>q (q'.trans e))]
   ·rw [if_neg q',if_neg q']
theorem Y8{K:Type} [DecidableEq K]{α:Type}(kvs:List (K×α))(k:K)(v:α)(x:K):kvGet (kvSet kvs k v) x=if x=k then some v else kvGet kvs x:=by
 unfold kvSet
 rw [kvGet_some_of_any]
 by_cases h:(kvGet kvs k).isSome=true
 ·rw [if_pos h,kvGet_map]
  by_cases q:x=k
  ·rw [if_pos q,if_pos q,q]
   cases e:kvGet kvs k with
   |none=>rw [e] at h;cases h
   |some _=>rfl
  ·rw [if_neg q,if_neg q]
 ·rw [if_neg h,kvGet_append,Zr,kvGet_nil]
  by_cases q:x=k
  ·rw [if_pos q,if_pos q.symm,q]
   cases e:kvGet kvs k with
   |none=>rfl
   |some _=>rw [e] at h;exact absurd rfl h
  ·rw [if_neg q,if_neg (Ne.symm q),Option.or_none]
noncomputable def AttrsAre(W:Wd)(ζ:HM)(ρ:RM)(kvs:List (Str×V))(es:Array DictEntry):Prop :=
 StrKeys es∧UniqKeys es∧∀ x:Str,match kvGet kvs x with
  |.none=>nsFind es x = .none
  |.some v=>v.low=true∧∃ y,nsFind es x = .some y∧VR W ζ ρ v y
noncomputable def OR(W:Wd)(ζ:HM)(ρ:RM):O→Obj→Prop
 |.list xs,o => ∃ ys,LstIs o ys∧VRs W ζ ρ xs ys.toList
 |.idict kvs,o => ∃ es n kys,o=dctO es n∧Ent W (intKind W.prog W.w) es kys∧VRk W ζ ρ kvs kys
 |.sdict kvs,o => ∃ es n kys,o=dctO es n∧Ent W (strKind W.prog W.w) es kys∧VRk W ζ ρ kvs kys
 |.tdict kvs,o => ∃ es n kys,o=dctO es n∧es.toList=kys.map (entryOfKey (tupleKind (intKind W.prog W.w)))∧(kys.map (·.1)).Nodup∧TKeys W ζ ρ kvs kys
 |.attrs kvs,o => ∃ es n,o.data = .dict es n∧AttrsAre W ζ ρ kvs es
 |.inst C d,o=>d<100∧∃ dx,ρ d=some dx∧o=⟨.ref C,some dx,.plain,#[]⟩
theorem AttrsAre.mono{W:Wd}{ζ ζ':HM}{ρ ρ':RM}(hz:Le ζ ζ')(hr:LowLe ρ ρ'){kvs:List (Str×V)}{es:Array DictEntry}(h:AttrsAre W ζ ρ kvs es):AttrsAre W ζ' ρ' kvs es:=by
 refine⟨h.1,h.2.1,fun x=>?_⟩
 have:=h.2.2 x
 cases e:kvGet kvs x with
 |none=>rw [e] at this;exact this
 |some v=>rw [e] at this;obtain⟨hl,y,h1,h2⟩:=this;exact⟨hl,y,h1,VR.lowMono hz hr _ _ hl h2⟩
theorem OR.mono{W:Wd}{ζ ζ':HM}{ρ ρ':RM}(hz:Le ζ ζ')(hr:LowLe ρ ρ'){O:O}{o:Obj}(h:OR W ζ ρ O o):OR W ζ' ρ' O o:=by
 cases O with
 |list xs=>obtain⟨ys,e,h1⟩:=h;exact⟨ys,e,VRs.mono hz hr _ _ h1⟩
 |idict kvs=>obtain⟨es,n,kys,e,h1,h2⟩:=h;exact⟨es,n,kys,e,h1,h2.mono hz hr⟩
 |sdict kvs=>obtain⟨es,n,kys,e,h1,h2⟩:=h;exact⟨es,n,kys,e,h1,h2.mono hz hr⟩
 |tdict kvs=>obtain⟨es,n,kys,e,h1,h2,h3⟩:=h;exact⟨es,n,kys,e,h1,h2,h3.mono hz hr⟩
 |attrs kvs=>obtain⟨es,n,e,h1⟩:=h;exact⟨es,n,e,h1.mono hz hr⟩
 |inst C d=>obtain⟨hd,dx,e,h1⟩:=h;exact⟨hd,dx,hr _ _ hd e,h1⟩
structure SRel(W:Wd)(h₀ ζ:HM)(ρ:RM)(σ:Nat→Option O)(h:Heap):Prop where
 ok:W.Ok h
 kept:Le h₀ h.get?
 frozen:Le ζ h.get?
 fcls : ∀ a o,ζ a=some o→True
 slot : ∀ n O,σ n=some O→∃ a o,ρ n=some a∧h.get? a=some o∧OR W ζ ρ O o
 dom : ∀ n,σ n=none→ρ n=none
 inj : ∀ n m a,ρ n=some a→ρ m=some a→n=m
 offz : ∀ n a,ρ n=some a→ζ a=none
 offk : ∀ n a,ρ n=some a→h₀ a=none
 good : ∀ h':Heap,Le h₀ h'.get?→W.Ok h'
 sysr : ∀ n,ρ n≠some sysModules
 sysz:ζ sysModules=none
end Lay
local macro_rules | `(tactic| injection $e:ident) => `(tactic| first | exact (Lay.nope $e).elim | (obtain ⟨h1, h2⟩ := Lay.pair_of $e; clear $e; subst h1; subst h2) | cases $e:ident)
namespace Lay
structure St where
 loc:Nat→Option V
 hp:Nat→Option O
noncomputable def M(α:Type):=St→Option (α×St)
noncomputable def M.ret{α:Type}(a:α):M α:=fun s=>some (a,s)
noncomputable def M.andThen{α β:Type}(m:M α)(f:α→M β):M β:=fun s=>match m s with|none=>none|some (a,s')=>f a s'
noncomputable instance:Monad M where
 pure:=M.ret
 bind:=M.andThen
noncomputable def M.fail{α:Type}:M α:=fun _=>none
theorem M.bind_eq{α β:Type}(m:M α)(f:α→M β)(s:St):(m>>=f) s=match m s with|none=>none|some (a,s')=>f a s':=rfl
inductive BindSome{α β:Type}(m:M α)(f:α→M β)(s:St)(r:β×St):Prop
 |mk (a:α) (s':St) (h1:m s=some (a,s')) (h2:f a s'=some r)
theorem W6{α β:Type}{m:M α}{f:α→M β}{s:St}{r:β×St}(h:(m>>=f) s=some r):BindSome m f s r:=by
 rw [M.bind_eq] at h
 cases e:m s with
 |none=>rw [e] at h;injection h
 |some p=>obtain⟨a,s'⟩:=p;rw [e] at h;exact⟨a,s',e,h⟩
noncomputable def upd{β:Type}(f:Nat→Option β)(n:Nat)(b:Option β):Nat→Option β:=fun m=>if m=n then b else f m
theorem Zc{β:Type}(f:Nat→Option β)(n:Nat)(b:Option β):upd f n b n=b:=by simp [upd]
theorem upd_ne{β:Type}(f:Nat→Option β){n m:Nat}(b:Option β)(h:m≠n):upd f n b m=f m:=by simp [upd,h]
inductive Fl where
 |next|brk|cont
 |ret (v:V)
inductive Place where
 |loc (L:Addr) (x:Str)
 |cell (c:Addr)
noncomputable def Place.addr:Place→Addr
 |.loc L _=>L
 |.cell c=>c
noncomputable def Place.has(h:Heap):Place→Value→Prop
 |.loc L x,v => ∃ m,h.Ns L m∧m x=some v
 |.cell c,v=>h.IsCell c (some v)
noncomputable def Place.ok(h:Heap):Place→Prop
 |.loc L _ => ∃ m,h.Ns L m
 |.cell c => ∃ v,h.IsCell c v
structure Cx where
 W:Wd
 A:Around
 env:Env
 k:Nat
 B:Nat
 T:Nat
 pl:Nat→Option Place
 mid:Nat→Prop
structure Room(A:Around)(k:Nat):Prop where
 depth:A.depth+k<recursionLimit
 units:A.units+8*k+100<cLine
 handled:A.handled=none
structure Cx.Ok(C:Cx):Prop where
 room:Room C.A C.k
 kind:C.env.scope.kind = .function
 glob:C.env.globals=mainGlobals
 bins:C.env.builtins=builtinsNs
 bt:C.B≤C.T
 b100:100≤C.B
structure Rel(C:Cx)(h₀ ζ:HM)(ρ:RM)(st:St)(h:Heap):Prop extends SRel C.W h₀ ζ ρ st.hp h where
 fresh : ∀ n,C.T≤n→st.hp n=none
 mid : ∀ n,100≤n→n<C.B→st.hp n≠none→C.mid n
 var : ∀ i v,st.loc i=some v→∃ pl x,C.pl i=some pl∧pl.has h x∧VR C.W ζ ρ v x
 plok : ∀ i pl,C.pl i=some pl→pl.ok h
 ploff : ∀ i pl,C.pl i=some pl→ζ pl.addr=none∧h₀ pl.addr=none∧∀ n,ρ n≠some pl.addr
 plinj : ∀ i j pl,C.pl i=some pl→C.pl j=some pl→i=j
structure Gr(B:Nat)(h:Heap)(ζ:HM)(ρ:RM)(h':Heap)(ζ':HM)(ρ':RM):Prop where
 zl:Le ζ ζ'
 rl : ∀ n a,n<B→ρ n=some a→ρ' n=some a
 zn : ∀ a o,ζ' a=some o→ζ a=some o∨h.get? a=none
 rn : ∀ n a,ρ' n=some a→ρ n=some a∨h.get? a=none
 dm : ∀ a,h.get? a≠none→h'.get? a≠none
theorem Gr.refl(B:Nat)(h:Heap)(ζ:HM)(ρ:RM):Gr B h ζ ρ h ζ ρ:=⟨Le.refl _,fun _ _ _ e=>e,fun _ _ e=>.inl e,fun _ _ e=>.inl e,fun _ e=>e⟩
theorem Gr.trans{B:Nat}{h h1 h2:Heap}{ζ ζ1 ζ2:HM}{ρ ρ1 ρ2:RM}(x:Gr B h ζ ρ h1 ζ1 ρ1)(y:Gr B h1 ζ1 ρ1 h2 ζ2 ρ2):Gr B h ζ ρ h2 ζ2 ρ2 where
 zl:=x.zl.trans y.zl
 rl n a hb e:=y.rl n a hb (x.rl n a hb e)
 zn a o e:=(y.zn a o e).elim (x.zn a o) fun q=>.inr (Xr fun q'=>x.dm a q' q)
 rn n a e:=(y.rn n a e).elim (x.rn n a) fun q=>.inr (Xr fun q'=>x.dm a q' q)
 dm a e:=y.dm a (x.dm a e)
theorem Gr.weak{B B':Nat}{h h':Heap}{ζ ζ':HM}{ρ ρ':RM}(x:Gr B h ζ ρ h' ζ' ρ')(hb:B'≤B):Gr B' h ζ ρ h' ζ' ρ' :=
 ⟨x.zl,fun n a hn e=>x.rl n a (Yq hn hb) e,x.zn,x.rn,x.dm⟩
theorem Gr.heap{B:Nat}{h h':Heap}{ζ:HM}{ρ:RM}(dm : ∀ a,h.get? a≠none→h'.get? a≠none):Gr B h ζ ρ h' ζ ρ:=⟨Le.refl _,fun _ _ _ e=>e,fun _ _ e=>.inl e,fun _ _ e=>.inl e,dm⟩
theorem Rel.rdom{C:Cx}{h₀ ζ:HM}{ρ:RM}{st:St}{h:Heap}(R:Rel C h₀ ζ ρ st h){n:Nat}{a:Addr}(e:ρ n=some a):n<C.T:=by
 rcases Nat.lt_or_ge n C.T with q|q
 ·exact q
 ·have:=R.dom n (R.fresh n q);rw [this] at e;injection e
theorem Gr.le{C:Cx}{h₀ ζ ζ':HM}{ρ ρ':RM}{st:St}{h h':Heap}(R:Rel C h₀ ζ ρ st h)(G:Gr C.T h ζ ρ h' ζ' ρ'):Le ρ ρ' :=
 fun n a e=>G.rl n a (R.rdom e) e
theorem VR.gr{C:Cx}{h₀ ζ ζ':HM}{ρ ρ':RM}{st:St}{h h':Heap}(R:Rel C h₀ ζ ρ st h)(G:Gr C.T h ζ ρ h' ζ' ρ'){v:V}{x:Value}(e:VR C.W ζ ρ v x):VR C.W ζ' ρ' v x :=
 e.mono G.zl (G.le R)
theorem VRa.gr{C:Cx}{h₀ ζ ζ':HM}{ρ ρ':RM}{st:St}{h h':Heap}(R:Rel C h₀ ζ ρ st h)(G:Gr C.T h ζ ρ h' ζ' ρ'){v:List V}{x:List Value}(e:VRa C.W ζ ρ v x):VRa C.W ζ' ρ' v x :=
 e.mono G.zl (G.le R)
noncomputable def Kont{α β:Type}(C:Cx)(B:Nat)(h₀:HM)(s:Shared)(ζ:HM)(ρ:RM)(R:HM→RM→α→β→Prop)(P:β→Shared→Prop)(a:α)(st':St):Prop :=
 ∀ ζ' ρ' h' tk' b,Gr B s.heap ζ ρ h' ζ' ρ'→Rel C h₀ ζ' ρ' st' h'→R ζ' ρ' a b→P b {s with heap:=h',toks:=tk'}
noncomputable def KontU(C:Cx)(h₀:HM)(s:Shared)(ζ:HM)(ρ:RM)(P:Unit→Shared→Prop)(st':St):Prop :=
 ∀ ζ' ρ' h' tk',Gr C.T s.heap ζ ρ h' ζ' ρ'→Rel C h₀ ζ' ρ' st' h'→P () {s with heap:=h',toks:=tk'}
noncomputable def Sim{α β:Type}(C:Cx)(B:Nat)(t:Sem β)(m:M α)(R:HM→RM→α→β→Prop):Prop :=
 ∀ (h₀ ζ:HM) (ρ:RM) (st:St) (s:Shared) (P:β→Shared→Prop) (E:Value→Shared→Prop),C.Ok→Rel C h₀ ζ ρ st s.heap→∀ a st',m st=some (a,st')→
  Kont C B h₀ s ζ ρ R P a st'→wpAny (model C.W.prog C.W.w) C.A t P E s
noncomputable abbrev SimE(C:Cx)(t:Sem Value)(m:M V):Prop:=Sim C C.T t m (VR C.W)
noncomputable abbrev SimEs(C:Cx)(t:Sem (List Value))(m:M (List V)):Prop:=Sim C C.T t m (VRa C.W)
noncomputable abbrev SimB(C:Cx)(t:Sem Bool)(m:M Bool):Prop:=Sim C C.T t m (fun _ _ a b=>a=b)
noncomputable def FR(W:Wd)(ζ:HM)(ρ:RM):Fl→Flow→Prop
 |.next,f=>f = .next
 |.brk,f=>f = .brk
 |.cont,f=>f = .cont
 |.ret v,f => ∃ x,f = .ret x∧VR W ζ ρ v x
noncomputable abbrev SimF(C:Cx)(t:Sem Flow)(m:M Fl):Prop:=Sim C C.B t m (FR C.W)
variable{C:Cx}
noncomputable def SimK{α β α' β':Type}(C:Cx)(B:Nat)(R:HM→RM→α→β→Prop)(k:β→Sem β')(f:α→M α')(R':HM→RM→α'→β'→Prop):Prop :=
 ∀ (h₀ ζ:HM) (ρ:RM) (st:St) (s:Shared) (P:β'→Shared→Prop) (E:Value→Shared→Prop) (a:α) (b:β),C.Ok→Rel C h₀ ζ ρ st s.heap→R ζ ρ a b→∀ a' st',f a st=some (a',st')→
  Kont C B h₀ s ζ ρ R' P a' st'→wpAny (model C.W.prog C.W.w) C.A (k b) P E s
theorem Sim.step{α α' β β':Type}{B:Nat}{t:Sem β}{m:M α}{R:HM→RM→α→β→Prop}{t':Sem β'}{k:β→Sem β'}{f:α→M α'}{R':HM→RM→α'→β'→Prop}
  (rule : ∀ {s:Shared} {P:β'→Shared→Prop} {E:Value→Shared→Prop},wpAny (model C.W.prog C.W.w) C.A t (fun b s₁=>wpAny (model C.W.prog C.W.w) C.A (k b) P E s₁) E s→wpAny (model C.W.prog C.W.w) C.A t' P E s)
  (h:Sim C C.T t m R) (hk:SimK C B R k f R') (hB:C.Ok→B≤C.T):Sim C B t' (m>>=f) R':=by
 intro h₀ ζ ρ st s P E ok rel a' st' e kk
 refine byC fun hG=>?_
 obtain⟨a,s1,e1,e2⟩:=W6 e
 refine hG ?_
 clear hG
 refine rule (h h₀ ζ ρ st s _ E ok rel a s1 e1 fun ζ1 ρ1 h1 tk1 b G1 rel1 r1=>?_)
 exact hk h₀ ζ1 ρ1 s1 _ P E a b ok rel1 r1 a' st' e2 fun ζ2 ρ2 h2 tk2 b' G2 rel2 r2=>kk ζ2 ρ2 h2 tk2 b' ((G1.weak (hB ok)).trans G2) rel2 r2
noncomputable abbrev SimK1(C:Cx)(k:Value→Sem Value)(f:V→M V):Prop:=SimK C C.T (VR C.W) k f (VR C.W)
noncomputable def SimK2{α' β':Type}(C:Cx)(k:Value→Value→Sem β')(f:V→V→M α')(R':HM→RM→α'→β'→Prop):Prop :=
 ∀ (h₀ ζ:HM) (ρ:RM) (st:St) (s:Shared) (P:β'→Shared→Prop) (E:Value→Shared→Prop) (a b:V) (x y:Value),C.Ok→Rel C h₀ ζ ρ st s.heap→VR C.W ζ ρ a x→VR C.W ζ ρ b y→∀ a' st',f a b st=some (a',st')→
  Kont C C.T h₀ s ζ ρ R' P a' st'→wpAny (model C.W.prog C.W.w) C.A (k x y) P E s
noncomputable def SimK3(C:Cx)(k:Value→Value→Value→Sem Unit)(f:V→V→V→M Unit):Prop :=
 ∀ (h₀ ζ:HM) (ρ:RM) (st:St) (s:Shared) (P:Unit→Shared→Prop) (E:Value→Shared→Prop) (a b c:V) (x y z:Value),C.Ok→Rel C h₀ ζ ρ st s.heap→VR C.W ζ ρ a x→VR C.W ζ ρ b y→VR C.W ζ ρ c z→∀ a' st',f a b c st=some (a',st')→
  KontU C h₀ s ζ ρ P st'→wpAny (model C.W.prog C.W.w) C.A (k x y z) P E s
section
variable{M':Model}{A:Around}{env:Env}
theorem Zp{op:UnaryOp}{x:PySem.Expr}{pos:Pos}{m:M V}{g:V→M V}(h:SimE C (eval x C.env) m)(hg:SimK1 C (unaryOp op) g):SimE C (eval (.UnaryOp op x pos) C.env) (m>>=g) :=
 Sim.step (fun h=>wpAny_UnaryOp h) h hg fun _=>Yy _
theorem Sim_two{α' β':Type}{t1 t2:Sem Value}{t:Sem β'}{m1 m2:M V}{k:Value→Value→Sem β'}{g:V→V→M α'}{R':HM→RM→α'→β'→Prop}
  (rule : ∀ {s:Shared} {P:β'→Shared→Prop} {E:Value→Shared→Prop},wpAny (model C.W.prog C.W.w) C.A t1 (fun a s₁=>wpAny (model C.W.prog C.W.w) C.A t2 (fun b s₂=>wpAny (model C.W.prog C.W.w) C.A (k a b) P E s₂) E s₁) E s→wpAny (model C.W.prog C.W.w) C.A t P E s)
  (h1:SimE C t1 m1) (h2:SimE C t2 m2) (hg:SimK2 C k g R'):Sim C C.T t (do let a←m1;let b←m2;g a b) R':=by
 intro h₀ ζ ρ st s P E ok rel a' st' e kk
 refine byC fun hG=>?_
 obtain⟨a,s1,e1,e⟩:=W6 e
 obtain⟨b,s2,e2,e3⟩:=W6 e
 refine hG ?_
 clear hG
 refine rule (h1 h₀ ζ ρ st s _ E ok rel a s1 e1 fun ζ1 ρ1 h1' tk1 x G1 rel1 r1=>?_)
 refine h2 h₀ ζ1 ρ1 s1 _ _ E ok rel1 b s2 e2 fun ζ2 ρ2 h2' tk2 y G2 rel2 r2=>?_
 exact hg h₀ ζ2 ρ2 s2 _ P E a b x y ok rel2 (VR.gr rel1 G2 r1) r2 a' st' e3 fun ζ3 ρ3 h3 tk3 z G3 rel3 r3=>kk ζ3 ρ3 h3 tk3 z ((G1.trans G2).trans G3) rel3 r3
theorem Zh{l r:PySem.Expr}{op:Operator}{pos:Pos}{m1 m2:M V}{g:V→V→M V}(h1:SimE C (eval l C.env) m1)(h2:SimE C (eval r C.env) m2)(hg:SimK2 C (binaryOp op) g (VR C.W)) :
  SimE C (eval (.BinOp l op r pos) C.env) (do let a←m1;let b←m2;g a b):=Sim_two (fun h=>wpAny_BinOp h) h1 h2 hg
theorem Zs{l r:PySem.Expr}{op:CmpOp}{pos:Pos}{m1 m2:M V}{g:V→V→M V}(h1:SimE C (eval l C.env) m1)(h2:SimE C (eval r C.env) m2)(hg:SimK2 C (compareOp op) g (VR C.W))(hm:behindInMarks op r=false:=by with_unfolding_all rfl) :
  SimE C (eval (.Compare l [op] [r] pos) C.env) (do let a←m1;let b←m2;g a b):=Sim_two (fun h=>wpAny_Compare1 h hm) h1 h2 hg
end
theorem Z0{i:Int}{k:Nat}{pos:Pos}:SimE C (eval (.Constant (.int i) k pos) C.env) (pure (.int i)):=by
 intro h₀ ζ ρ st s P E ok rel a st' e kk
 injection e
 exact wpAny_Constant_int (kk ζ ρ s.heap _ _ (Gr.refl _ _ _ _) rel (Exists.intro _ rfl))
theorem Zf{i:Str}{k:Nat}{pos:Pos}:SimE C (eval (.Constant (.str i) k pos) C.env) (pure (.str i)):=by
 intro h₀ ζ ρ st s P E ok rel a st' e kk
 injection e
 exact wpAny_Constant_str (kk ζ ρ s.heap _ _ (Gr.refl _ _ _ _) rel (Exists.intro _ rfl))
theorem Zl{i:Bool}{k:Nat}{pos:Pos}:SimE C (eval (.Constant (.bool i) k pos) C.env) (pure (.bool i)):=by
 intro h₀ ζ ρ st s P E ok rel a st' e kk
 injection e
 exact wpAny_Constant_bool (kk ζ ρ s.heap _ _ (Gr.refl _ _ _ _) rel rfl)
theorem Y6{k:Nat}{pos:Pos}:SimE C (eval (.Constant .none k pos) C.env) (pure .none):=by
 intro h₀ ζ ρ st s P E ok rel a st' e kk
 injection e
 exact wpAny_Constant_none (kk ζ ρ s.heap _ _ (Gr.refl _ _ _ _) rel rfl)
noncomputable def M.getL(i:Nat):M V:=fun s=>(s.loc i).bind fun v=>some (v,s)
noncomputable def M.setL(i:Nat)(v:V):M Unit:=fun s=>some ((),{s with loc:=upd s.loc i (some v)})
theorem Sim_loadLocal{x:Str}{i:Nat}(hk:C.env.kindOf x=some .local)(hp:C.pl i=some (.loc C.env.locals x)):SimE C (loadName C.env x) (M.getL i):=by
 intro h₀ ζ ρ st s P E ok rel a st' e kk
 ·refine byC fun hG=>?_
  obtain⟨v,hv,e⟩:=ob e
  injection e
  obtain⟨pl,y,h1,h2,h3⟩:=rel.var i a hv
  refine hG ?_
  clear hG
  rw [hp] at h1;injection h1
  obtain⟨m,hn,hm⟩:=h2
  exact wpAny_loadName_local ok.kind hk hn hm (kk ζ ρ s.heap s.toks _ (Gr.refl _ _ _ _) rel h3)
theorem Zb{x:Str}{i:Nat}{c:Addr}(hk:C.env.kindOf x=some .cell)(hc:C.env.cells.lookup x=some c)(hp:C.pl i=some (.cell c)):SimE C (loadName C.env x) (M.getL i):=by
 intro h₀ ζ ρ st s P E ok rel a st' e kk
 ·refine byC fun hG=>?_
  obtain⟨v,hv,e⟩:=ob e
  injection e
  obtain⟨pl,y,h1,h2,h3⟩:=rel.var i a hv
  refine hG ?_
  clear hG
  rw [hp] at h1;injection h1
  exact wpAny_loadName_cell ok.kind hk hc h2 (kk ζ ρ s.heap s.toks _ (Gr.refl _ _ _ _) rel h3)
theorem Zj{x:Str}{pos:Pos}{m:M V}(h:SimE C (loadName C.env x) m)(hd:(x==("__debug__" :Str))=false:=by decide):SimE C (eval (.Name x pos) C.env) m:=by
 intro h₀ ζ ρ st s P E ok rel a st' e kk
 exact wpAny_Name (h h₀ ζ ρ st s P E ok rel a st' e kk) hd
theorem Zm{x:Str}{pos:Pos}{v:Value}(e:nsIn C.W.K mainGlobals x=some (some v))(hx:C.env.kindOf x=some .globalImplicit)(hd:(x==("__debug__" :Str))=false:=by decide):SimE C (eval (.Name x pos) C.env) (pure (.val v)):=by
 intro h₀ ζ ρ st s P E ok rel a st' e' kk
 injection e'
 exact Calls.Name_function_global ok.kind hx (Calls.loadGlobal_global (by rw [ok.glob];exact rel.ok.2.g) (mg_of rel.ok.1 rel.ok.2.g e) (kk ζ ρ s.heap s.toks _ (Gr.refl _ _ _ _) rel rfl)) hd
theorem Z7{x:Str}{pos:Pos}{v:Value}(e:nsIn C.W.K mainGlobals x=some none)(hv:bootBuiltins x=some v)(hn:x≠ "__name__")(hx:C.env.kindOf x=some .globalImplicit)(hd:(x==("__debug__" :Str))=false:=by decide):SimE C (eval (.Name x pos) C.env) (pure (.val v)):=by
 intro h₀ ζ ρ st s P E ok rel a st' e' kk
 injection e'
 exact Calls.Name_function_global ok.kind hx (Calls.loadGlobal_builtin (by rw [ok.glob];exact rel.ok.2.g) (mg_none_of rel.ok.1 rel.ok.2.g e) (by rw [ok.bins];exact rel.ok.2.b) ((rel.ok.2.builtins x hn).trans hv) (kk ζ ρ s.heap s.toks _ (Gr.refl _ _ _ _) rel rfl)) hd
theorem wf{α:Type}{M:Model}{A:Around}{b:Bool}{X R:Sem α}{Q:α→Shared→Prop}{E:Value→Shared→Prop}{s:Shared}(h:b=false)(k:wpAny M A R Q E s):wpAny M A (if b=true then X else R) Q E s:=by subst h;exact k
theorem wt{α:Type}{M:Model}{A:Around}{b:Bool}{X R:Sem α}{Q:α→Shared→Prop}{E:Value→Shared→Prop}{s:Shared}(h:b=true)(k:wpAny M A X Q E s):wpAny M A (if b=true then X else R) Q E s:=by subst h;exact k
end Lay
namespace Lay
variable{C:Cx}
theorem get_size(h:Heap):h.get? h.objs.size=none:=by
 cases e:h.get? h.objs.size with
 |none=>rfl
 |some o=>exact absurd (Xv e) (Nat.lt_irrefl _)
theorem Place.has.has_keeps{h h':Heap}{pl:Place}{v:Value}(x:pl.has h v)(k : ∀ o,h.get? pl.addr=some o→h'.get? pl.addr=some o):pl.has h' v:=by
 cases pl with
 |loc L y=>obtain⟨m,hn,hm⟩:=x;exact⟨m,hn.at' fun o e=>k o e,hm⟩
 |cell c=>obtain⟨o,ho,hd⟩:=x;exact⟨o,k o ho,hd⟩
theorem Place.ok.ok_keeps{h h':Heap}{pl:Place}(x:pl.ok h)(k : ∀ o,h.get? pl.addr=some o→h'.get? pl.addr=some o):pl.ok h':=by
 cases pl with
 |loc L y=>obtain⟨m,hn⟩:=x;exact⟨m,hn.at' fun o e=>k o e⟩
 |cell c=>obtain⟨v,o,ho,hd⟩:=x;exact⟨v,o,k o ho,hd⟩
theorem Place.ok.ok_some{h:Heap}{pl:Place}(x:pl.ok h):h.get? pl.addr≠none:=by
 cases pl with
 |loc L y=>obtain⟨m,o,es,ep,ho,_⟩:=x;show h.get? L≠none;rw [ho];exact Xk _
 |cell c=>obtain⟨v,o,ho,hd⟩:=x;show h.get? c≠none;rw [ho];exact Xk _
theorem SRel.off{W:Wd}{h₀ ζ:HM}{ρ:RM}{σ:Nat→Option O}{h h':Heap}(S:SRel W h₀ ζ ρ σ h)(X:Addr→Prop)(hX : ∀ b o,¬ X b→h.get? b=some o→h'.get? b=some o)
  (hz : ∀ b,X b→ζ b=none∧h₀ b=none∧∀ n,ρ n≠some b):SRel W h₀ ζ ρ σ h' where
 ok:=S.good _ fun a o e=>hX a o (fun x=>by rw [(hz a x).2.1] at e;injection e) (S.kept a o e)
 kept:=fun a o e=>hX a o (fun x=>by rw [(hz a x).2.1] at e;injection e) (S.kept a o e)
 frozen:=fun a o e=>hX a o (fun x=>by rw [(hz a x).1] at e;injection e) (S.frozen a o e)
 fcls:=S.fcls
 slot:=fun n O e=>by
  refine byC fun hG=>?_
  obtain⟨a,o,h1,h2,h3⟩:=S.slot n O e
  refine hG ?_
  clear hG
  exact⟨a,o,h1,hX a o (fun x=>(hz a x).2.2 n h1) h2,h3⟩
 dom:=S.dom
 inj:=S.inj
 offz:=S.offz
 offk:=S.offk
 good:=S.good
 sysr:=S.sysr
 sysz:=S.sysz
theorem Rel.off{h₀ ζ:HM}{ρ:RM}{st:St}{h h':Heap}(R:Rel C h₀ ζ ρ st h)(X:Addr→Prop)(hX : ∀ b o,¬ X b→h.get? b=some o→h'.get? b=some o)
  (hz : ∀ b,X b→ζ b=none∧h₀ b=none∧∀ n,ρ n≠some b) (hp : ∀ i pl,C.pl i=some pl→¬ X pl.addr):Rel C h₀ ζ ρ st h' where
 toSRel:=R.toSRel.off X hX hz
 fresh:=R.fresh
 mid:=R.mid
 var:=fun i v e=>by
  refine byC fun hG=>?_
  obtain⟨pl,x,h1,h2,h3⟩:=R.var i v e
  refine hG ?_
  clear hG
  exact⟨pl,x,h1,h2.has_keeps fun o e=>hX _ o (hp i pl h1) e,h3⟩
 plok:=fun i pl e=>(R.plok i pl e).ok_keeps fun o e'=>hX _ o (hp i pl e) e'
 ploff:=R.ploff
 plinj:=R.plinj
theorem Rel.newOff{h₀ ζ:HM}{ρ:RM}{st:St}{h:Heap}(R:Rel C h₀ ζ ρ st h){a:Addr}(ha:h.get? a=none):(ζ a=none∧h₀ a=none∧∀ n,ρ n≠some a)∧∀ i pl,C.pl i=some pl→pl.addr≠a:=by
 refine⟨⟨?_,?_,?_⟩,?_⟩
 ·cases e:ζ a with
  |none=>rfl
  |some o=>rw [R.frozen a o e] at ha;injection ha
 ·cases e:h₀ a with
  |none=>rfl
  |some o=>rw [R.kept a o e] at ha;injection ha
 ·intro n e
  cases e':st.hp n with
  |none=>rw [R.dom n e'] at e;injection e
  |some O =>
   refine byC fun hG=>?_
   obtain⟨b,o,h1,h2,_⟩:=R.slot n O e'
   refine hG ?_
   clear hG
   rw [e] at h1;injection h1;rw [ha] at h2;injection h2
 ·intro i pl e q
  exact(R.plok i pl e).ok_some (q▸ha)
theorem Rel.size_sys{h₀ ζ:HM}{ρ:RM}{st:St}{h:Heap}(R:Rel C h₀ ζ ρ st h):h.objs.size≠sysModules:=by
 have:mainGlobals<h.objs.size:=R.ok.2.g.lt
 intro e
 rw [e] at this
 exact absurd this (by decide)
theorem Zo(h:Heap)(o:Obj):Le h.get? (h.push o).get?:=fun _ _ e=>Xu o e
theorem Rel.push{h₀ ζ:HM}{ρ:RM}{st:St}{h:Heap}(R:Rel C h₀ ζ ρ st h)(o:Obj):Rel C h₀ ζ ρ st (h.push o) :=
 R.off (fun _=>False) (fun b o' _ e=>Zo h o b o' e) (fun _ x=>x.elim) (fun _ _ _ x=>x)
theorem Gr.push{B:Nat}{ζ:HM}{ρ:RM}(h:Heap)(o:Obj):Gr B h ζ ρ (h.push o) ζ ρ:=Gr.heap fun a e=>by
 cases q:h.get? a with
 |none=>exact absurd q e
 |some o'=>rw [Zo h o a o' q];exact Xk _
theorem upd_le{β:Type}{f:Nat→Option β}{n:Nat}{b:β}(h:f n=none):Le f (upd f n (some b)):=fun m c e=>by
 by_cases q:m=n
 ·subst q;rw [h] at e;injection e
 ·rw [upd_ne _ _ q];exact e
theorem Rel.pushZ{h₀ ζ:HM}{ρ:RM}{st:St}{h:Heap}(R:Rel C h₀ ζ ρ st h)(o:Obj)(hf:o.isFreed=false) :
  Rel C h₀ (upd ζ h.objs.size (some o)) ρ st (h.push o)∧Gr C.T h ζ ρ (h.push o) (upd ζ h.objs.size (some o)) ρ:=by
 refine byC fun hG=>?_
 obtain⟨⟨hz,hk,hr⟩,hp⟩:=R.newOff (get_size h)
 refine hG ?_
 clear hG
 have R':=R.push o
 have le:Le ζ (upd ζ h.objs.size (some o)):=upd_le hz
 refine⟨⟨⟨R'.ok,R'.kept,fun a o' e=>?_,fun a o' e=>?_,fun n O e=>?_,R'.dom,R'.inj,fun n a e=>?_,R'.offk,R'.good,R'.sysr,by rw [upd_ne _ _ (Ne.symm R.size_sys)];exact R.sysz⟩,R'.fresh,R'.mid,fun i v e=>?_,R'.plok,fun i pl e=>⟨?_,(R.ploff i pl e).2⟩,R'.plinj⟩,⟨le,fun _ _ _ e=>e,fun a o' e=>?_,fun n a e=>.inl e,(Gr.push (B:=0) (ζ:=ζ) (ρ:=ρ) h o).dm⟩⟩
 ·by_cases q:a=h.objs.size
  ·subst q;rw [Zc] at e;injection e;exact Xs h hf
  ·rw [upd_ne _ _ q] at e;exact R'.frozen a o' e
 ·trivial
 ·obtain⟨a,o',h1,h2,h3⟩:=R'.slot n O e
  exact⟨a,o',h1,h2,h3.mono le fun _ _ _ e=>e⟩
 ·have:a≠h.objs.size:=fun q=>hr n (q▸e)
  rw [upd_ne _ _ this];exact R.offz n a e
 ·obtain⟨pl,x,h1,h2,h3⟩:=R'.var i v e
  exact⟨pl,x,h1,h2,h3.mono le (Le.refl _)⟩
 ·rw [upd_ne _ _ (hp i pl e)];exact(R.ploff i pl e).1
 ·by_cases q:a=h.objs.size
  ·subst q;exact .inr (get_size h)
  ·rw [upd_ne _ _ q] at e;exact .inl e
theorem Rel.pushS{h₀ ζ:HM}{ρ:RM}{st:St}{h:Heap}(R:Rel C h₀ ζ ρ st h)(n:Nat)(hn:st.hp n=none)(hT:n<C.T)(hB:n<100∨C.B≤n)(O:O)(o:Obj)(hf:o.isFreed=false)
  (ho:OR C.W ζ (upd ρ n (some h.objs.size)) O o) :
  Rel C h₀ ζ (upd ρ n (some h.objs.size)) {st with hp:=upd st.hp n (some O)} (h.push o)∧Gr C.T h ζ ρ (h.push o) ζ (upd ρ n (some h.objs.size)):=by
 refine byC fun hG=>?_
 obtain⟨⟨hz,hk,hr⟩,hp⟩:=R.newOff (get_size h)
 refine hG ?_
 clear hG
 have R':=R.push o
 have le:Le ρ (upd ρ n (some h.objs.size)):=upd_le (R.dom n hn)
 refine⟨⟨⟨R'.ok,R'.kept,R'.frozen,R'.fcls,fun m O' e=>?_,fun m e=>?_,fun m m' a e e'=>?_,fun m a e=>?_,fun m a e=>?_,R'.good,fun m e=>?_,R'.sysz⟩,fun m hm=>?_,fun m h1 h2 h3=>?_,fun i v e=>?_,R'.plok,fun i pl e=>⟨(R.ploff i pl e).1,(R.ploff i pl e).2.1,fun m q=>?_⟩,R'.plinj⟩,
  ⟨Le.refl _,fun m a _ e=>le m a e,fun a o' e=>.inl e,fun m a e=>?_,(Gr.push (B:=0) (ζ:=ζ) (ρ:=ρ) h o).dm⟩⟩
 ·by_cases q:m=n
  ·subst q;simp only [Zc] at e;injection e
   exact⟨_,o,Zc _ _ _,Xs h hf,ho⟩
  ·simp only [upd_ne _ _ q] at e
   refine byC fun hG=>?_
   obtain⟨a,o',h1,h2,h3⟩:=R'.slot m O' e
   refine hG ?_
   clear hG
   exact⟨a,o',le _ _ h1,h2,h3.mono (Le.refl _) le.low⟩
 ·by_cases q:m=n
  ·subst q;simp only [Zc] at e;injection e
  ·simp only [upd_ne _ _ q] at e;rw [upd_ne _ _ q];exact R.dom m e
 ·by_cases q:m=n
  ·by_cases q':m'=n
   ·rw [q,q']
   ·rw [q,Zc] at e;injection e;rw [upd_ne _ _ q'] at e';exact absurd e' (hr m')
  ·by_cases q':m'=n
   ·rw [q',Zc] at e';injection e';rw [upd_ne _ _ q] at e;exact absurd e (hr m)
   ·rw [upd_ne _ _ q] at e;rw [upd_ne _ _ q'] at e';exact R.inj m m' a e e'
 ·by_cases q:m=n
  ·subst q;rw [Zc] at e;injection e;exact hz
  ·rw [upd_ne _ _ q] at e;exact R.offz m a e
 ·by_cases q:m=n
  ·subst q;rw [Zc] at e;injection e;exact hk
  ·rw [upd_ne _ _ q] at e;exact R.offk m a e
 ·by_cases q:m=n
  ·subst q;rw [Zc] at e;exact R.size_sys (Xm e)
  ·rw [upd_ne _ _ q] at e;exact R.sysr m e
 ·have:m≠n:=by intro q;subst q;exact absurd hT (Nat.not_lt.mpr hm)
  show upd st.hp n (some O) m=none
  rw [upd_ne _ _ this];exact R.fresh m hm
 ·have:m≠n:=by intro q;subst q;exact ar0 h1 h2 hB
  exact R.mid m h1 h2 (fun q=>h3 (by show upd st.hp n (some O) m=none;rw [upd_ne _ _ this];exact q))
 ·obtain⟨pl,x,h1,h2,h3⟩:=R'.var i v e
  exact⟨pl,x,h1,h2,h3.mono (Le.refl _) le⟩
 ·by_cases q':m=n
  ·subst q';rw [Zc] at q;exact hp i pl e (Xm q).symm
  ·rw [upd_ne _ _ q'] at q;exact(R.ploff i pl e).2.2 m q
 ·by_cases q:m=n
  ·subst q;rw [Zc] at e;injection e;exact .inr (get_size h)
  ·rw [upd_ne _ _ q] at e;exact .inl e
theorem Rel.setK{h₀ ζ:HM}{ρ:RM}{st:St}{h h':Heap}(R:Rel C h₀ ζ ρ st h){n:Nat}{a:Addr}(hn:ρ n=some a)(keep : ∀ b o,b≠a→h.get? b=some o→h'.get? b=some o){O:O}{o:Obj}(ho:h'.get? a=some o)(hO:OR C.W ζ ρ O o) :
  Rel C h₀ ζ ρ {st with hp:=upd st.hp n (some O)} h'∧Gr C.T h ζ ρ h' ζ ρ:=by
 have hz:=R.offz n a hn
 have hk:=R.offk n a hn
 have hp : ∀ i pl,C.pl i=some pl→pl.addr≠a:=fun i pl e q=>(R.ploff i pl e).2.2 n (q▸hn)
 refine⟨⟨⟨R.good _ fun b o e=>keep b o (fun q=>by rw [q,hk] at e;injection e) (R.kept b o e),fun b o e=>keep b o (fun q=>by rw [q,hk] at e;injection e) (R.kept b o e),
   fun b o e=>keep b o (fun q=>by rw [q,hz] at e;injection e) (R.frozen b o e),R.fcls,fun m O' e=>?_,fun m e=>?_,R.inj,R.offz,R.offk,R.good,R.sysr,R.sysz⟩,fun m hm=>?_,fun m h1 h2 h3=>?_,fun i v e=>?_,fun i pl e=>?_,R.ploff,R.plinj⟩,Gr.heap fun b q=>?_⟩
 ·by_cases q:m=n
  ·subst q;simp only [Zc] at e;injection e
   exact⟨a,o,hn,ho,hO⟩
  ·simp only [upd_ne _ _ q] at e
   refine byC fun hG=>?_
   obtain⟨b,o',h1,h2,h3⟩:=R.slot m O' e
   refine hG ?_
   clear hG
   exact⟨b,o',h1,keep b o' (fun q'=>q (R.inj m n a (q'▸h1) hn)) h2,h3⟩
 ·by_cases q:m=n
  ·subst q;simp only [Zc] at e;injection e
  ·simp only [upd_ne _ _ q] at e;exact R.dom m e
 ·have:m≠n:=by intro q;subst q;exact absurd (R.rdom hn) (Nat.not_lt.mpr hm)
  show upd st.hp n (some O) m=none
  rw [upd_ne _ _ this];exact R.fresh m hm
 ·refine R.mid m h1 h2 (fun q=>?_)
  by_cases q':m=n
  ·subst q';rw [R.dom m q] at hn;injection hn
  ·exact h3 (by show upd st.hp n (some O) m=none;rw [upd_ne _ _ q'];exact q)
 ·obtain⟨pl,x,h1,h2,h3⟩:=R.var i v e
  exact⟨pl,x,h1,h2.has_keeps fun o e'=>keep _ o (hp i pl h1) e',h3⟩
 ·exact(R.plok i pl e).ok_keeps fun o e'=>keep _ o (hp i pl e) e'
 ·by_cases q':b=a
  ·subst q';rw [ho];exact Xk _
  ·cases e:h.get? b with
   |none=>exact absurd e q
   |some o'=>rw [keep b o' q' e];exact Xk _
theorem Rel.set{h₀ ζ:HM}{ρ:RM}{st:St}{h h':Heap}(R:Rel C h₀ ζ ρ st h){n:Nat}{a:Addr}(hn:ρ n=some a)(hs:Xw a h h'){O:O}{o:Obj}(ho:h'.get? a=some o)(hO:OR C.W ζ ρ O o) :
  Rel C h₀ ζ ρ {st with hp:=upd st.hp n (some O)} h'∧Gr C.T h ζ ρ h' ζ ρ:=R.setK hn (fun b o q e=>(hs.2 b q).trans e) ho hO
theorem Rel.store{h₀ ζ:HM}{ρ:RM}{st:St}{h h':Heap}(R:Rel C h₀ ζ ρ st h){i:Nat}{pl:Place}(hi:C.pl i=some pl)(hs:Xw pl.addr h h')
  {v:V} {x:Value} (hv:VR C.W ζ ρ v x)
  (hn:match pl with|.loc L y => ∃ m,h.Ns L m∧h'.Ns L (fun z=>if z=y then some x else m z)|.cell c=>(∃ v,h.IsCell c v)∧h'.IsCell c (some x)) :
  Rel C h₀ ζ ρ {st with loc:=upd st.loc i (some v)} h'∧Gr C.T h ζ ρ h' ζ ρ:=by
 obtain⟨hz,hk,hr⟩:=R.ploff i pl hi
 have keep : ∀ b o,b≠pl.addr→h.get? b=some o→h'.get? b=some o:=fun b o q e=>(hs.2 b q).trans e
 have S:=R.toSRel.off (· =pl.addr) (fun b o q e=>keep b o q e) (fun b q=>q▸⟨hz,hk,hr⟩)
 have hok : ∀ j pl',C.pl j=some pl'→pl'.ok h':=fun j pl' e=>by
  by_cases q:pl'.addr=pl.addr
  ·have:=R.plok j pl' e
   cases pl with
   |loc L y =>
    obtain⟨m,h1,h2⟩:=hn
    cases pl' with
    |loc L' y'=>cases (show L'=L from q);exact⟨_,h2⟩
    |cell c =>
     cases (show c=L from q)
     refine byC fun hG=>?_
     obtain⟨v',o,ho,hd⟩:=this
     obtain⟨o',es,ep,ho',hd',_⟩:=h1
     refine hG ?_
     clear hG
     rw [ho] at ho';injection ho';rw [hd] at hd';injection hd'
   |cell c =>
    obtain⟨⟨v0,h1⟩,h2⟩:=hn
    cases pl' with
    |loc L' y' =>
     cases (show L'=c from q)
     refine byC fun hG=>?_
     obtain⟨m,o',es,ep,ho',hd',_⟩:=this
     obtain⟨o,ho,hd⟩:=h1
     refine hG ?_
     clear hG
     rw [ho] at ho';injection ho';rw [hd] at hd';injection hd'
    |cell c'=>cases (show c'=c from q);exact⟨_,h2⟩
  ·exact(R.plok j pl' e).ok_keeps fun o e'=>keep _ o q e'
 refine⟨⟨S,R.fresh,R.mid,fun j u e=>?_,hok,R.ploff,R.plinj⟩,Gr.heap fun b q=>?_⟩
 ·by_cases q:j=i
  ·subst q
   simp only [Zc] at e;injection e
   refine⟨pl,x,hi,?_,hv⟩
   cases pl with
   |loc L y=>obtain⟨m,_,h2⟩:=hn;exact⟨_,h2,by simp⟩
   |cell c=>exact hn.2
  ·simp only [upd_ne _ _ q] at e
   refine byC fun hG=>?_
   obtain⟨pl',y,h1,h2,h3⟩:=R.var j u e
   refine hG ?_
   clear hG
   refine⟨pl',y,h1,?_,h3⟩
   have hne:pl'≠pl:=fun q'=>q (R.plinj j i pl (q'▸h1) hi)
   by_cases q':pl'.addr=pl.addr
   ·have hok':=R.plok j pl' h1
    cases pl with
    |loc L z =>
     obtain⟨m,m1,m2⟩:=hn
     cases pl' with
     |loc L' z' =>
      cases (show L'=L from q')
      obtain⟨m',n1,n2⟩:=h2
      have:z'≠z:=fun q=>hne (by rw [q])
      refine⟨_,m2,?_⟩
      simp only [if_neg this]
      refine byC fun hG=>?_
      obtain⟨o,es,ep,ho,hd,_,hf⟩:=m1
      obtain⟨o',es',ep',ho',hd',_,hf'⟩:=n1
      refine hG ?_
      clear hG
      rw [ho] at ho';injection ho';rw [hd] at hd';injection hd'
      rw [←hf,hf'];exact n2
     |cell c =>
      cases (show c=L from q')
      refine byC fun hG=>?_
      obtain⟨v',o,ho,hd⟩:=hok'
      obtain⟨o',es,ep,ho',hd',_⟩:=m1
      refine hG ?_
      clear hG
      rw [ho] at ho';injection ho';rw [hd] at hd';injection hd'
    |cell c =>
     obtain⟨⟨v0,m1⟩,m2⟩:=hn
     cases pl' with
     |loc L' z' =>
      cases (show L'=c from q')
      refine byC fun hG=>?_
      obtain⟨m,o',es,ep,ho',hd',_⟩:=hok'
      obtain⟨o,ho,hd⟩:=m1
      refine hG ?_
      clear hG
      rw [ho] at ho';injection ho';rw [hd] at hd';injection hd'
     |cell c'=>exact absurd (by rw [show c'=c from q']) hne
   ·exact h2.has_keeps fun o e'=>keep _ o q' e'
 ·by_cases q':b=pl.addr
  ·subst q';exact(hok i pl hi).ok_some
  ·rw [hs.2 b q'];exact q
end Lay
namespace Lay
variable{C:Cx}
noncomputable def M.seq(m1 m2:M Fl):M Fl:=do
 let f←m1
 match f with
 |.next=>m2
 |f=>pure f
theorem Zd:SimF C (execs [] C.env) (pure .next):=by
 intro h₀ ζ ρ st s P E ok rel a st' e k
 injection e
 exact wpAny_execs_nil (k ζ ρ s.heap s.toks _ (Gr.refl _ _ _ _) rel rfl)
theorem Z1{x:Stmt}{rest:List Stmt}{m1 m2:M Fl}(h1:SimF C (exec x C.env) m1)(h2:SimF C (execs rest C.env) m2):SimF C (execs (x::rest) C.env) (M.seq m1 m2):=by
 intro h₀ ζ ρ st s P E ok rel a st' e k
 refine byC fun hG=>?_
 obtain⟨f,s1,e1,e2⟩:=W6 e
 refine hG ?_
 clear hG
 refine wpAny_execs_cons (h1 h₀ ζ ρ st s _ E ok rel f s1 e1 fun ζ1 ρ1 h1' tk1 b G1 rel1 r1=>?_)
 cases f with
 |next =>
  injection r1
  exact h2 h₀ ζ1 ρ1 s1 _ P E ok rel1 a st' e2 fun ζ2 ρ2 h2' tk2 b2 G2 rel2 r2=>k ζ2 ρ2 h2' tk2 b2 (G1.trans G2) rel2 r2
 |brk=>injection r1;injection e2;exact k ζ1 ρ1 h1' tk1 _ G1 rel1 rfl
 |cont=>injection r1;injection e2;exact k ζ1 ρ1 h1' tk1 _ G1 rel1 rfl
 |ret v=>obtain⟨x,rfl,hx⟩:=r1;injection e2;exact k ζ1 ρ1 h1' tk1 _ G1 rel1 ⟨x,rfl,hx⟩
theorem Z3{x:Str}{i:Nat}(hk:C.env.kindOf x=some .local)(hp:C.pl i=some (.loc C.env.locals x)) :
  SimK C C.T (VR C.W) (fun y=>storeName C.env x y) (fun v=>M.setL i v) (fun _ _ _ _=>True):=by
 intro h₀ ζ ρ st s P E v y ok rel hv a st' e k
 injection e
 obtain⟨m,hn⟩:=rel.plok i _ hp
 refine wpAny_storeName_local hk hn (fun h' hn' hs=>?_) (by rw [ok.kind];rfl)
 obtain⟨R',G'⟩:=rel.store hp hs hv ⟨m,hn,hn'⟩
 exact k ζ ρ h' _ _ G' R' trivial
theorem Yp{x:Str}{i:Nat}{c:Addr}(hk:C.env.kindOf x=some .cell)(hc:C.env.cells.lookup x=some c)(hp:C.pl i=some (.cell c)) :
  SimK C C.T (VR C.W) (fun y=>storeName C.env x y) (fun v=>M.setL i v) (fun _ _ _ _=>True):=by
 intro h₀ ζ ρ st s P E v y ok rel hv a st' e k
 injection e
 obtain⟨v0,hn⟩:=rel.plok i _ hp
 refine wpAny_storeName_cell ok.kind hk hc hn (fun h' hn' hs=>?_)
 obtain⟨R',G'⟩:=rel.store hp hs hv ⟨⟨v0,hn⟩,hn'⟩
 exact k ζ ρ h' _ _ G' R' trivial
noncomputable abbrev SimSt(C:Cx)(x:Str)(i:Nat):Prop:=SimK C C.T (VR C.W) (fun y=>storeName C.env x y) (fun v=>M.setL i v) (fun _ _ _ _=>True)
theorem Zu{x:Str}{i:Nat}{pos' pos:Pos}{value:PySem.Expr}{m:M V}(h:SimE C (eval value C.env) m)(hst:SimSt C x i)(hs:swapsWith value (some (.Name x pos')) pos.line C.env=pure false:=by rfl) :
  SimF C (exec (.Assign [.Name x pos'] value pos) C.env) (do let v←m;M.setL i v;pure .next):=by
 intro h₀ ζ ρ st s P E ok rel a st' e k
 refine byC fun hG=>?_
 obtain⟨v,s1,e1,e2⟩:=W6 e
 obtain⟨u,s2,e3,e4⟩:=W6 e2
 injection e4
 refine hG ?_
 clear hG
 refine wpAny_Assign_Name (h h₀ ζ ρ st s _ E ok rel v _ e1 fun ζ1 ρ1 h1 tk1 y G1 rel1 r1=>?_) hs
 exact hst h₀ ζ1 ρ1 s1 _ _ E v y ok rel1 r1 () _ e3 fun ζ2 ρ2 h2 tk2 _ G2 rel2 _=>k ζ2 ρ2 h2 tk2 _ ((G1.trans G2).weak ok.bt) rel2 rfl
theorem Zg{e:PySem.Expr}{pos:Pos}{m:M V}(h:SimE C (eval e C.env) m):SimF C (exec (.Return (some e) pos) C.env) (do let v←m;pure (.ret v)):=by
 intro h₀ ζ ρ st s P E ok rel a st' e k
 refine byC fun hG=>?_
 obtain⟨v,s1,e1,e2⟩:=W6 e
 injection e2
 refine hG ?_
 clear hG
 exact wpAny_Return_some (h h₀ ζ ρ st s _ E ok rel v _ e1 fun ζ1 ρ1 h1 tk1 y G1 rel1 r1=>k ζ1 ρ1 h1 tk1 _ (G1.weak ok.bt) rel1 ⟨y,rfl,r1⟩)
theorem Y1{e:PySem.Expr}{pos:Pos}{m:M V}(h:SimE C (eval e C.env) m)(hi:interactive C.env=false:=by rfl)(hs:swapsWith e none pos.line C.env=pure false:=by rfl):SimF C (exec (.Expr e pos) C.env) (do let _←m;pure .next):=by
 intro h₀ ζ ρ st s P E ok rel a st' e k
 refine byC fun hG=>?_
 obtain⟨v,s1,e1,e2⟩:=W6 e
 injection e2
 refine hG ?_
 clear hG
 exact wpAny_Expr_any (h h₀ ζ ρ st s _ E ok rel v _ e1 fun ζ1 ρ1 h1 tk1 y G1 rel1 r1=>k ζ1 ρ1 h1 tk1 _ (G1.weak ok.bt) rel1 rfl) hi hs
theorem Sim_Continue{pos:Pos}:SimF C (exec (.Continue pos) C.env) (pure .cont):=by
 intro h₀ ζ ρ st s P E ok rel a st' e k
 injection e
 exact wpAny_Continue (k ζ ρ s.heap s.toks _ (Gr.refl _ _ _ _) rel rfl)
theorem Y0{test:PySem.Expr}{body orelse:List Stmt}{pos:Pos}{mt:M Bool}{m1 m2:M Fl}(ht:SimB C (isTrue test C.env (eval test C.env)) mt)(h1:SimF C (execs body C.env) m1)(h2:SimF C (execs orelse C.env) m2) :
  SimF C (exec (.If test body orelse pos) C.env) (do let b←mt;if b then m1 else m2):=by
 intro h₀ ζ ρ st s P E ok rel a st' e k
 refine byC fun hG=>?_
 obtain⟨b,s1,e1,e2⟩:=W6 e
 refine hG ?_
 clear hG
 refine wpAny_If (ht h₀ ζ ρ st s _ E ok rel b _ e1 fun ζ1 ρ1 h1' tk1 y G1 rel1 r1=>?_)
 injection r1
 cases b with
 |true=>exact h1 h₀ ζ1 ρ1 s1 _ P E ok rel1 a st' e2 fun ζ2 ρ2 h2' tk2 b2 G2 rel2 r2=>k ζ2 ρ2 h2' tk2 b2 ((G1.weak ok.bt).trans G2) rel2 r2
 |false=>exact h2 h₀ ζ1 ρ1 s1 _ P E ok rel1 a st' e2 fun ζ2 ρ2 h2' tk2 b2 G2 rel2 r2=>k ζ2 ρ2 h2' tk2 b2 ((G1.weak ok.bt).trans G2) rel2 r2
theorem Yg{test body orelse:PySem.Expr}{pos:Pos}{mt:M Bool}{m1 m2:M V}(ht:SimB C (isTrue test C.env (eval test C.env)) mt)(h1:SimE C (eval body C.env) m1)(h2:SimE C (eval orelse C.env) m2) :
  SimE C (eval (.IfExp test body orelse pos) C.env) (do let b←mt;if b then m1 else m2):=by
 intro h₀ ζ ρ st s P E ok rel a st' e k
 refine byC fun hG=>?_
 obtain⟨b,s1,e1,e2⟩:=W6 e
 refine hG ?_
 clear hG
 refine wpAny_IfExp (ht h₀ ζ ρ st s _ E ok rel b _ e1 fun ζ1 ρ1 h1' tk1 y G1 rel1 r1=>?_)
 injection r1
 cases b with
 |true=>exact h1 h₀ ζ1 ρ1 s1 _ P E ok rel1 a st' e2 fun ζ2 ρ2 h2' tk2 b2 G2 rel2 r2=>k ζ2 ρ2 h2' tk2 b2 (G1.trans G2) rel2 r2
 |false=>exact h2 h₀ ζ1 ρ1 s1 _ P E ok rel1 a st' e2 fun ζ2 ρ2 h2' tk2 b2 G2 rel2 r2=>k ζ2 ρ2 h2' tk2 b2 (G1.trans G2) rel2 r2
noncomputable def asBool(v:V):M Bool:=@V.casesOn (fun _=>M Bool) v M.fail (fun b=>pure b) (fun _=>M.fail) (fun _=>M.fail) (fun _=>M.fail) (fun _=>M.fail) (fun _=>M.fail) (fun _=>M.fail) (fun _=>M.fail) (fun _ _ _=>M.fail)
theorem Yc{e:PySem.Expr}{m:M V}(h:SimE C (eval e C.env) m)(he : ∀ whole,isTrue e C.env whole=(do let v←whole;standAt e.pos;holding [v] (truthy v)):=by intro _;rfl):SimB C (isTrue e C.env (eval e C.env)) (do let v←m;asBool v):=by
 intro h₀ ζ ρ st s P E ok rel a st' e' k
 refine byC fun hG=>?_
 obtain⟨v,s1,e1,e2⟩:=W6 e'
 refine hG ?_
 clear hG
 refine wpAny_isTrue_value (h h₀ ζ ρ st s _ E ok rel v _ e1 fun ζ1 ρ1 h1' tk1 y G1 rel1 r1=>?_) (he _)
 cases v with
 |bool b=>change _=_ at r1;subst r1;injection e2;exact wpAny_truthy_bool (k ζ1 ρ1 h1' tk1 _ G1 rel1 rfl)
 |_=>injection e2
theorem Z5{l r:PySem.Expr}{op:CmpOp}{pos:Pos}{whole:Sem Value}{m1 m2:M V}{g:V→V→M V}(h1:SimE C (eval l C.env) m1)(h2:SimE C (eval r C.env) m2)(hg:SimK2 C (compareOp op) g (VR C.W))(hm:behindInMarks op r=false:=by with_unfolding_all rfl) :
  SimB C (isTrue (.Compare l [op] [r] pos) C.env whole) (do let a←m1;let b←m2;let c←g a b;asBool c):=by
 intro h₀ ζ ρ st s P E ok rel a' st' e kk
 refine byC fun hG=>?_
 obtain⟨a,s1,e1,e⟩:=W6 e
 obtain⟨b,s2,e2,e⟩:=W6 e
 obtain⟨c,s3,e3,e4⟩:=W6 e
 refine hG ?_
 clear hG
 refine wpAny_isTrue_Compare1 (h1 h₀ ζ ρ st s _ E ok rel a s1 e1 fun ζ1 ρ1 h1' tk1 x G1 rel1 r1=>?_) hm
 refine h2 h₀ ζ1 ρ1 s1 _ _ E ok rel1 b s2 e2 fun ζ2 ρ2 h2' tk2 y G2 rel2 r2=>?_
 refine hg h₀ ζ2 ρ2 s2 _ _ E a b x y ok rel2 (VR.gr rel1 G2 r1) r2 c s3 e3 fun ζ3 ρ3 h3 tk3 z G3 rel3 r3=>?_
 cases c with
 |bool b=>change _=_ at r3;subst r3;injection e4;exact wpAny_truthy_bool (kk ζ3 ρ3 h3 tk3 _ ((G1.trans G2).trans G3) rel3 rfl)
 |_=>injection e4
theorem Ye{x:PySem.Expr}{pos:Pos}{whole:Sem Value}{m:M Bool}(h:SimB C (isTrue x C.env (eval x C.env)) m):SimB C (isTrue (.UnaryOp .Not x pos) C.env whole) (do let b←m;pure (!b)):=by
 intro h₀ ζ ρ st s P E ok rel a st' e k
 refine byC fun hG=>?_
 obtain⟨b,s1,e1,e2⟩:=W6 e
 injection e2
 refine hG ?_
 clear hG
 exact wpAny_isTrue_Not (h h₀ ζ ρ st s _ E ok rel b _ e1 fun ζ1 ρ1 h1' tk1 y G1 rel1 r1=>by injection r1;exact k ζ1 ρ1 h1' tk1 _ G1 rel1 rfl)
theorem Zx{op:BoolOp}{values:List PySem.Expr}{pos:Pos}{whole:Sem Value}{m:M Bool}(h:SimB C (allTrue op values C.env) m):SimB C (isTrue (.BoolOp op values pos) C.env whole) m:=by
 intro h₀ ζ ρ st s P E ok rel a st' e k
 exact wpAny_isTrue_BoolOp (h h₀ ζ ρ st s P E ok rel a st' e k)
theorem Yk:SimB C (allTrue .And [] C.env) (pure true):=by
 intro h₀ ζ ρ st s P E ok rel a st' e k
 injection e;exact wpAny_allTrue_And_nil (k ζ ρ s.heap s.toks _ (Gr.refl _ _ _ _) rel rfl)
theorem Ym:SimB C (allTrue .Or [] C.env) (pure false):=by
 intro h₀ ζ ρ st s P E ok rel a st' e k
 injection e;exact wpAny_allTrue_Or_nil (k ζ ρ s.heap s.toks _ (Gr.refl _ _ _ _) rel rfl)
theorem Y2{x:PySem.Expr}{rest:List PySem.Expr}{m1 m2:M Bool}(h1:SimB C (isTrue x C.env (eval x C.env)) m1)(h2:SimB C (allTrue .And rest C.env) m2) :
  SimB C (allTrue .And (x::rest) C.env) (do let b←m1;if b then m2 else pure false):=by
 intro h₀ ζ ρ st s P E ok rel a st' e k
 refine byC fun hG=>?_
 obtain⟨b,s1,e1,e2⟩:=W6 e
 refine hG ?_
 clear hG
 refine wpAny_allTrue_And_cons (h1 h₀ ζ ρ st s _ E ok rel b _ e1 fun ζ1 ρ1 h1' tk1 y G1 rel1 r1=>?_)
 injection r1
 cases b with
 |true=>exact h2 h₀ ζ1 ρ1 s1 _ P E ok rel1 a st' e2 fun ζ2 ρ2 h2' tk2 b2 G2 rel2 r2=>k ζ2 ρ2 h2' tk2 b2 (G1.trans G2) rel2 r2
 |false=>injection e2;exact k ζ1 ρ1 h1' tk1 _ G1 rel1 rfl
theorem Zz{x:PySem.Expr}{rest:List PySem.Expr}{m1 m2:M Bool}(h1:SimB C (isTrue x C.env (eval x C.env)) m1)(h2:SimB C (allTrue .Or rest C.env) m2) :
  SimB C (allTrue .Or (x::rest) C.env) (do let b←m1;if b then pure true else m2):=by
 intro h₀ ζ ρ st s P E ok rel a st' e k
 refine byC fun hG=>?_
 obtain⟨b,s1,e1,e2⟩:=W6 e
 refine hG ?_
 clear hG
 refine wpAny_allTrue_Or_cons (h1 h₀ ζ ρ st s _ E ok rel b _ e1 fun ζ1 ρ1 h1' tk1 y G1 rel1 r1=>?_)
 injection r1
 cases b with
 |false=>exact h2 h₀ ζ1 ρ1 s1 _ P E ok rel1 a st' e2 fun ζ2 ρ2 h2' tk2 b2 G2 rel2 r2=>k ζ2 ρ2 h2' tk2 b2 (G1.trans G2) rel2 r2
 |true=>injection e2;exact k ζ1 ρ1 h1' tk1 _ G1 rel1 rfl
theorem Ze{pos:Pos}:SimEs C (spliced (backTo pos (starEach [] C.env))) (pure []):=by
 intro h₀ ζ ρ st s P E ok rel a st' e k
 injection e
 exact spliced_none (k ζ ρ s.heap s.toks _ (Gr.refl _ _ _ _) rel rfl)
theorem Z2{pos:Pos}{e:PySem.Expr}{rest:List PySem.Expr}{m1:M V}{m2:M (List V)}(h1:SimE C (eval e C.env) m1)(h2:SimEs C (spliced (backTo pos (starEach rest C.env))) m2)
  (he:starEach (e::rest) C.env=(false,eval e C.env)::starEach rest C.env:=by rfl) :
  SimEs C (spliced (backTo pos (starEach (e::rest) C.env))) (do let v←m1;let vs←m2;pure (v::vs)):=by
 intro h₀ ζ ρ st s P E ok rel a st' e' k
 refine byC fun hG=>?_
 obtain⟨v,s1,e1,e2⟩:=W6 e'
 obtain⟨vs,s2,e3,e4⟩:=W6 e2
 injection e4
 refine hG ?_
 clear hG
 refine spliced_more (h1 h₀ ζ ρ st s _ E ok rel v _ e1 fun ζ1 ρ1 h1' tk1 y G1 rel1 r1=>?_) he
 exact h2 h₀ ζ1 ρ1 s1 _ _ E ok rel1 vs _ e3 fun ζ2 ρ2 h2' tk2 ys G2 rel2 r2=>k ζ2 ρ2 h2' tk2 _ (G1.trans G2) rel2 ⟨y,ys,rfl,VR.gr rel1 G2 r1,r2⟩
noncomputable def lim:Nat:=2^20
theorem lim_le{n:Nat}(h:n≤lim):n≤sizeLine:=Ys h (by show (2:Nat)^20≤2^24;decide)
noncomputable def M.guard(b:Bool):M Unit:=fun s=>if b then some ((),s) else none
theorem W7{b:Bool}{s:St}{r}(h:M.guard b s=some r):b=true∧r=((),s):=by
 unfold M.guard at h
 split at h
 ·injection h;exact⟨by assumption,rfl⟩
 ·injection h
noncomputable def mkTup(vs:List V):M V:=do M.guard (vs.all V.low&&decide (vs.length≤lim));pure (.tup vs)
noncomputable def M.new(n:Nat)(O:O):M V:=fun s=>match s.hp n with
 |none=>some (.ref n,{s with hp:=upd s.hp n (some O)})
 |some _=>none
theorem M.new_some{n:Nat}{O:O}{s:St}{r}(h:M.new n O s=some r):s.hp n=none∧r=(.ref n,{s with hp:=upd s.hp n (some O)}):=by
 unfold M.new at h
 cases e:s.hp n with
 |none=>rw [e] at h;cases h;exact⟨rfl,rfl⟩
 |some _=>rw [e] at h;cases h
noncomputable def mkList(c:Option Nat)(vs:List V):M V:=do
 M.guard (vs.all V.low&&decide (vs.length≤lim))
 match c with
 |none=>pure (.lst vs)
 |some n=>M.new n (.list vs)
noncomputable def okSlot(C:Cx):Option Nat→Prop
 |none=>True
 |some n=>n<C.T∧(n<100∨C.B≤n)
theorem Y5{elts:List PySem.Expr}{k:Nat}{pos:Pos}{m:M (List V)}(h:SimEs C (spliced (backTo pos (starEach elts C.env))) m):SimE C (eval (.Tuple elts k pos) C.env) (do let vs←m;mkTup vs):=by
 intro h₀ ζ ρ st s P E ok rel a st' e k
 refine byC fun hG=>?_
 obtain⟨vs,s1,e1,e2⟩:=W6 e
 obtain⟨_,s2,e3,e4⟩:=W6 e2
 injection e4
 obtain⟨hg,hs⟩:=W7 e3
 injection hs
 refine hG ?_
 clear hG
 simp only [W4,decide_eq_true_eq] at hg
 refine wpAny_Tuple_spliced (h h₀ ζ ρ st s _ E ok rel vs _ e1 fun ζ1 ρ1 h1 tk1 ys G1 rel1 r1=>⟨lim_le (r1.length▸hg.2),?_⟩)
 obtain⟨R',G'⟩:=rel1.pushZ {cls:=.type "tuple",data:=.seq ys.toArray} rfl
 refine k _ _ _ _ _ (G1.trans G') R' ?_
 refine(?_:Exists _)
 exact⟨_,_,ys.toArray,rfl,Zc _ _ _,⟨rfl,0,rfl⟩,by simpa using (r1.gr rel1 G').toS hg.1⟩
theorem list_made{h₀ ζ:HM}{ρ:RM}{st st':St}{h:Heap}{c:Option Nat}{vs:List V}{ys:List Value}{o:Obj}{v:V}(rel:Rel C h₀ ζ ρ st h)(hc:okSlot C c)(e:mkList c vs st=some (v,st'))(r:VRa C.W ζ ρ vs ys)
  (ho:LstIs o ys.toArray) (hf:o.isFreed=false) : ∃ ζ' ρ',Gr C.T h ζ ρ (h.push o) ζ' ρ'∧Rel C h₀ ζ' ρ' st' (h.push o)∧VR C.W ζ' ρ' v (.ref h.objs.size):=by
 refine byC fun hG=>?_
 obtain⟨_,s2,e3,e4⟩:=W6 e
 obtain⟨hg,hs⟩:=W7 e3
 injection hs
 refine hG ?_
 clear hG
 simp only [W4,decide_eq_true_eq] at hg
 cases c with
 |none =>
  injection e4
  obtain⟨R',G'⟩:=rel.pushZ o hf
  refine⟨_,_,G',R',?_⟩
  refine(?_:Exists _)
  exact⟨_,_,_,rfl,Zc _ _ _,ho,by simpa using (r.gr rel G').toS hg.1⟩
 |some n =>
  obtain⟨hn,h2⟩:=M.new_some e4
  injection h2
  have hle:Le ρ (upd ρ n (some h.objs.size)):=upd_le (rel.dom n hn)
  obtain⟨R',G'⟩:=rel.pushS n hn hc.1 hc.2 (.list vs) o hf ⟨_,ho,by simpa using (r.mono (Le.refl _) hle).toS hg.1⟩
  refine⟨_,_,G',R',?_⟩
  refine(?_:Exists _)
  exact⟨_,Zc _ _ _,rfl⟩
theorem Y4{elts:List PySem.Expr}{pos:Pos}{m:M (List V)}(c:Option Nat)(h:SimEs C (spliced (backTo pos (starEach elts C.env))) m)(hc:okSlot C c):SimE C (eval (.List elts pos) C.env) (do let vs←m;mkList c vs):=by
 intro h₀ ζ ρ st s P E ok rel a st' e k
 refine byC fun hG=>?_
 obtain⟨vs,s1,e1,e2⟩:=W6 e
 refine hG ?_
 clear hG
 refine wpAny_List_spliced (h h₀ ζ ρ st s _ E ok rel vs _ e1 fun ζ1 ρ1 h1 tk1 ys G1 rel1 r1=>?_)
 have hl:vs.length≤lim:=by
  refine byC fun hG=>?_
  obtain⟨_,s2,e3,e4⟩:=W6 e2
  obtain⟨hg,_⟩:=W7 e3
  refine hG ?_
  clear hG
  simp only [W4,decide_eq_true_eq] at hg;exact hg.2
 refine⟨lim_le (r1.length▸hl),?_⟩
 refine byC fun hG=>?_
 obtain⟨ζ',ρ',G',R',hv⟩:=list_made (o:={cls:=.type "list",data:=.seq ys.toArray}) rel1 hc e2 r1 ⟨0,rfl⟩ rfl
 refine hG ?_
 clear hG
 exact k _ _ _ _ _ (G1.trans G') R' hv
end Lay
namespace Lay
variable{C:Cx}
noncomputable def onInts(g:Int→Int→M V)(a b:V):M V:=fun s=>(un V.int a).bind fun i=>(un V.int b).bind fun j=>g i j s
noncomputable def vInt2(f:Int→Int→Int):V→V→M V:=onInts fun i j=>pure (.int (f i j))
noncomputable def vInt2G(g:Int→Int→Bool)(f:Int→Int→Int):V→V→M V:=onInts fun i j=>do M.guard (g i j);pure (.int (f i j))
noncomputable def vCmp(f:Int→Int→Bool):V→V→M V:=onInts fun i j=>pure (.bool (f i j))
inductive OnInts(g:Int→Int→M V)(W:Wd)(ζ:HM)(ρ:RM)(a b:V)(x y:Value)(st:St)(r:V×St):Prop
 |mk (i j:Int) (t u:Tok) (hx:x = .int i t) (hy:y = .int j u) (e:g i j st=some r)
theorem onInts_some{g:Int→Int→M V}{W:Wd}{ζ:HM}{ρ:RM}{a b:V}{x y:Value}{st:St}{r:V×St}(e:onInts g a b st=some r)(ra:VR W ζ ρ a x)(rb:VR W ζ ρ b y):OnInts g W ζ ρ a b x y st r:=by
 refine byC fun hG=>?_
 obtain⟨i,h1,e⟩:=ob e
 obtain⟨j,h2,e⟩:=ob e
 rw [Zk h1] at ra
 rw [Zk h2] at rb
 obtain⟨t,rfl⟩:=ra
 obtain⟨u,rfl⟩:=rb
 exact hG ⟨_,_,t,u,rfl,rfl,e⟩
theorem VR.ofInt{W:Wd}{ζ:HM}{ρ:RM}(i:Int)(t:Tok):VR W ζ ρ (.int i) (.int i t):=Exists.intro _ rfl
theorem VR.ofBool{W:Wd}{ζ:HM}{ρ:RM}(i:Bool):VR W ζ ρ (.bool i) (.bool i):=rfl
theorem vInt2G_K{op:Operator}{g:Int→Int→Bool}{f:Int→Int→Int}(h : ∀ (A:Around) (E:Value→Shared→Prop) (s:Shared) (Q:Value→Shared→Prop) (a b:Int) (t u:Tok),g a b=true→Q (.int (f a b) s.toks) {s with toks:=s.toks+1}→wpAny (model C.W.prog C.W.w) A (binaryOp op (.int a t) (.int b u)) Q E s) :
  SimK2 C (binaryOp op) (vInt2G g f) (VR C.W):=by
 intro h₀ ζ ρ st s P E a b x y ok rel ra rb v st' e k
 refine byC fun hG=>?_
 obtain⟨i,j,t,u,rfl,rfl,e⟩:=onInts_some e ra rb
 obtain⟨_,s2,e1,e2⟩:=W6 e
 obtain⟨hg,hs⟩:=W7 e1
 refine hG ?_
 clear hG
 injection hs;injection e2
 exact h _ _ _ _ _ _ _ _ hg (k ζ ρ s.heap _ _ (Gr.refl _ _ _ _) rel (.ofInt _ _))
theorem vInt2_K{op:Operator}{f:Int→Int→Int}(h : ∀ (A:Around) (E:Value→Shared→Prop) (s:Shared) (Q:Value→Shared→Prop) (a b:Int) (t u:Tok),Q (.int (f a b) s.toks) {s with toks:=s.toks+1}→wpAny (model C.W.prog C.W.w) A (binaryOp op (.int a t) (.int b u)) Q E s) :
  SimK2 C (binaryOp op) (vInt2 f) (VR C.W):=by
 intro h₀ ζ ρ st s P E a b x y ok rel ra rb v st' e k
 refine byC fun hG=>?_
 obtain⟨i,j,t,u,rfl,rfl,e⟩:=onInts_some e ra rb
 injection e
 refine hG ?_
 clear hG
 exact h _ _ _ _ _ _ _ _ (k ζ ρ s.heap _ _ (Gr.refl _ _ _ _) rel (.ofInt _ _))
theorem vCmp_K{op:CmpOp}{f:Int→Int→Bool}(h : ∀ (A:Around) (E:Value→Shared→Prop) (s:Shared) (Q:Value→Shared→Prop) (a b:Int) (t u:Tok),Q (.bool (f a b)) s→wpAny (model C.W.prog C.W.w) A (compareOp op (.int a t) (.int b u)) Q E s) :
  SimK2 C (compareOp op) (vCmp f) (VR C.W):=by
 intro h₀ ζ ρ st s P E a b x y ok rel ra rb v st' e k
 refine byC fun hG=>?_
 obtain⟨i,j,t,u,rfl,rfl,e⟩:=onInts_some e ra rb
 injection e
 refine hG ?_
 clear hG
 exact h _ _ _ _ _ _ _ _ (k ζ ρ s.heap _ _ (Gr.refl _ _ _ _) rel (.ofBool _))
noncomputable def vSub:=vInt2 (· - ·)
noncomputable def vMul:=vInt2G (fun i j=>decide (i.natAbs<2^63)||decide (j.natAbs<2^63)) (· * ·)
noncomputable def vFloorDiv:=vInt2G (fun _ j=>decide (j≠0)&&decide (j.natAbs<2^63)) Int.fdiv
noncomputable def vMod:=vInt2G (fun _ j=>decide (j≠0)) Int.fmod
noncomputable def vAnd:=vInt2 Builtin.bitAnd
noncomputable def vOr:=vInt2 Builtin.bitOr
noncomputable def vXor:=vInt2 Builtin.bitXor
noncomputable def vRShift:=vInt2G (fun _ j=>decide (0≤j)) (fun i j=>i.fdiv (2^j.toNat))
noncomputable def vLt:=vCmp (fun i j=>decide (i<j))
noncomputable def vLe:=vCmp (fun i j=>decide (i≤j))
noncomputable def vGt:=vCmp (fun i j=>decide (j<i))
theorem bits64{i:Int}(h:i.natAbs<2^63):Builtin.Int.intBits i≤64:=by
 unfold Builtin.Int.intBits
 split
 ·exact ar1
 ·rename_i h0
  have h0:i≠0:=by simpa using h0
  have:i.natAbs.log2<63:=(Nat.log2_lt (by exact ar2 h0)).mpr h
  exact ar3 this
theorem vSub_K:SimK2 C (binaryOp .Sub) vSub (VR C.W):=vInt2_K fun _ _ _ _ _ _ _ _ h=>SiftDown.sub_int h
theorem vMul_K:SimK2 C (binaryOp .Mult) vMul (VR C.W):=vInt2G_K fun _ _ _ _ a b _ _ hg h=>by
 refine mul_int h ?_
 simp only [Bool.or_eq_true,decide_eq_true_eq] at hg
 rcases hg with hg|hg
 ·exact IntMulOk.of_left (bits64 hg)
 ·exact IntMulOk.of_right (bits64 hg)
theorem vMod_K:SimK2 C (binaryOp .Mod) vMod (VR C.W):=vInt2G_K fun _ _ _ _ a b _ _ hg h=>mod_int' (of_decide_eq_true hg) h
theorem vAnd_K:SimK2 C (binaryOp .BitAnd) vAnd (VR C.W):=vInt2_K fun _ _ _ _ _ _ _ _ h=>and_int h
theorem vOr_K:SimK2 C (binaryOp .BitOr) vOr (VR C.W):=vInt2_K fun _ _ _ _ _ _ _ _ h=>or_int h
theorem vXor_K:SimK2 C (binaryOp .BitXor) vXor (VR C.W):=vInt2_K fun _ _ _ _ _ _ _ _ h=>xor_int h
theorem vRShift_K:SimK2 C (binaryOp .RShift) vRShift (VR C.W):=vInt2G_K fun _ _ _ _ a b _ _ hg h=>rshift_int (of_decide_eq_true hg) h
theorem vLt_K:SimK2 C (compareOp .Lt) vLt (VR C.W):=vCmp_K fun _ _ _ _ _ _ _ _ h=>lt_int h
theorem vLe_K:SimK2 C (compareOp .LtE) vLe (VR C.W):=vCmp_K fun _ _ _ _ _ _ _ _ h=>le_int h
theorem vGt_K:SimK2 C (compareOp .Gt) vGt (VR C.W):=vCmp_K fun _ _ _ _ _ _ _ _ h=>gt_int h
noncomputable def vNeg(a:V):M V:=fun s=>(un V.int a).bind fun i=>some (.int (-i),s)
theorem vNeg_K:SimK1 C (unaryOp .USub) vNeg:=by
 intro h₀ ζ ρ st s P E a x ok rel ra v st' e k
 refine byC fun hG=>?_
 obtain⟨i,h,e⟩:=ob e
 rw [Zk h] at ra
 obtain⟨t,rfl⟩:=ra
 injection e
 exact hG (neg_int (k ζ ρ s.heap _ _ (Gr.refl _ _ _ _) rel (Exists.intro _ rfl)))
mutual
def V.py:V→Option PyData
 |.none=>some .none
 |.bool b=>some (.bool b)
 |.int i=>some (.int i)
 |.str s=>some (.str s)
 |.tup xs=>(V.pys xs).map .tuple
 |.lst xs=>(V.pys xs).map .list
 |.dct _=>.none
 |.ref _=>.none
 |.val _=>.none
 |.rng _ _ _=>.none
def V.pys:List V→Option (List PyData)
 | []=>some []
 |x::xs=>(V.py x).bind fun d=>(V.pys xs).bind fun ds=>.some (d::ds)
end
mutual
theorem py_reads{W:Wd}{ζ:HM}{ρ:RM}{h:Heap}(hz:Le ζ h.get?) : ∀ (v:V) (x:Value) (d:PyData),V.py v=some d→VR W ζ ρ v x→∃ as,Reads h x d as
 |.none,_,_,e,r=>by change _=_ at r;subst r;injection e;exact⟨_,.none⟩
 |.bool b,_,_,e,r=>by change _=_ at r;subst r;injection e;exact⟨_,.bool _⟩
 |.int i,_,_,e,r=>by obtain⟨t,rfl⟩:=r;injection e;exact⟨_,.int _ _⟩
 |.str i,_,_,e,r=>by obtain⟨t,rfl⟩:=r;injection e;exact⟨_,.str _ _⟩
 |.tup xs,_,_,e,r=>by
  refine byC fun hG=>?_
  obtain⟨a,o,ys,rfl,h1,⟨hc,n,hd⟩,h2⟩:=r
  refine hG ?_
  clear hG
  change (V.pys xs).map _=_ at e
  cases q:V.pys xs with
  |none=>rw [q] at e;injection e
  |some ds =>
   rw [q] at e;injection e
   obtain⟨as,ra⟩:=pys_reads hz xs _ ds q h2
   exact⟨_,.tuple (hz _ _ h1) hc hd ra⟩
 |.lst xs,_,_,e,r=>by
  refine byC fun hG=>?_
  obtain⟨a,o,ys,rfl,h1,hl,h2⟩:=r
  obtain⟨n,hd⟩:=hl.data
  refine hG ?_
  clear hG
  have hc:=hl.cls
  change (V.pys xs).map _=_ at e
  cases q:V.pys xs with
  |none=>rw [q] at e;injection e
  |some ds =>
   rw [q] at e;injection e
   obtain⟨as,ra⟩:=pys_reads hz xs _ ds q h2
   exact⟨_,.list (hz _ _ h1) hc hd ra⟩
 |.dct _,_,_,e,_=>by injection e
 |.ref _,_,_,e,_=>by injection e
 |.val _,_,_,e,_=>by injection e
 |.rng _ _ _,_,_,e,_=>by injection e
theorem pys_reads{W:Wd}{ζ:HM}{ρ:RM}{h:Heap}(hz:Le ζ h.get?) : ∀ (v:List V) (x:List Value) (d:List PyData),V.pys v=some d→VRs W ζ ρ v x→∃ as,ReadsAll h x d as
 | [],_,_,e,r=>by change _=_ at r;subst r;injection e;exact⟨_,.nil⟩
 |v::vs,_,_,e,r=>by
  refine byC fun hG=>?_
  obtain⟨y,r',rfl,_,h1,h2⟩:=r
  refine hG ?_
  clear hG
  change (V.py v).bind _=_ at e
  obtain⟨d,q1,e⟩:=ob e
  obtain⟨ds,q2,e⟩:=ob e
  injection e with e
  subst e
  obtain⟨as,ra⟩:=py_reads hz v _ d q1 h1
  obtain⟨bs,rb⟩:=pys_reads hz vs _ ds q2 h2
  exact⟨_,.cons ra rb⟩
end
noncomputable def dataOf(v:V)(s:St):Option PyData:=(((un V.ref v).bind s.hp).bind (un O.list)).elim v.py fun xs=>(V.pys xs).map .list
theorem data_reads{h₀ ζ:HM}{ρ:RM}{st:St}{h:Heap}(rel:Rel C h₀ ζ ρ st h){v:V}{x:Value}{d:PyData}(e:dataOf v st=some d)(r:VR C.W ζ ρ v x) : ∃ as,Reads h x d as:=by
 have hz:Le ζ h.get?:=rel.frozen
 unfold dataOf at e
 cases w:((un V.ref v).bind st.hp).bind (un O.list) with
 |none=>rw [w] at e;exact py_reads hz _ _ _ e r
 |some xs =>
  rw [w] at e
  refine byC fun hG=>?_
  obtain⟨O,w,w2⟩:=ob w
  obtain⟨n,w,q⟩:=ob w
  rw [Zk w] at r
  rw [Zk w2] at q
  obtain⟨ds,q',rfl⟩:=Xl.mp e
  obtain⟨a,o,h1,h2,ys,hl,h3⟩:=rel.slot n _ q
  obtain⟨n',hd⟩:=hl.data
  obtain⟨a',h1',rfl⟩:=r
  rw [h1] at h1';injection h1'
  obtain⟨as,ra⟩:=pys_reads hz xs _ ds q' h3
  exact hG ⟨_,.list h2 hl.cls hd ra⟩
noncomputable def vEq(neg:Bool)(a b:V):M V:=fun s=>(dataOf a s).bind fun d=>(dataOf b s).bind fun e=>if (SeqAt.shaped d&&SeqAt.shaped e)=true then some (.bool (PyData.eqv d e^^neg),s) else none
theorem vEq_K:SimK2 C (compareOp .Eq) (vEq false) (VR C.W):=by
 intro h₀ ζ ρ st s P E a b x y ok rel ra rb v st' e k
 refine byC fun hG=>?_
 obtain⟨d,q1,e⟩:=ob e
 obtain⟨d',q2,e⟩:=ob e
 obtain⟨hs,e⟩:=io e
 injection e
 simp only [W4] at hs
 obtain⟨as,r1⟩:=data_reads rel q1 ra
 obtain⟨bs,r2⟩:=data_reads rel q2 rb
 have hu:=ok.room.units
 exact hG (SeqAt.compareEq_shaped r1 r2 hs.1 hs.2 (by exact ar4 hu) (k ζ ρ s.heap _ _ (Gr.refl _ _ _ _) rel (congrArg Value.bool (W3 _).symm)))
theorem vNe_K:SimK2 C (compareOp .NotEq) (vEq true) (VR C.W):=by
 intro h₀ ζ ρ st s P E a b x y ok rel ra rb v st' e k
 refine byC fun hG=>?_
 obtain⟨d,q1,e⟩:=ob e
 obtain⟨d',q2,e⟩:=ob e
 obtain⟨hs,e⟩:=io e
 injection e
 simp only [W4] at hs
 obtain⟨as,r1⟩:=data_reads rel q1 ra
 obtain⟨bs,r2⟩:=data_reads rel q2 rb
 have hu:=ok.room.units
 exact hG (SeqAt.compareNe_shaped r1 r2 hs.1 hs.2 (by exact ar4 hu) (k ζ ρ s.heap _ _ (Gr.refl _ _ _ _) rel (congrArg Value.bool (Bool.xor_true _).symm)))
theorem VRk.get{K:Type} [DecidableEq K]{W:Wd}{ζ:HM}{ρ:RM} : ∀ {kvs:List (K×V)} {kys:List (K×Value)},VRk W ζ ρ kvs kys→∀ k,match kvGet kvs k with
  |none=>valueAt kys k=none
  |some v=>v.low=true∧∃ y,valueAt kys k=some y∧VR W ζ ρ v y
 | [],_,h,k=>by change _=_ at h;subst h;rfl
 |(k',v)::r,_,hH,k=>by
  refine byC fun hG=>?_
  obtain⟨y,r',e,hl,h1,h2⟩:=hH
  subst e
  refine hG ?_
  clear hG
  by_cases q:k'=k
  ·rw [Zr,if_pos q]
   exact⟨hl,y,(Zr k' y r' k).trans (if_pos q),h1⟩
  ·have:=h2.get k
   rw [Zr,if_neg q,show valueAt ((k',y)::r') k=valueAt r' k from(Zr k' y r' k).trans (if_neg q)]
   exact this
theorem VRk.some_iff{K:Type} [DecidableEq K]{W:Wd}{ζ:HM}{ρ:RM}{kvs:List (K×V)}{kys:List (K×Value)}(h:VRk W ζ ρ kvs kys)(k:K):(valueAt kys k).isSome=(kvGet kvs k).isSome:=by
 have:=h.get k
 cases e:kvGet kvs k with
 |none=>rw [e] at this;rw [this];rfl
 |some v=>rw [e] at this;obtain⟨_,y,h1,_⟩:=this;rw [h1];rfl
theorem VRk.any{K:Type} [DecidableEq K]{W:Wd}{ζ:HM}{ρ:RM}(k:K) : ∀ {kvs:List (K×V)} {kys:List (K×Value)},VRk W ζ ρ kvs kys→kys.any (fun kv=>decide (kv.1=k))=kvs.any (fun kv=>decide (kv.1=k))
 | [],_,h=>by change _=_ at h;subst h;rfl
 |(k',v)::r,_,hH=>by obtain⟨y,r',e,hl,h1,h2⟩:=hH;subst e;simp only [List.any_cons,VRk.any k h2]
theorem VRk.append{K:Type}{W:Wd}{ζ:HM}{ρ:RM} : ∀ {v v':List (K×V)} {x x':List (K×Value)},VRk W ζ ρ v x→VRk W ζ ρ v' x'→VRk W ζ ρ (v++v') (x++x')
 | [],_,_,_,h,h'=>by change _=_ at h;subst h;exact h'
 |(_,_)::_,_,_,_,hH,h'=>by obtain⟨y,r,e,hl,h1,h2⟩:=hH;subst e;exact⟨y,_,rfl,hl,h1,h2.append h'⟩
theorem VRk.mapSet{K:Type} [DecidableEq K]{W:Wd}{ζ:HM}{ρ:RM}(k:K){u:V}{z:Value}(hl:u.low=true)(hu:VR W ζ ρ u z) : ∀ {kvs:List (K×V)} {kys:List (K×Value)},VRk W ζ ρ kvs kys→
  VRk W ζ ρ (kvs.map fun kv=>if kv.1=k then (kv.1,u) else kv) (kys.map fun kv=>if kv.1=k then (kv.1,z) else kv)
 | [],_,h=>by change _=_ at h;subst h;rfl
 |(k',v)::r,_,hH=>by
  refine byC fun hG=>?_
  obtain⟨y,r',e,hl',h1,h2⟩:=hH
  subst e
  refine hG ?_
  clear hG
  simp only [Xb]
  by_cases q:k'=k
  ·simp only [q,if_true];exact⟨z,_,rfl,hl,hu,VRk.mapSet k hl hu h2⟩
  ·simp only [q,if_false];exact⟨y,_,rfl,hl',h1,VRk.mapSet k hl hu h2⟩
theorem VRk.stored{K:Type} [DecidableEq K]{W:Wd}{ζ:HM}{ρ:RM}{kvs:List (K×V)}{kys:List (K×Value)}(h:VRk W ζ ρ kvs kys)(k:K){v:V}{y:Value}(hl:v.low=true)(hv:VR W ζ ρ v y):VRk W ζ ρ (kvSet kvs k v) (stored kys k y):=by
 unfold kvSet PySem.stored
 rw [h.any k]
 split
 ·exact VRk.mapSet k hl hv h
 ·exact h.append ⟨y,[],rfl,hl,hv,rfl⟩
theorem VRk.length{K:Type}{W:Wd}{ζ:HM}{ρ:RM} : ∀ {v:List (K×V)} {x:List (K×Value)},VRk W ζ ρ v x→x.length=v.length
 | [],_,h=>by change _=_ at h;subst h;rfl
 |(_,_)::_,_,hH=>by obtain⟨y,r,e,hl,h1,h2⟩:=hH;subst e;simp [h2.length]
theorem Ent.dictOf{W:Wd}{K:Type} [DecidableEq K]{knd:KeyKind W.prog W.w K}{es:Array DictEntry}{kys:List (K×Value)}{n:Nat}{h:Heap}{a:Addr}(e:Ent W knd es kys)(ho:h.get? a=some (dctO es n)):h.DictOf knd a kys :=
 ⟨_,es,n,ho,⟨rfl,rfl,rfl⟩,rfl,e.1,e.2.1,e.2.2⟩
theorem Ent.back{W:Wd}{K:Type} [DecidableEq K]{knd:KeyKind W.prog W.w K}{kys:List (K×Value)}{h:Heap}{a:Addr}(e:h.DictOf knd a kys) : ∃ es n,h.get? a=some (dctO es n)∧Ent W knd es kys:=by
 refine byC fun hG=>?_
 obtain⟨o,es,ep,ho,⟨h1,h2,h3⟩,hd,hk,hp,hn⟩:=e
 refine hG ?_
 clear hG
 refine⟨es,ep,?_,hk,hp,hn⟩
 refine byC fun hG=>?_
 obtain⟨c,d,dt,sl⟩:=o
 refine hG ?_
 clear hG
 simp only at h1 h2 h3 hd
 subst h1 h2 h3 hd
 exact ho
noncomputable def dView(v:V)(s:St):Option (List (Int×V)):=(un V.dct v).or (((un V.ref v).bind s.hp).bind (un O.idict))
theorem dView_at{h₀ ζ:HM}{ρ:RM}{st:St}{h:Heap}(rel:Rel C h₀ ζ ρ st h){v:V}{x:Value}{kvs:List (Int×V)}(e:dView v st=some kvs)(r:VR C.W ζ ρ v x) :
  ∃ a kys,x = .ref a∧(a==sysModules)=false∧h.DictOf (intKind C.W.prog C.W.w) a kys∧VRk C.W ζ ρ kvs kys:=by
 refine byC fun hG=>?_
 rcases oro e with e|e
 ·rw [Zk e] at r
  obtain⟨a,es,n,kys,rfl,h1,h2,h3⟩:=r
  exact hG ⟨a,kys,rfl,beq_eq_false_iff_ne.mpr fun q=>by rw [q,rel.sysz] at h1;injection h1,h2.dictOf (rel.frozen _ _ h1),VRk_p.mpr h3⟩
 ·obtain⟨O,e,e2⟩:=ob e
  obtain⟨n,e,q⟩:=ob e
  rw [Zk e] at r
  rw [Zk e2] at q
  obtain⟨a',h1',rfl⟩:=r
  obtain⟨a,o,h1,h2,es,n',kys,rfl,h3,h4⟩:=rel.slot n _ q
  obtain rfl:a=a':=Xm (h1.symm.trans h1')
  exact hG ⟨a,kys,rfl,beq_eq_false_iff_ne.mpr fun q=>rel.sysr n (q▸h1),h3.dictOf h2,h4⟩
theorem isInt_self(i:Int)(t:Tok){W:Wd}:(intKind W.prog W.w).is i (.int i t)=true:=by simp [intKind,Value.isInt]
noncomputable def intsOf(vs:List V):Option (List Int):=un (List.map V.int) vs
theorem map_inj{α β:Type}{f:α→β}(i : ∀ x y,f x=f y→x=y)(l:List α) : ∀ m,l.map f=m.map f→l=m:=by
 induction l with
 |nil=>intro m h;cases m with|nil=>rfl|cons _ _=>exact(List.cons_ne_nil _ _ h.symm).elim
 |cons a r ih =>
  intro m h
  cases m with
  |nil=>exact(List.cons_ne_nil _ _ h).elim
  |cons b q=>rw [i a b (List.cons.inj h).1,ih q (List.cons.inj h).2]
theorem map_int_inj(l m:List Int)(h:l.map V.int=m.map V.int):l=m:=map_inj (fun _ _ e=>V.int.inj e) l m h
theorem ints_map(l:List Int):intsOf (l.map V.int)=some l:=un_self map_int_inj
theorem ints_back{W:Wd}{ζ:HM}{ρ:RM}{l:List Int} : ∀ {ys:List Value},VRs W ζ ρ (l.map .int) ys→ItemsAre (intKind W.prog W.w) l ys:=by
 induction l with
 |nil=>intro ys h;change _=_ at h;subst h;exact .nil
 |cons i r ih =>
  intro ys h
  refine byC fun hG=>?_
  obtain⟨y,r',rfl,_,⟨t,rfl⟩,h2⟩:=h
  exact hG (.cons (isInt_self i t) (ih h2))
theorem ints_are{W:Wd}{ζ:HM}{ρ:RM}{vs:List V}{l:List Int}{ys:List Value}(e:intsOf vs=some l)(h:VRs W ζ ρ vs ys):ItemsAre (intKind W.prog W.w) l ys:=ints_back (Zk e▸h)
theorem tup_key{h₀ ζ:HM}{ρ:RM}{st:St}{h:Heap}(rel:Rel C h₀ ζ ρ st h){vs:List V}{l:List Int}{x:Value}(e:intsOf vs=some l)(r:VR C.W ζ ρ (.tup vs) x) :
  ∃ a,x = .ref a∧IsTupleKey (intKind C.W.prog C.W.w) h l a∧∃ o ks,ζ a=some o∧TupIs o ks∧ItemsAre (intKind C.W.prog C.W.w) l ks.toList:=by
 refine byC fun hG=>?_
 obtain⟨a,o,ys,rfl,h1,⟨hc,n,hd⟩,h2⟩:=r
 refine hG ?_
 clear hG
 exact⟨a,rfl,⟨o,ys,n,rel.frozen _ _ h1,hc,hd,ints_are e h2⟩,o,ys,h1,⟨hc,n,hd⟩,ints_are e h2⟩
theorem TKeys.at{h₀ ζ:HM}{ρ:RM}{st:St}{h:Heap}(rel:Rel C h₀ ζ ρ st h) : ∀ {kvs:List (List Int×V)} {kys:List (List Int×Addr×Value)},TKeys C.W ζ ρ kvs kys→∀ x∈kys,IsTupleKey (intKind C.W.prog C.W.w) h x.1 x.2.1
 | [],_,e,x,hx=>by change _=_ at e;subst e;injection hx
 |(_,_)::_,_,hH,x,hx=>by
  refine byC fun hG=>?_
  obtain⟨a,y,r,ks,o,e,h0,⟨hc,n,hd⟩,h1,hl,h2,h3⟩:=hH
  subst e
  refine hG ?_
  clear hG
  rcases Xd.mp hx with rfl|hx
  ·exact⟨o,ks,n,rel.frozen _ _ h0,hc,hd,h1⟩
  ·exact h3.at rel x hx
theorem TKeys.get{W:Wd}{ζ:HM}{ρ:RM} : ∀ {kvs:List (List Int×V)} {kys:List (List Int×Addr×Value)},TKeys W ζ ρ kvs kys→∀ k,match kvGet kvs k with
  |none=>atKey kys k=none
  |some v=>v.low=true∧∃ p,atKey kys k=some p∧VR W ζ ρ v p.2
 | [],_,h,k=>by change _=_ at h;subst h;rfl
 |(k',v)::r,_,hH,k=>by
  refine byC fun hG=>?_
  obtain⟨a,y,r',ks,o,e,h0,ht,h1,hl,h2,h3⟩:=hH
  subst e
  refine hG ?_
  clear hG
  by_cases q:k'=k
  ·rw [Zr,if_pos q]
   exact⟨hl,_,(Zr k' (a,y) r' k).trans (if_pos q),h2⟩
  ·have:=h3.get k
   rw [Zr,if_neg q,show atKey ((k',a,y)::r') k=atKey r' k from(Zr k' (a,y) r' k).trans (if_neg q)]
   exact this
theorem TKeys.some_iff{W:Wd}{ζ:HM}{ρ:RM}{kvs:List (List Int×V)}{kys:List (List Int×Addr×Value)}(h:TKeys W ζ ρ kvs kys)(k:List Int):(atKey kys k).isSome=(kvGet kvs k).isSome:=by
 have:=h.get k
 cases e:kvGet kvs k with
 |none=>rw [e] at this;rw [this];rfl
 |some v=>rw [e] at this;obtain⟨_,y,h1,_⟩:=this;rw [h1];rfl
theorem tdict_at{h₀ ζ:HM}{ρ:RM}{st:St}{h:Heap}(rel:Rel C h₀ ζ ρ st h){n:Nat}{kvs:List (List Int×V)}(e:st.hp n=some (.tdict kvs)){x:Value}(r:VR C.W ζ ρ (.ref n) x) :
  ∃ a kys,x = .ref a∧ρ n=some a∧(a==sysModules)=false∧h.DictOfH (tupleKind (intKind C.W.prog C.W.w)) a kys∧TKeys C.W ζ ρ kvs kys:=by
 refine byC fun hG=>?_
 obtain⟨a',h1',rfl⟩:=r
 obtain⟨a,o,h1,h2,es,n',kys,rfl,h3,h4,h5⟩:=rel.slot n _ e
 refine hG ?_
 clear hG
 obtain rfl:a=a':=Xm (h1.symm.trans h1')
 refine⟨a,kys,rfl,h1,?_,⟨_,es,n',h2,⟨rfl,rfl,rfl⟩,rfl,h3,h5.at rel,h4⟩,h5⟩
 rw [beq_eq_false_iff_ne];intro q;exact rel.sysr n (q▸h1)
noncomputable def vIn(neg:Bool)(x c:V):M V:=fun s =>
 ((un V.int x).bind fun i=>(dView c s).bind fun kvs=>some (.bool ((kvGet kvs i).isSome^^neg),s)).or
 (((un V.tup x).bind fun vs=>(intsOf vs).bind fun l=>(un V.ref c).bind fun n=>((s.hp n).bind (un O.tdict)).bind fun kvs=>some (.bool ((kvGet kvs l).isSome^^neg),s)).or
 ((dataOf x s).bind fun d=>(dataOf c s).bind fun e=>(un PyData.list e).bind fun ds=>if (SeqAt.shaped d&&SeqAt.shaped (.list ds))=true then some (.bool ((ds.any fun y=>PyData.eqv y d)^^neg),s) else none))
theorem shaped_list{ds:List PyData}(h:SeqAt.shaped (.list ds)=true):PyData.canLayAll0 ds=true∧PyData.depthAll ds≤64:=by
 have h1:=SeqAt.canLay_of_shaped h
 have h2:=SeqAt.depth_of_shaped h
 simp only [PyData.canLay0,PyData.depth] at h1 h2
 exact⟨h1,by exact ar5 h2⟩
theorem vIn_K'(neg:Bool):SimK2 C (compareOp (if neg then .NotIn else .In)) (vIn neg) (VR C.W):=by
 intro h₀ ζ ρ st s P E a b x y ok rel ra rb v st' e k
 have hu:=ok.room.units
 rcases oro e with e|e
 ·refine byC fun hG=>?_
  obtain⟨i,q0,e⟩:=ob e
  obtain⟨kvs,q,e⟩:=ob e
  injection e
  rw [Zk q0] at ra
  obtain⟨ad,kys,rfl,hsys,hd,hk⟩:=dView_at rel q rb
  obtain⟨t,rfl⟩:=ra
  refine hG ?_
  clear hG
  have fin:P (.bool ((valueAt kys i).isSome^^neg)) {s with toks:=s.toks+1}:=by
   rw [hk.some_iff i]
   exact k ζ ρ s.heap _ _ (Gr.refl _ _ _ _) rel rfl
  cases neg with
  |false=>exact wpAny_in_of (isInt_self i t) hsys hd.mapOf (by simpa using fin)
  |true=>exact wpAny_notIn_of (isInt_self i t) hsys hd.mapOf (by simpa using fin)
 rcases oro e with e|e
 ·refine byC fun hG=>?_
  obtain⟨vs,q0,e⟩:=ob e
  obtain⟨l,ql,e⟩:=ob e
  obtain⟨n,qn,e⟩:=ob e
  obtain⟨kvs,q,e⟩:=ob e
  obtain⟨O,q,qo⟩:=ob q
  injection e
  rw [Zk q0] at ra
  rw [Zk qn] at rb
  rw [Zk qo] at q
  obtain⟨ax,rfl,hkey,_⟩:=tup_key rel ql ra
  obtain⟨ad,kys,rfl,_,hsys,hd,hk⟩:=tdict_at rel q rb
  refine hG ?_
  clear hG
  have fin : ∀ m,P (.bool ((atKey kys l).isSome^^neg)) {s with toks:=m}:=fun m=>by
   rw [hk.some_iff l]
   exact k ζ ρ s.heap _ _ (Gr.refl _ _ _ _) rel rfl
  cases neg with
  |false=>exact wpAny_in_heap (knd:=tupleKind (intKind C.W.prog C.W.w)) (by show C.A.units+1<cLine;exact ar6 hu) hkey hsys hd (by simpa using fin _)
  |true=>exact wpAny_notIn_heap (knd:=tupleKind (intKind C.W.prog C.W.w)) (by show C.A.units+1<cLine;exact ar6 hu) hkey hsys hd (by simpa using fin _)
 ·refine byC fun hG=>?_
  obtain⟨d,q1,e⟩:=ob e
  obtain⟨d2,q2,e⟩:=ob e
  obtain⟨ds,q3,e⟩:=ob e
  obtain⟨hs,e⟩:=io e
  injection e
  rw [Zk q3] at q2
  simp only [W4] at hs
  obtain⟨as,r1⟩:=data_reads rel q1 ra
  obtain⟨bs,r2⟩:=data_reads rel q2 rb
  obtain⟨h1,h2⟩:=shaped_list hs.2
  refine hG ?_
  clear hG
  have h3:min (PyData.depthAll ds) d.depth≤PyData.depthAll ds:=Nat.min_le_left _ _
  have fin:=k ζ ρ s.heap s.toks (.bool ((ds.any fun y=>PyData.eqv y d)^^neg)) (Gr.refl _ _ _ _) rel rfl
  cases neg with
  |false=>exact SeqAt.in_list_reads r2 r1 h1 (SeqAt.canLay_of_shaped hs.1) (by exact ar7 hu h2 h3) (by simpa using fin)
  |true=>exact SeqAt.notIn_list_reads r2 r1 h1 (SeqAt.canLay_of_shaped hs.1) (by exact ar7 hu h2 h3) (by simpa using fin)
theorem vIn_K:SimK2 C (compareOp .In) (vIn false) (VR C.W):=vIn_K' false
theorem vNotIn_K:SimK2 C (compareOp .NotIn) (vIn true) (VR C.W):=vIn_K' true
noncomputable def V.isNone(v:V):Bool:=@V.casesOn (fun _=>Bool) v true (fun _=>false) (fun _=>false) (fun _=>false) (fun _=>false) (fun _=>false) (fun _=>false) (fun _=>false) (fun _=>false) (fun _ _ _=>false)
noncomputable def V.isVal(v:V):Bool:=@V.casesOn (fun _=>Bool) v false (fun _=>false) (fun _=>false) (fun _=>false) (fun _=>false) (fun _=>false) (fun _=>false) (fun _=>false) (fun _=>true) (fun _ _ _=>false)
noncomputable def vIsNone(neg:Bool)(x y:V):M V:=if y.isNone && !x.isVal then pure (.bool (x.isNone^^neg)) else M.fail
theorem isNone_eq{v:V}(h:v.isNone=true):v = .none:=by
 cases v<;>first|rfl|injection h
theorem isNone_of{W:Wd}{ζ:HM}{ρ:RM}{v:V}{x:Value}(r:VR W ζ ρ v x)(h : ∀ y,v≠ .val y):(x==Value.none)=v.isNone:=by
 cases v with
 |none=>change _=_ at r;subst r;rfl
 |bool b=>change _=_ at r;subst r;rfl
 |int b=>obtain⟨_,rfl⟩:=r;rfl
 |str b=>obtain⟨_,rfl⟩:=r;rfl
 |tup b=>obtain⟨_,_,_,rfl,_⟩:=r;rfl
 |lst b=>obtain⟨_,_,_,rfl,_⟩:=r;rfl
 |dct b=>obtain⟨_,_,_,_,rfl,_⟩:=r;rfl
 |ref b=>obtain⟨_,_,rfl⟩:=r;rfl
 |rng _ _ _=>obtain⟨_,_,_,_,rfl,_⟩:=r;rfl
 |val y=>exact absurd rfl (h y)
inductive IsNoneSome(neg:Bool)(a b:V)(st:St)(r:V×St):Prop
 |mk (hb:b = .none) (ha : ∀ y,a≠ .val y) (hr:r=(.bool (a.isNone^^neg),st))
theorem vIsNone_some{neg:Bool}{a b:V}{st:St}{r:V×St}(e:vIsNone neg a b st=some r):IsNoneSome neg a b st r:=by
 unfold vIsNone at e
 split at e
 ·rename_i h
  have h:=Bool.and_eq_true_iff.mp h
  injection e
  exact⟨isNone_eq h.1,fun y q=>by rw [q] at h;exact absurd h.2 nofun,rfl⟩
 ·injection e
theorem vIs_K'(neg:Bool):SimK2 C (compareOp (if neg then .IsNot else .Is)) (vIsNone neg) (VR C.W):=by
 intro h₀ ζ ρ st s P E a b x y ok rel ra rb v st' e k
 refine byC fun hG=>?_
 obtain⟨rfl,hne,hr⟩:=vIsNone_some e
 injection hr
 refine hG ?_
 clear hG
 change _=_ at rb
 subst rb
 have hb:=isNone_of ra hne
 have fin:=k ζ ρ s.heap s.toks (.bool ((x==Value.none)^^neg)) (Gr.refl _ _ _ _) rel (congrArg (fun c=>Value.bool (c^^neg)) hb)
 cases neg with
 |false=>exact is_none (by simpa using fin)
 |true=>exact isNot_none (by simpa using fin)
theorem vIs_K:SimK2 C (compareOp .Is) (vIsNone false) (VR C.W):=vIs_K' false
theorem vIsNot_K:SimK2 C (compareOp .IsNot) (vIsNone true) (VR C.W):=vIs_K' true
end Lay
namespace Lay
noncomputable abbrev Hp:=Nat→Option O
noncomputable abbrev FM:=List V→Hp→Option (V×Hp)
noncomputable def callPost(P:Value→Shared→Prop)(E:Value→Shared→Prop)(r:Result)(s':Shared):Prop:=match r with
 |.ok (.ret v)=>P v s'
 |.ok _=>False
 |.error e=>E e s'
noncomputable def KontF(W:Wd)(B:Nat)(h₀:HM)(s:Shared)(ζ:HM)(ρ:RM)(σ:Hp)(P:Value→Shared→Prop)(v:V)(σ':Hp):Prop :=
 ∀ ζ' ρ' h' tk' x,Gr B s.heap ζ ρ h' ζ' ρ'→SRel W h₀ ζ' ρ' σ' h'→(∀ n,100≤n→σ n=none→σ' n=none)→VR W ζ' ρ' v x→P x {s with heap:=h',toks:=tk'}
noncomputable def FnSim(W:Wd)(f:Value)(B k:Nat)(fm:FM):Prop :=
 ∀ (A:Around) (h₀ ζ:HM) (ρ:RM) (σ:Hp) (s:Shared) (args:List V) (xs:List Value) (P:Value→Shared→Prop) (E:Value→Shared→Prop),
  Room A k→SRel W h₀ ζ ρ σ s.heap→(∀ n,B≤n→σ n=none)→VRa W ζ ρ args xs→∀ v σ',fm args σ=some (v,σ')→
  KontF W B h₀ s ζ ρ σ P v σ'→
  codeAny (model W.prog W.w) A (.call f ⟨xs,[]⟩) (callPost P E) s
noncomputable def leaveV(B:Nat)(v:V)(σ:Hp):Option V:=(un V.ref v).elim (some v) fun n=>if n<B then some (.ref n) else (((σ n).bind (un O.list)).bind fun xs=>some (V.lst xs)).or (((σ n).bind (un O.idict)).bind fun kvs=>some (V.dct kvs))
theorem Zi{B:Nat}{v:V}{σ:Hp}(h : ∀ n,v≠ .ref n):leaveV B v σ=some v:=by unfold leaveV;rw [un_none h];rfl
theorem un_ref{n:Nat}:un V.ref (.ref n)=some n:=un_self fun _ _ e=>V.ref.inj e
noncomputable def cut(B:Nat)(σ:Hp):Hp:=fun n=>if n<B then σ n else none
noncomputable def flV:Fl→Option V
 |.ret v=>some v
 |.next=>some .none
 |_=>none
noncomputable def runF(B n:Nat)(mb:M Fl):FM:=fun args σ =>
 if args.length=n then (mb ⟨fun i=>args[i]?,σ⟩).bind fun r=>(flV r.1).bind fun v=>(leaveV B v r.2.hp).bind fun v'=>some (v',cut B r.2.hp) else none
noncomputable def plOf(names:List (Str×NameKind))(L:Addr)(cells:List (Str×Addr)):Nat→Option Place:=fun i =>
 (names[i]?).bind fun x=>if x.2 = .local then some (.loc L x.1) else if x.2 = .cell then (cells.lookup x.1).bind fun c=>some (.cell c) else none
inductive PlIs(names:List (Str×NameKind))(L:Addr)(cells:List (Str×Addr))(i:Nat)(pl:Place):Prop
 |loc (x:Str×NameKind) (h:names[i]?=some x) (e:pl = .loc L x.1)
 |cell (x:Str×NameKind) (c:Addr) (h:names[i]?=some x) (hc:cells.lookup x.1=some c) (e:pl = .cell c)
theorem plOf_some{names:List (Str×NameKind)}{L:Addr}{cells:List (Str×Addr)}{i:Nat}{pl:Place}(e:plOf names L cells i=some pl):PlIs names L cells i pl:=by
 refine byC fun hG=>?_
 obtain⟨x,h,e⟩:=ob e
 by_cases q:x.2 = .local
 ·rw [if_pos q] at e;exact hG (.loc x h (Xm e).symm)
 ·rw [if_neg q] at e
  obtain⟨_,e⟩:=io e
  obtain⟨c,hc,e⟩:=ob e
  exact hG (.cell x c h hc (Xm e).symm)
noncomputable def fnCx(W:Wd)(A:Around)(f:Addr)(qual:Str)(scope:Scope)(cdv:Value)(L:Addr)(k B T:Nat)(mid:Nat→Prop):Cx where
 W:=W
 A:=A.deeper (envOfC qual scope L f cdv)
 env:=envOfC qual scope L f cdv
 k:=k
 B:=B
 T:=T
 pl:=plOf scope.names L (cellsFrom (L+1) scope.names [])
 mid:=mid
noncomputable def fnOk(scope:Scope)(n:Nat):Bool :=
 scope.kind == .function && !scope.isCoroutine && !scope.isGenerator&&decide ((scope.names.map (·.1)).Nodup)&&decide (n≤scope.names.length) &&
  (scope.names.take n).all (fun x=>x.2 == .local||x.2 == .cell)
theorem lookup_of_mem{α:Type} : ∀ {l:List (Str×α)} {x:Str} {k:α},(l.map (·.1)).Nodup→(x,k)∈l→l.lookup x=some k
 | [],_,_,_,h=>nomatch h
 |(y,k')::r,x,k,hn,h=>by
  rw [Xb,List.nodup_cons] at hn
  rcases Xd.mp h with e|h'
  ·injection e;simp [List.lookup]
  ·have:x≠y:=fun q=>hn.1 (List.mem_map.mpr ⟨(x,k),h',q⟩)
   rw [List.lookup_cons]
   have hb:(x==y)=false:=beq_eq_false_iff_ne.mpr this
   rw [hb]
   exact lookup_of_mem hn.2 h'
theorem mem_of_lookup'{α:Type} : ∀ {l:List (Str×α)} {x:Str} {k:α},l.lookup x=some k→(x,k)∈l
 | [],_,_,h=>nomatch h
 |(y,k')::r,x,k,h=>by
  rw [List.lookup_cons] at h
  by_cases q:x=y
  ·subst q;simp at h;subst h;exact .head _
  ·have hb:(x==y)=false:=beq_eq_false_iff_ne.mpr q
   rw [hb] at h;exact .tail _ (mem_of_lookup' h)
theorem bindL_off(kd:Str→Option NameKind) : ∀ (b:List (Str×Value)) (m:Str→Option Value) (x:Str),x∉b.map (·.1)→bindL kd b m x=m x
 | [],_,_,_=>rfl
 |(y,v)::r,m,x,h=>by
  simp only [Xb,Xd,not_or] at h
  unfold bindL
  rw [bindL_off kd r _ x h.2]
  split
  ·simp [h.1]
  ·rfl
theorem bindL_on(kd:Str→Option NameKind) : ∀ (b:List (Str×Value)) (m:Str→Option Value) (x:Str) (v:Value),(b.map (·.1)).Nodup→(x,v)∈b→kd x=some .local→bindL kd b m x=some v
 | [],_,_,_,_,h,_=>nomatch h
 |(y,u)::r,m,x,v,hn,h,hk=>by
  rw [Xb,List.nodup_cons] at hn
  unfold bindL
  rcases Xd.mp h with e|h
  ·injection e with e1 e2
   subst e1 e2
   rw [bindL_off kd r _ _ hn.1,if_pos hk];simp
  ·exact bindL_on kd r _ x v hn.2 h hk
theorem bindC_off(kd:Str→Option NameKind) : ∀ (b:List (Str×Value)) (m:Str→Option Value) (x:Str),x∉b.map (·.1)→bindC kd b m x=m x
 | [],_,_,_=>rfl
 |(y,v)::r,m,x,h=>by
  simp only [Xb,Xd,not_or] at h
  unfold bindC
  rw [bindC_off kd r _ x h.2]
  split
  ·rfl
  ·simp [h.1]
theorem bindC_on(kd:Str→Option NameKind) : ∀ (b:List (Str×Value)) (m:Str→Option Value) (x:Str) (v:Value),(b.map (·.1)).Nodup→(x,v)∈b→kd x≠some .local→bindC kd b m x=some v
 | [],_,_,_,_,h,_=>nomatch h
 |(y,u)::r,m,x,v,hn,h,hk=>by
  rw [Xb,List.nodup_cons] at hn
  unfold bindC
  rcases Xd.mp h with e|h
  ·injection e with e1 e2
   subst e1 e2
   rw [bindC_off kd r _ _ hn.1,if_neg hk];simp
  ·exact bindC_on kd r _ x v hn.2 h hk
theorem cellsFrom_has : ∀ (names:List (Str×NameKind)) (n:Nat) (acc:List (Str×Addr)) (x:Str),(x,.cell)∈names∨(acc.lookup x).isSome=true→((cellsFrom n names acc).lookup x).isSome=true
 | [],_,_,_,h=>h.elim (fun h=>nomatch h) id
 |(y,k)::r,n,acc,x,h=>by
  unfold cellsFrom
  split
  ·refine cellsFrom_has r (n+1) _ x ?_
   by_cases q:x=y
   ·subst q;exact .inr (by simp [List.lookup])
   ·rcases h with h|h
    ·rcases Xd.mp h with e|h
     ·injection e;exact absurd rfl q
     ·exact .inl h
    ·refine .inr ?_
     rw [List.lookup_cons,beq_eq_false_iff_ne.mpr q];exact h
  ·rename_i hk
   refine cellsFrom_has r n acc x ?_
   rcases h with h|h
   ·rcases Xd.mp h with e|h
    ·injection e;exact absurd rfl hk
    ·exact .inl h
   ·exact .inr h
theorem VRa.get{W:Wd}{ζ:HM}{ρ:RM} : ∀ {v:List V} {x:List Value},VRa W ζ ρ v x→∀ (i:Nat) (u:V),v[i]?=some u→∃ y,x[i]?=some y∧VR W ζ ρ u y
 | [],_,_,i,u,e=>by simp at e
 |a::r,_,hH,i,u,e=>by
  refine byC fun hG=>?_
  obtain⟨y,r',e',h1,h2⟩:=hH
  subst e'
  refine hG ?_
  clear hG
  cases i with
  |zero=>simp at e;subst e;exact⟨y,by simp,h1⟩
  |succ i=>simp at e;obtain⟨z,hz⟩:=h2.get i u e;exact⟨z,by simpa using hz⟩
theorem leave_rel{C:Cx}{h₀ ζ:HM}{ρ:RM}{st:St}{h:Heap}(rel:Rel C h₀ ζ ρ st h)(b100:100≤C.B){v v':V}{x:Value}(e:leaveV C.B v st.hp=some v')(r:VR C.W ζ ρ v x) :
  ∃ ζ' ρ',Le ζ ζ'∧(∀ n a,n<C.B→ρ n=some a→ρ' n=some a)∧(∀ a o,ζ' a=some o→ζ a=some o∨∃ n,C.B≤n∧ρ n=some a)∧(∀ n a,ρ' n=some a→ρ n=some a)∧
   SRel C.W h₀ ζ' ρ' (cut C.B st.hp) h∧VR C.W ζ' ρ' v' x:=by
 let ρ':RM:=fun n=>if n<C.B then ρ n else none
 have r1 : ∀ n a,n<C.B→ρ n=some a→ρ' n=some a:=fun n a q e=>by simp only [ρ',if_pos q];exact e
 have r2 : ∀ n a,ρ' n=some a→ρ n=some a∧n<C.B:=fun n a e=>by
  simp only [ρ'] at e
  split at e
  ·exact⟨e,by assumption⟩
  ·injection e
 have hlow:LowLe ρ ρ':=fun n a q e=>r1 n a (Yq q b100) e
 have base : ∀ ζ':HM,Le ζ ζ'→(∀ a o,ζ' a=some o→ζ a=some o∨(∃ n,C.B≤n∧ρ n=some a)∧h.get? a=some o)→SRel C.W h₀ ζ' ρ' (cut C.B st.hp) h:=by
  intro ζ' le hz
  refine⟨rel.ok,rel.kept,fun a o e=>?_,fun a o e=>?_,fun n O e=>?_,fun n e=>?_,fun n m a e e'=>rel.inj n m a (r2 _ _ e).1 (r2 _ _ e').1,fun n a e=>?_,fun n a e=>rel.offk n a (r2 _ _ e).1,rel.good,fun n e=>rel.sysr n (r2 _ _ e).1,?_⟩
  ·rcases hz a o e with q|q
   ·exact rel.frozen a o q
   ·exact q.2
  ·trivial
  ·unfold cut at e
   split at e
   ·rename_i q
    refine byC fun hG=>?_
    obtain⟨a,o,h1,h2,h3⟩:=rel.slot n O e
    refine hG ?_
    clear hG
    exact⟨a,o,r1 n a q h1,h2,h3.mono le hlow⟩
   ·injection e
  ·unfold cut at e
   split at e
   ·rename_i q;simp only [ρ',if_pos q];exact rel.dom n e
   ·rename_i q;simp only [ρ',if_neg q]
  ·cases q:ζ' a with
   |none=>rfl
   |some o =>
    obtain⟨e1,e2⟩:=r2 _ _ e
    rcases hz a o q with q|⟨⟨m,hm,q⟩,_⟩
    ·rw [rel.offz n a e1] at q;injection q
    ·exact absurd (rel.inj n m a e1 q) (Yu (Yq (by assumption) (by assumption)))
  ·cases q:ζ' sysModules with
   |none=>rfl
   |some o =>
    rcases hz _ o q with q|⟨⟨m,hm,q⟩,_⟩
    ·rw [rel.sysz] at q;injection q
    ·exact absurd q (rel.sysr m)
 unfold leaveV at e
 refine byC fun hG=>?_
 cases w:un V.ref v with
 |none =>
  rw [w] at e
  injection e with e
  subst e
  refine hG ⟨ζ,ρ',Le.refl _,r1,fun a o e=>.inl e,fun n a e=>(r2 _ _ e).1,base ζ (Le.refl _) fun a o e=>.inl e,VR.lowMono (Le.refl _) hlow v x ?_ r⟩
  cases v with
  |ref n=>rw [un_ref] at w;injection w
  |_=>rfl
 |some n =>
  rw [w] at e
  rw [Zk w] at r
  obtain⟨a,h1,rfl⟩:=r
  by_cases q:n<C.B
  ·have e:(if n<C.B then some (V.ref n) else _)=some v':=e
   rw [if_pos q] at e
   injection e with e
   subst e
   exact hG ⟨ζ,ρ',Le.refl _,r1,fun a o e=>.inl e,fun n a e=>(r2 _ _ e).1,base ζ (Le.refl _) fun a o e=>.inl e,by refine(?_:Exists _);exact⟨a,r1 n a q h1,rfl⟩⟩
  ·have e:(if n<C.B then some (V.ref n) else _)=some v':=e
   rw [if_neg q] at e
   have fin : ∀ o,h.get? a=some o→VR C.W (upd ζ a (some o)) ρ' v' (.ref a)→False:=fun o h3 h4=>by
    have le:Le ζ (upd ζ a (some o)):=upd_le (rel.offz n a h1)
    have hz : ∀ b o',upd ζ a (some o) b=some o'→ζ b=some o'∨(∃ n,C.B≤n∧ρ n=some b)∧h.get? b=some o':=fun b o' e=>by
     by_cases p:b=a
     ·subst p;rw [Zc] at e;injection e;exact .inr ⟨⟨n,X0 q,h1⟩,h3⟩
     ·rw [upd_ne _ _ p] at e;exact .inl e
    exact hG ⟨upd ζ a (some o),ρ',le,r1,fun b o' e=>(hz b o' e).imp id (fun x=>x.1),fun n a e=>(r2 _ _ e).1,base _ le hz,h4⟩
   rcases oro e with e|e
   ·obtain⟨xs,hx,e⟩:=ob e
    injection e with e
    subst e
    obtain⟨O,hx,ho⟩:=ob hx
    rw [Zk ho] at hx
    obtain⟨a',o,h2,h3,ys,h4,h5⟩:=rel.slot n _ hx
    obtain rfl:a=a':=Xm (h1.symm.trans h2)
    refine fin o h3 ?_
    refine(?_:Exists _)
    exact⟨a,o,ys,rfl,Zc _ _ _,h4,VRs.mono (upd_le (rel.offz n a h1)) hlow _ _ h5⟩
   ·obtain⟨kvs,hx,e⟩:=ob e
    injection e with e
    subst e
    obtain⟨O,hx,ho⟩:=ob hx
    rw [Zk ho] at hx
    obtain⟨a',o,h2,h3,es,n',kys,h4,h5,h6⟩:=rel.slot n _ hx
    obtain rfl:a=a':=Xm (h1.symm.trans h2)
    refine fin o h3 ?_
    refine(?_:Exists _)
    exact⟨a,es,n',kys,rfl,by rw [Zc,h4],h5,VRk_p.mp (h6.mono (upd_le (rel.offz n a h1)) hlow)⟩
theorem zip_nodup : ∀ (l:List Str) (xs:List Value),l.Nodup→((l.zip xs).map (·.1)).Nodup
 | [],_,_=>by simp
 |_::_,[],_=>by simp
 |a::l,x::xs,h=>by
  rw [List.nodup_cons] at h
  simp only [List.zip_cons_cons,Xb,List.nodup_cons]
  refine⟨fun q=>?_,zip_nodup l xs h.2⟩
  refine byC fun hG=>?_
  obtain⟨p,hp,e⟩:=List.mem_map.mp q
  obtain⟨b,y⟩:=p
  injection e
  refine hG ?_
  clear hG
  exact h.1 (List.of_mem_zip hp).1
theorem FnSim_def{W:Wd}{f:Addr}{n B T k:Nat}{name qual:Str}{params:Arguments}{body:List Stmt}{scope:Scope}{dV kV doc pm cdv ct oc:Value}{an od:Option Addr}{osl:Array (Option Value)}
  (ho:W.K.lookup f=some ⟨oc,od,.func (fnOf name qual params body scope dV kV doc pm an cdv ct),osl⟩) (hcd:codeIn W.K cdv qual=true) (hok:fnOk scope n=true)
  (hbind : ∀ (s:Shared) (xs:List Value),xs.length=n→W.K.In s.heap→BindsTo s (fnOf name qual params body scope dV kV doc pm an cdv ct) ⟨xs,[]⟩ ((scope.names.map (·.1)).zip xs))
  {mb:M Fl} (hbody : ∀ A L mid,SimF (fnCx W A f qual scope cdv L k B T mid) (execs body (envOfC qual scope L f cdv)) mb) (hB:100≤B:=by decide) (hT:B≤T:=by decide):FnSim W (.ref f) B (k+1) (runF B n mb):=by
 intro A h₀ ζ ρ σ s args xs P E room S hσ ha v σ' e kk
 simp only [fnOk,W4,beq_iff_eq,decide_eq_true_eq,Bool.not_eq_true',List.all_eq_true,Bool.or_eq_true] at hok
 refine byC fun hG=>?_
 obtain⟨⟨⟨⟨⟨ok1,ok2⟩,ok3⟩,ok4⟩,ok5⟩,ok6⟩:=hok
 refine hG ?_
 clear hG
 unfold runF at e
 refine byC fun hG=>?_
 obtain⟨hlen,e⟩:=io e
 obtain⟨⟨fl,st'⟩,hm,e⟩:=ob e
 obtain⟨v0,hv0,e⟩:=ob e
 obtain⟨v',hv',e⟩:=ob e
 injection e
 refine hG ?_
 clear hG
 have hxl:xs.length=n:=ha.length.trans hlen
 have hd:=room.depth
 refine codeAny_call_function (by exact ar9 hd) (S.ok.1 _ _ ho) rfl ok2 ok3 rfl (codeRec_of S.ok.1 hcd) (hbind s xs hxl S.ok.1 _ _ _ _ ?_)
 have hbk : ∀ x∈(scope.names.map (·.1)).zip xs,∃ (i:Nat) (kd:NameKind),scope.names[i]?=some (x.1,kd)∧xs[i]?=some x.2∧(kd = .local∨kd = .cell)∧scope.names.lookup x.1=some kd:=by
  intro x hx
  obtain⟨i,hi,e⟩:=List.mem_iff_getElem.mp hx
  have hi1:i<scope.names.length:=by simp at hi;exact ar10 ok5 hlen hxl hi
  have hi2:i<xs.length:=by simp at hi;exact ar11 ok5 hlen hxl hi1 hi
  rw [List.getElem_zip] at e
  refine⟨i,scope.names[i].2,?_,?_,?_,?_⟩
  ·rw [X3 hi1,←e];simp
  ·rw [X3 hi2,←e]
  ·refine ok6 _ ?_
   rw [List.mem_iff_getElem]
   exact⟨i,by simp;exact ar12 ok5 hlen hxl hi2,by simp⟩
  ·refine lookup_of_mem ok4 ?_
   rw [List.mem_iff_getElem]
   exact⟨i,hi1,by rw [←e];simp⟩
 have hnd:(((scope.names.map (·.1)).zip xs).map (·.1)).Nodup:=zip_nodup _ _ ok4
 refine wpAny_newFunctionEnv_cells ok1 (fun x hx=>?_) fun env' he s' x=>?_
 ·obtain⟨i,kd,_,_,hk,hl⟩:=hbk x hx
  rcases hk with rfl|rfl
  ·exact .inl hl
  ·refine .inr ⟨hl,cellsFrom_has _ _ _ _ (.inl (mem_of_lookup' hl))⟩
 ·subst he
  refine⟨(S.ok.2.nolimit).keeps x.toInCall.keep,codeAny_func ?_⟩
  refine byC fun hG=>?_
  obtain⟨h₁,tk,rfl,_⟩:=x.done
  refine hG ?_
  clear hG
  have keep:Le s.heap.get? h₁.get?:=fun b o e=>x.toInCall.keep b o e
  have fresh : ∀ b,s.heap.objs.size≤b→s.heap.get? b=none:=fun b hb=>by
   cases q:s.heap.get? b with
   |none=>rfl
   |some o=>exact absurd (Xv q) (Nat.not_lt.mpr hb)
  have hplnew : ∀ i pl,plOf scope.names s.heap.objs.size (cellsFrom (s.heap.objs.size+1) scope.names []) i=some pl→s.heap.objs.size≤pl.addr:=by
   intro i pl e
   rcases plOf_some e with⟨_,_,rfl⟩|⟨_,c,_,hc,rfl⟩
   ·exact Yy _
   ·exact Yw (x.above _ _ (mem_of_lookup' hc))
  have offnew : ∀ b,s.heap.get? b=none→ζ b=none∧h₀ b=none∧∀ n,ρ n≠some b:=by
   intro b hb
   refine⟨?_,?_,?_⟩
   ·cases q:ζ b with
    |none=>rfl
    |some o=>rw [S.frozen b o q] at hb;injection hb
   ·cases q:h₀ b with
    |none=>rfl
    |some o=>rw [S.kept b o q] at hb;injection hb
   ·intro m q
    cases q':σ m with
    |none=>rw [S.dom m q'] at q;injection q
    |some O =>
     refine byC fun hG=>?_
     obtain⟨c,o,h1,h2,_⟩:=S.slot m O q'
     refine hG ?_
     clear hG
     rw [q] at h1;injection h1;rw [hb] at h2;injection h2
  have S':SRel W h₀ ζ ρ σ h₁:=S.off (fun _=>False) (fun b o _ e=>keep b o e) (fun _ x=>x.elim)
  have rel:Rel (fnCx W A f qual scope cdv s.heap.objs.size k B T (fun n=>σ n≠none)) h₀ ζ ρ ⟨fun i=>args[i]?,σ⟩ h₁:=by
   refine⟨S',fun m hm=>hσ m (Ys hT hm),fun m _ _ q=>q,fun i u e=>?_,fun i pl e=>?_,fun i pl e=>offnew _ (fresh _ (hplnew i pl e)),fun i j pl e e'=>?_⟩
   ·obtain⟨y,hy,hr⟩:=ha.get i u e
    have hi:i<xs.length:=(X5.mp hy).1
    have hi1:i<scope.names.length:=by exact ar13 ok5 hlen hxl hi
    have hmem:(scope.names[i].1,y)∈(scope.names.map (·.1)).zip xs:=by
     rw [List.mem_iff_getElem]
     refine⟨i,by simp;exact ar14 ok5 hlen hxl hi,?_⟩
     rw [List.getElem_zip]
     rw [X3 hi] at hy
     simp only [List.getElem_map,Xm hy]
    have hkd:scope.names[i].2 = .local∨scope.names[i].2 = .cell:=ok6 _ (by rw [List.mem_iff_getElem];exact⟨i,by simp;exact ar12 ok5 hlen hxl hi,by simp⟩)
    have hlk:scope.names.lookup scope.names[i].1=some scope.names[i].2:=lookup_of_mem ok4 (List.getElem_mem hi1)
    rcases hkd with hkd|hkd
    ·refine⟨.loc s.heap.objs.size scope.names[i].1,y,?_,⟨_,x.toInCall.ns,bindL_on _ _ _ _ _ hnd hmem (by rw [←hkd];exact hlk)⟩,hr⟩
     show plOf _ _ _ i=_
     unfold plOf
     rw [X3 hi1]
     exact if_pos hkd
    ·have hsome:=cellsFrom_has scope.names (s.heap.objs.size+1) [] scope.names[i].1 (.inl (by
      have:=List.getElem_mem hi1
      rw [←hkd];exact this))
     obtain⟨c,hc⟩:=Option.isSome_iff_exists.mp hsome
     refine⟨.cell c,y,?_,?_,hr⟩
     ·show plOf _ _ _ i=_
      unfold plOf
      rw [X3 hi1]
      exact(if_neg (by rw [hkd];exact fun q=>NameKind.noConfusion q)).trans ((if_pos hkd).trans (by rw [hc];rfl))
     ·have:=x.cell _ c hc
      rw [bindC_on _ _ _ _ _ hnd hmem (by show scope.names.lookup _≠_;rw [hlk,hkd];exact fun q=>NameKind.noConfusion (Xm q))] at this
      exact this
   ·show pl.ok h₁
    rcases plOf_some e with⟨_,_,rfl⟩|⟨_,c,_,hc,rfl⟩
    ·exact⟨_,x.toInCall.ns⟩
    ·exact⟨_,x.cell _ c hc⟩
   ·show i=j
    have inj : ∀ (i j:Nat) (a b:Str×NameKind),scope.names[i]?=some a→scope.names[j]?=some b→a.1=b.1→i=j:=by
     intro i j a b h1 h2 h3
     obtain⟨l1,g1⟩:=X5.mp h1
     obtain⟨l2,g2⟩:=X5.mp h2
     have l1':i<(scope.names.map (·.1)).length:=by simpa using l1
     have l2':j<(scope.names.map (·.1)).length:=by simpa using l2
     refine(List.getElem?_inj l1' ok4).mp ?_
     rw [X3 l1',X3 l2']
     simp only [List.getElem_map,g1,g2,h3]
    rcases plOf_some e with⟨y,hy,rfl⟩|⟨y,c,hy,hc,rfl⟩<;>rcases plOf_some e' with⟨z,hz,q⟩|⟨z,c',hz,hc',q⟩
    ·exact inj i j _ _ hy hz (Place.loc.inj q).2
    ·injection q
    ·injection q
    ·injection q with q
     subst q
     exact inj i j _ _ hy hz (name_of_addr x.apart (mem_of_lookup' hc) (mem_of_lookup' hc'))
  have okC:(fnCx W A f qual scope cdv s.heap.objs.size k B T (fun n=>σ n≠none)).Ok:=⟨⟨by show A.depth+1+k<_;exact ar15 hd,by have:=room.units;show A.units+3+8*k+100<_;exact ar16 this,room.handled⟩,ok1,rfl,rfl,hT,hB⟩
  refine hbody A s.heap.objs.size (fun n=>σ n≠none) h₀ ζ ρ _ _ _ _ okC rel fl st' hm fun ζ1 ρ1 h1 tk1 b G1 rel1 r1=>?_
  have hback : ∃ y,(b = .ret y∨(b = .next∧y = .none))∧VR W ζ1 ρ1 v0 y:=by
   cases fl with
   |next=>injection hv0;injection r1;exact⟨.none,.inr ⟨rfl,rfl⟩,rfl⟩
   |brk=>injection hv0
   |cont=>injection hv0
   |ret u=>injection hv0;obtain⟨y,rfl,hy⟩:=r1;exact⟨y,.inl rfl,hy⟩
  refine byC fun hG=>?_
  obtain⟨y,hy,hyr⟩:=hback
  obtain⟨ζ2,ρ2,z1,z2,z3,z4,z5,z6⟩:=leave_rel rel1 hB hv' hyr
  refine hG ?_
  clear hG
  have dm0 : ∀ a,s.heap.get? a≠none→h₁.get? a≠none:=fun a q=>by
   cases q':s.heap.get? a with
   |none=>exact absurd q' q
   |some o=>rw [keep a o q'];exact Xk _
  have fin:=kk ζ2 ρ2 h1 tk1 y ⟨G1.zl.trans z1,fun m a hm q=>z2 m a hm (G1.rl m a hm q),fun a o q=>?_,fun m a q=>?_,fun a q=>G1.dm a (dm0 a q)⟩ z5 (fun m hm q=>Xr fun q'=>?_) z6
  ·rcases hy with rfl|⟨rfl,rfl⟩<;>exact fin
  ·have dn : ∀ a,h₁.get? a=none→s.heap.get? a=none:=fun a q=>Xr fun q'=>dm0 a q' q
   rcases z3 a o q with q|⟨m,hm,q⟩
   ·exact(G1.zn a o q).imp id (dn a)
   ·rcases G1.rn m a q with q|q
    ·have:=S.dom m (hσ m hm);rw [this] at q;injection q
    ·exact .inr (dn a q)
  ·exact(G1.rn m a (z4 m a q)).imp id fun q=>Xr fun q'=>dm0 a q' q
  ·unfold cut at q'
   split at q'
   ·rename_i hlt;exact rel1.mid m hm hlt q' q
   ·exact q' rfl
end Lay
namespace Lay
variable{C:Cx}
noncomputable abbrev SimC(C:Cx)(f:Value)(g:List V→M V):Prop:=SimK C C.T (VRa C.W) (fun xs=>call f xs) g (VR C.W)
noncomputable def callM(fm:FM)(vs:List V):M V:=fun st=>(fm vs st.hp).bind fun r=>some (r.1,{st with hp:=r.2})
open Classical in
noncomputable def offSlots(ρ:RM)(h:Heap):HM:=fun a=>if ∃ n,ρ n=some a then none else h.get? a
theorem fn_code{f:Value}{B k:Nat}{fm:FM}(hf:FnSim C.W f B k fm)(hB:C.T≤B){A':Around}(room:Room A' k){h₀ ζ:HM}{ρ:RM}{st:St}{s:Shared}{P:Value→Shared→Prop}{E:Value→Shared→Prop}{vs:List V}{xs:List Value}(ok:C.Ok)(rel:Rel C h₀ ζ ρ st s.heap)
  (ra:VRa C.W ζ ρ vs xs) {v:V} {st':St} (e:callM fm vs st=some (v,st'))
  (kk : ∀ ζ' ρ' h' tk' b',Gr C.T s.heap ζ ρ h' ζ' ρ'→Rel C h₀ ζ' ρ' st' h'→VR C.W ζ' ρ' v b'→P b' {s with heap:=h',toks:=tk'}):codeAny (model C.W.prog C.W.w) A' (.call f ⟨xs,[]⟩) (callPost P E) s:=by
 refine byC fun hG=>?_
 obtain⟨⟨v',σ'⟩,e',e⟩:=ob e
 injection e
 refine hG ?_
 clear hG
 have le:Le h₀ (offSlots ρ s.heap):=fun a o q=>by
  unfold offSlots
  rw [if_neg (fun⟨n,hn⟩=>by rw [rel.offk n a hn] at q;injection q)]
  exact rel.kept a o q
 have S:SRel C.W (offSlots ρ s.heap) ζ ρ st.hp s.heap:=⟨rel.ok,fun a o q=>by unfold offSlots at q;split at q<;>first|cases q|exact q,rel.frozen,rel.fcls,rel.slot,rel.dom,rel.inj,rel.offz,
  fun n a q=>by unfold offSlots;rw [if_pos ⟨n,q⟩],fun h' q=>rel.good h' (le.trans q),rel.sysr,rel.sysz⟩
 refine hf A' (offSlots ρ s.heap) ζ ρ st.hp s vs xs P E room S (fun n hn=>rel.fresh n (Ys hB hn)) ra v σ' e' fun ζ' ρ' h' tk' x G S' hσ hx=>?_
 have hrd : ∀ n a,ρ n=some a→ρ' n=some a:=fun n a q=>G.rl n a (Yq (rel.rdom q) hB) q
 have hpl : ∀ i pl,C.pl i=some pl→∀ o,s.heap.get? pl.addr=some o→h'.get? pl.addr=some o:=fun i pl q o q' =>
  S'.kept _ _ (by unfold offSlots;rw [if_neg (fun⟨n,hn⟩=>(rel.ploff i pl q).2.2 n hn)];exact q')
 refine kk ζ' ρ' h' tk' x ⟨G.zl,fun n a _ q=>hrd n a q,G.zn,G.rn,G.dm⟩ ?_ hx
 refine⟨⟨S'.ok,fun a o q=>S'.kept a o (le a o q),S'.frozen,S'.fcls,S'.slot,S'.dom,S'.inj,S'.offz,fun n a q=>?_,rel.good,S'.sysr,S'.sysz⟩,fun n hn=>?_,fun n h1 h2 h3=>?_,fun i v q=>?_,fun i pl q=>(rel.plok i pl q).ok_keeps (hpl i pl q),fun i pl q=>?_,rel.plinj⟩
 ·rcases G.rn n a q with q'|q'
  ·exact rel.offk n a q'
  ·cases q2:h₀ a with
   |none=>rfl
   |some o=>rw [rel.kept a o q2] at q';injection q'
 ·have h100:100≤n:=Ys ok.b100 (Ys ok.bt hn)
  exact hσ n h100 (rel.fresh n hn)
 ·exact rel.mid n h1 h2 fun q=>h3 (hσ n h1 q)
 ·obtain⟨pl,y,h1,h2,h3⟩:=rel.var i v q
  exact⟨pl,y,h1,h2.has_keeps (hpl i pl h1),h3.mono G.zl hrd⟩
 ·obtain⟨q1,q2,q3⟩:=rel.ploff i pl q
  have hex:=(rel.plok i pl q).ok_some
  refine⟨?_,q2,fun n q'=>?_⟩
  ·cases e1:ζ' pl.addr with
   |none=>rfl
   |some o =>
    rcases G.zn _ _ e1 with e2|e2
    ·rw [q1] at e2;injection e2
    ·exact absurd e2 hex
  ·rcases G.rn _ _ q' with e2|e2
   ·exact q3 n e2
   ·exact absurd e2 hex
theorem SimC_fn{f:Value}{B k:Nat}{fm:FM}(hf:FnSim C.W f B k fm)(hB:C.T≤B)(hk:k≤C.k):SimC C f (callM fm):=by
 intro h₀ ζ ρ st s P E vs xs ok rel ra v st' e kk
 exact wpAny_call (codeAny_mono (fn_code hf hB ⟨by have:=ok.room.depth;exact ar17 hk this,by have:=ok.room.units;exact ar18 hk this,ok.room.handled⟩ ok rel ra e kk) fun r s' z=>z)
noncomputable def CallOk(W:Wd)(f:Value):Prop := ∀ (A:Around) (pos:Pos) (first:List Value) (trees:List (Bool×Sem Value)) (s:Shared) (P:Value→Shared→Prop) (E:Value→Shared→Prop),trees.any (·.1)=false→
 wpAny (model W.prog W.w) A (evalArgs f true trees []) (fun a s₁=>W.Ok s₁.heap∧wpAny (model W.prog W.w) A (call f (first++a.pos) a.kw) P E s₁) E s→wpAny (model W.prog W.w) A (callWith pos f first trees []) P E s
theorem CallOk.K{W:Wd}{f:Value}(hk:keepIn W.K f=true):CallOk W f:=fun A pos first trees s P E ht h =>
 callWith_of (P:=W.K.In) (by simp [ht]) (keeps_K hk) (wpAny_mono h (fun a s₁ h₁=>⟨h₁.1.1,h₁.2⟩) fun _ _ x=>x)
theorem CallOk.builtin{W:Wd}{id:String}:CallOk W (.builtin id):=fun A pos first trees s P E ht h =>
 Calls.callWith_builtin ht (wpAny_mono h (fun a s₁ h₁=>h₁.2) fun _ _ x=>x)
theorem CallOk.type{W:Wd}{id:String}:CallOk W (.type id):=fun A pos first trees s P E ht h =>
 PyProof.Rows.callWith_type ht (wpAny_mono h (fun a s₁ h₁=>h₁.2) fun _ _ x=>x)
theorem evalArgs_any{M:Model}{A:Around}{E:Value→Shared→Prop}{s:Shared}{f:Value}{trees:List (Bool×Sem Value)}{Q:Args→Shared→Prop}(ht:trees = []∨∃ x r,trees=(false,x)::r)
  (h:wpAny M A (spliced trees) (fun vs s'=>Q ⟨vs,[]⟩ s') E s):wpAny M A (evalArgs f true trees []) Q E s:=by
 rcases ht with rfl|⟨x,r,rfl⟩
 ·unfold evalArgs
  show wpAny M A (spliced []>>=_) Q E s
  refine Xy (wpAny_mono h (fun vs s' h'=>?_) fun _ _ x=>x)
  refine Xy (Xz ?_)
  refine W1 ?_
  exact Xy (Xz (Xy (Xz (Xz h'))))
 ·exact Calls.evalArgs_plain h
noncomputable def TreesOk(trees:List (Bool×Sem Value)):Prop:=trees.any (·.1)=false∧(trees = []∨∃ x r,trees=(false,x)::r)
theorem TreesOk.nil:TreesOk []:=⟨rfl,.inl rfl⟩
theorem TreesOk.cons{x:Sem Value}{r:List (Bool×Sem Value)}(h:TreesOk r):TreesOk ((false,x)::r):=⟨by simpa using h.1,.inr ⟨x,r,rfl⟩⟩
theorem VRa.append{W:Wd}{ζ:HM}{ρ:RM} : ∀ {v v':List V} {x x':List Value},VRa W ζ ρ v x→VRa W ζ ρ v' x'→VRa W ζ ρ (v++v') (x++x')
 | [],_,_,_,h,h'=>by change _=_ at h;subst h;exact h'
 |a::r,_,_,_,hH,h'=>by obtain⟨y,r',e,h1,h2⟩:=hH;subst e;exact⟨y,_,rfl,h1,h2.append h'⟩
theorem Sim_callWith{f:Value}{pos:Pos}{trees:List (Bool×Sem Value)}{ma:M (List V)}{g:List V→M V}(hok:CallOk C.W f)(ht:TreesOk trees)(hargs:SimEs C (spliced trees) ma)(hc:SimC C f g) :
  SimK C C.T (VRa C.W) (fun first=>callWith pos f first trees []) (fun fv=>do let vs←ma;g (fv++vs)) (VR C.W):=by
 intro h₀ ζ ρ st s P E fv first ok rel rf v st' e kk
 refine byC fun hG=>?_
 obtain⟨vs,s1,e1,e2⟩:=W6 e
 refine hG ?_
 clear hG
 refine hok _ _ _ _ _ _ _ ht.1 (evalArgs_any ht.2 (hargs h₀ ζ ρ st s _ E ok rel vs s1 e1 fun ζ1 ρ1 h1 tk1 ys G1 rel1 r1=>⟨rel1.ok,?_⟩))
 exact hc h₀ ζ1 ρ1 s1 _ P E _ _ ok rel1 ((rf.gr rel G1).append r1) v st' e2 fun ζ2 ρ2 h2 tk2 y G2 rel2 r2=>kk ζ2 ρ2 h2 tk2 y (G1.trans G2) rel2 r2
theorem Yb{x:Str}{p pos:Pos}{args:List PySem.Expr}{f:Value}{ma:M (List V)}{g:List V→M V}(hf:SimE C (eval (.Name x p) C.env) (pure (.val f)))(hok:CallOk C.W f)
  (hargs:SimEs C (spliced (backTo pos (starEach args C.env))) ma) (ht:TreesOk (backTo pos (starEach args C.env))) (hc:SimC C f g) :
  SimE C (eval (.Call (.Name x p) args [] pos) C.env) (do let vs←ma;g vs):=by
 intro h₀ ζ ρ st s P E ok rel v st' e kk
 refine wpAny_Call_NameR (hf h₀ ζ ρ st s _ E ok rel _ _ rfl fun ζ1 ρ1 h1 tk1 y G1 rel1 r1=>?_)
 change _=_ at r1
 subst r1
 exact Sim_callWith hok ht hargs hc h₀ ζ1 ρ1 st _ P E [] [] ok rel1 rfl v st' (by simpa using e) fun ζ2 ρ2 h2 tk2 y G2 rel2 r2=>kk ζ2 ρ2 h2 tk2 y (G1.trans G2) rel2 r2
noncomputable def MethAt(C:Cx)(name:Str)(f:Value)(ok:V→St→Prop):Prop :=
 ∀ (h₀ ζ:HM) (ρ:RM) (st:St) (s:Shared) (pl:Sem Bool) (P:Value×List Value→Shared→Prop) (E:Value→Shared→Prop) (v:V) (x:Value),C.Ok→Rel C h₀ ζ ρ st s.heap→VR C.W ζ ρ v x→ok v st→
  P (f,[x]) s→wpAny (model C.W.prog C.W.w) C.A (getMethod x name pl) P E s
open Classical in
theorem Yn{o:PySem.Expr}{name:Str}{apos pos:Pos}{args:List PySem.Expr}{mo:M V}{ma:M (List V)}{f:Value}{g:List V→M V}{okp:V→St→Bool}(pl:Sem Bool)
  (ho:SimE C (eval o C.env) mo) (hargs:SimEs C (spliced (backTo pos (starEach args C.env))) ma) (ht:TreesOk (backTo pos (starEach args C.env))) (hm:MethAt C name f (fun v s=>okp v s=true)) (hok:CallOk C.W f) (hc:SimC C f g)
  (he:eval (.Call (.Attribute o name apos) args [] pos) C.env=(do
   let ov←eval o C.env
   standAt apos.atName
   let (f,first)←holding [ov] (getMethod ov name pl)
   callWith pos f first (backTo pos (starEach args C.env)) []):=by rfl) :
  SimE C (eval (.Call (.Attribute o name apos) args [] pos) C.env) (do let v←mo;(fun s=>M.guard (okp v s) s);let vs←ma;g (v::vs)):=by
 intro h₀ ζ ρ st s P E ok rel v st' e kk
 refine byC fun hG=>?_
 obtain⟨u,s1,e1,e2⟩:=W6 e
 obtain⟨_,s2,e3,e4⟩:=W6 e2
 obtain⟨hg,hs⟩:=W7 e3
 injection hs
 refine hG ?_
 clear hG
 rw [he]
 refine Xy (ho h₀ ζ ρ st s _ E ok rel u _ e1 fun ζ1 ρ1 h1 tk1 y G1 rel1 r1=>Xy (wpAny_standAt (Xy (W1 ?_))))
 refine hm h₀ ζ1 ρ1 s1 _ pl _ E u y ok rel1 r1 hg ?_
 exact Sim_callWith hok ht hargs hc h₀ ζ1 ρ1 s1 _ P E [u] [y] ok rel1 ⟨y,[],rfl,r1,rfl⟩ v st' e4 fun ζ2 ρ2 h2 tk2 z G2 rel2 r2=>kk ζ2 ρ2 h2 tk2 z (G1.trans G2) rel2 r2
noncomputable def inst2(p:Addr×Nat):O:=O.inst p.1 p.2
noncomputable def instOf(v:V)(s:St):Option (Addr×List (Str×V)):=(un V.ref v).bind fun n=>((s.hp n).bind (un inst2)).bind fun p=>((s.hp p.2).bind (un O.attrs)).bind fun kvs=>some (p.1,kvs)
inductive InstOf(v:V)(st:St)(Cl:Addr)(kvs:List (Str×V)):Prop
 |mk (a d:Nat) (hv:v = .ref a) (q1:st.hp a=some (.inst Cl d)) (q2:st.hp d=some (.attrs kvs))
theorem instOf_some{v:V}{st:St}{Cl:Addr}{kvs:List (Str×V)}(e:instOf v st=some (Cl,kvs)):InstOf v st Cl kvs:=by
 refine byC fun hG=>?_
 obtain⟨n,h1,e⟩:=ob e
 obtain⟨p,h2,e⟩:=ob e
 obtain⟨kvs',h3,e⟩:=ob e
 obtain⟨o,h2,k2⟩:=ob h2
 obtain⟨o',h3,k3⟩:=ob h3
 injection e with e
 obtain⟨e1,e2⟩:=Prod.mk.inj e
 exact hG ⟨n,p.2,Zk h1,by rw [h2,Zk (f:=inst2) k2,←e1];rfl,by rw [h3,Zk k3,←e2]⟩
theorem un_inst{c:Addr}{d:Nat}:un inst2 (.inst c d)=some (c,d):=un_self (f:=inst2) (a:=(c,d)) fun _ _ e=>Prod.ext (O.inst.inj e).1 (O.inst.inj e).2
theorem un_attrs{kvs:List (Str×V)}:un O.attrs (.attrs kvs)=some kvs:=un_self fun _ _ e=>O.attrs.inj e
theorem instOf_self{a d:Nat}{st:St}{Cl:Addr}{kvs:List (Str×V)}(q1:st.hp a=some (.inst Cl d))(q2:st.hp d=some (.attrs kvs)):instOf (.ref a) st=some (Cl,kvs):=by
 unfold instOf
 rw [un_ref]
 show ((st.hp a).bind _).bind _=_
 rw [q1]
 show (un inst2 _).bind _=_
 rw [un_inst]
 show ((st.hp d).bind _).bind _=_
 rw [q2]
 show (un _ _).bind _=_
 rw [un_attrs];rfl
inductive InstIs(C:Cx)(ζ:HM)(ρ:RM)(st:St)(h:Heap)(v:V)(x:Value)(Cl:Addr)(kvs:List (Str×V)):Prop
 |mk (a d:Nat) (dx:Addr) (es:Array DictEntry) (n:Nat) (od:Obj) (hv:v = .ref a) (q1:st.hp a=some (.inst Cl d)) (q2:st.hp d=some (.attrs kvs)) (h1:ρ d=some dx) (h2:h.get? dx=some od) (hd:od.data = .dict es n) (h3:AttrsAre C.W ζ ρ kvs es)
   (ax:Addr) (h4:ρ a=some ax) (hx:x = .ref ax) (hi:InstAt h ax ⟨.ref Cl,some dx,.plain,#[]⟩ Cl (some od))
theorem inst_at{h₀ ζ:HM}{ρ:RM}{st:St}{h:Heap}(rel:Rel C h₀ ζ ρ st h){v:V}{x:Value}{Cl:Addr}{kvs:List (Str×V)}(e:instOf v st=some (Cl,kvs))(r:VR C.W ζ ρ v x):InstIs C ζ ρ st h v x Cl kvs:=by
 refine byC fun hG=>?_
 obtain⟨a,d,rfl,q1,q2⟩:=instOf_some e
 obtain⟨dx,o,h1,h2,es,n,hdat,h3⟩:=rel.slot d _ q2
 obtain⟨ax,o',h4,h5,_,dx',h6,rfl⟩:=rel.slot a _ q1
 refine hG ?_
 clear hG
 rw [h1] at h6;injection h6
 refine byC fun hG=>?_
 obtain⟨ax',h7,rfl⟩:=r
 refine hG ?_
 clear hG
 rw [h4] at h7;injection h7
 exact⟨a,d,dx,es,n,o,rfl,q1,q2,h1,h2,hdat,h3,ax,h4,rfl,h5,rfl,rfl,h2⟩
theorem look_attr{W:Wd}{ζ:HM}{ρ:RM}{kvs:List (Str×V)}{es:Array DictEntry}{n:Nat}{od:Obj}(hd:od.data = .dict es n)(h:AttrsAre W ζ ρ kvs es)(x:Str):lookIn x od=some (nsFind es x):=by
 unfold lookIn nsFind findBy
 rw [hd]
 dsimp only
 cases q:es.toList.find? (·.key.isStr x) with
 |some en=>rw [←Array.find?_toList];simp only [q,Option.map_some]
 |none =>
  have hr:es.toList.any (·.refKey)=false:=by
   rw [List.any_eq_false]
   intro e he
   obtain⟨nm,t,hk⟩:=h.1 e (Array.mem_toList_iff.mp he)
   simp [DictEntry.refKey,hk]
  rw [←Array.find?_toList,hr];simp [q]
theorem MethAt.inst{Cl:Addr}{name:Str}{f:Addr}(hg:plainGet C.W.K Cl name=true)(hf:findIn C.W.K (.ref Cl) name=some (some (.ref f)))(ht:isFn C.W.K (.ref f)=true) :
  MethAt C name (.ref f) (fun v s=>((instOf v s).any fun p=>decide (p.1=Cl)&&(kvGet p.2 name).isNone)=true):=by
 intro h₀ ζ ρ st s pl P E v x ok rel r hv k
 refine byC fun hG=>?_
 obtain⟨⟨c,kvs⟩,q,hv⟩:=(Option.any_eq_true _ _).mp hv
 simp only [W4,decide_eq_true_eq] at hv
 obtain⟨rfl,hn⟩:=hv
 obtain⟨a,d,dx,es,n,od,rfl,_,_,_,_,hdat,ha,ax,_,rfl,I⟩:=inst_at rel q r
 refine hG ?_
 clear hG
 refine method_fn rel.ok.1 I (plainGet_of hg).1 (plainGet_of hg).2 hf (beq_iff_eq.mp ht) ?_ k
 have h2:=ha.2.2 name
 have hl:=look_attr hdat ha name
 cases q2:kvGet kvs name with
 |some u=>rw [q2] at hn;injection hn
 |none =>
  rw [q2] at h2
  dsimp only at h2
  rw [h2] at hl
  show (lookIn name od).map _=_
  rw [hl];rfl
noncomputable def AttrOk(W:Wd)(Cl:Addr)(name:Str):Prop:=plainGet W.K Cl name=true∧hasDictIn W.K Cl=true∧∃ attr,findIn W.K (.ref Cl) name=some attr∧noGet W.K attr=true
noncomputable def getAC(Cl:Addr)(name:Str)(v:V):M V:=fun s=>(instOf v s).bind fun p=>if p.1=Cl then (kvGet p.2 name).bind fun u=>if u.isVal=true then none else some (u,s) else none
theorem handed_of{W:Wd}{ζ:HM}{ρ:RM}{v:V}{x:Value}(r:VR W ζ ρ v x)(h : ¬ v.isVal=true):handedIn x=true:=by
 cases v with
 |none=>change _=_ at r;subst r;rfl
 |bool b=>change _=_ at r;subst r;rfl
 |int b=>obtain⟨_,rfl⟩:=r;rfl
 |str b=>obtain⟨_,rfl⟩:=r;rfl
 |tup b=>obtain⟨_,_,_,rfl,_⟩:=r;rfl
 |lst b=>obtain⟨_,_,_,rfl,_⟩:=r;rfl
 |dct b=>obtain⟨_,_,_,_,rfl,_⟩:=r;rfl
 |ref b=>obtain⟨_,_,rfl⟩:=r;rfl
 |rng _ _ _=>obtain⟨_,_,_,_,rfl,_⟩:=r;rfl
 |val y=>exact absurd rfl h
theorem getAC_K{Cl:Addr}{name:Str}{expr:Bool}(ha:AttrOk C.W Cl name):SimK1 C (fun x=>getAttr x name expr) (getAC Cl name):=by
 intro h₀ ζ ρ st s P E v x ok rel r u st' e k
 refine byC fun hG=>?_
 obtain⟨⟨c,kvs⟩,q,e⟩:=ob e
 obtain⟨hc,e⟩:=io e
 obtain⟨w,hw,e⟩:=ob e
 by_cases hne:w.isVal=true
 ·rw [if_pos hne] at e;injection e
 ·rw [if_neg hne] at e
  injection e
  subst hc
  obtain⟨a,d,dx,es,n,od,rfl,_,_,_,_,hdat,hat,ax,_,rfl,I⟩:=inst_at rel q r
  obtain⟨h1,h2,attr,h3,h4⟩:=ha
  have h5:=hat.2.2 name
  rw [hw] at h5
  obtain⟨_,y,h6,h7⟩:=h5
  have hl:=look_attr hdat hat name
  rw [h6] at hl
  exact hG (get_value rel.ok.1 I (plainGet_of h1).1 (findObj_own h2 h3 h4 hl) (handed_of h7 hne) (k ζ ρ s.heap _ y (Gr.refl _ _ _ _) rel h7))
theorem Zn{Cl:Addr}{n attr:Str}{np pos:Pos}{m:M V}(ha:AttrOk C.W Cl attr)(h:SimE C (eval (.Name n np) C.env) m):SimE C (eval (.Attribute (.Name n np) attr pos) C.env) (m>>=getAC Cl attr) :=
 Sim.step (fun h=>Attribute_name h) h (getAC_K ha) fun _=>Yy _
end Lay
namespace Lay
variable{C:Cx}
noncomputable def lView(v:V)(s:St):Option (List V):=(un V.lst v).or (((un V.ref v).bind s.hp).bind (un O.list))
inductive SlotIs{α:Type}(mk:α→O)(v:V)(s:St)(a:α):Prop
 |mk (n:Nat) (hv:v = .ref n) (q:s.hp n=some (mk a))
theorem slot_some{α:Type}{mk:α→O}{v:V}{s:St}{a:α}(e:((un V.ref v).bind s.hp).bind (un mk)=some a):SlotIs mk v s a:=by
 refine byC fun hG=>?_
 obtain⟨O,e,e2⟩:=ob e
 obtain⟨n,e,q⟩:=ob e
 exact hG ⟨n,Zk e,by rw [q,Zk e2]⟩
theorem slot_self{α:Type}{mk:α→O}{n:Nat}{s:St}{a:α}(i : ∀ x y,mk x=mk y→x=y)(q:s.hp n=some (mk a)):((un V.ref (.ref n)).bind s.hp).bind (un mk)=some a:=by
 rw [un_ref]
 show (s.hp n).bind _=_
 rw [q];exact un_self i
theorem lView_obj{h₀ ζ:HM}{ρ:RM}{st:St}{h:Heap}(rel:Rel C h₀ ζ ρ st h){v:V}{x:Value}{xs:List V}(e:lView v st=some xs)(r:VR C.W ζ ρ v x) :
  ∃ a ys n,x = .ref a∧h.get? a=some ⟨.type "list",none,.seq ys n,#[]⟩∧VRs C.W ζ ρ xs ys.toList:=by
 refine byC fun hG=>?_
 rcases oro e with e|e
 ·rw [Zk e] at r
  obtain⟨a,o,ys,rfl,h1,⟨n,rfl⟩,h2⟩:=r
  exact hG ⟨a,ys,n,rfl,rel.frozen _ _ h1,h2⟩
 ·obtain⟨n,rfl,q⟩:=slot_some e
  obtain⟨a',h1',rfl⟩:=r
  obtain⟨a,o,h1,h2,ys,⟨n',rfl⟩,h4⟩:=rel.slot n _ q
  obtain rfl:a=a':=Xm (h1.symm.trans h1')
  exact hG ⟨a,ys,n',rfl,h2,h4⟩
theorem lView_at{h₀ ζ:HM}{ρ:RM}{st:St}{h:Heap}(rel:Rel C h₀ ζ ρ st h){v:V}{x:Value}{xs:List V}(e:lView v st=some xs)(r:VR C.W ζ ρ v x) :
  ∃ a ys,x = .ref a∧h.IsList a ys∧VRs C.W ζ ρ xs ys.toList:=by
 obtain⟨a,ys,n,h1,h2,h3⟩:=lView_obj rel e r
 exact⟨a,ys,h1,⟨_,h2,rfl,n,rfl⟩,h3⟩
theorem tup_at{h₀ ζ:HM}{ρ:RM}{st:St}{h:Heap}(rel:Rel C h₀ ζ ρ st h){x:Value}{xs:List V}(r:VR C.W ζ ρ (.tup xs) x) :
  ∃ a ys,x = .ref a∧IsTup h a ys∧VRs C.W ζ ρ xs ys.toList:=by
 refine byC fun hG=>?_
 obtain⟨a,o,ys,rfl,h1,⟨hc,n,hd⟩,h2⟩:=r
 refine hG ?_
 clear hG
 exact⟨a,ys,rfl,⟨o,rel.frozen _ _ h1,hc,n,hd⟩,h2⟩
noncomputable def sView(v:V)(s:St):Option (List (Str×V)):=((un V.ref v).bind s.hp).bind (un O.sdict)
theorem sView_at{h₀ ζ:HM}{ρ:RM}{st:St}{h:Heap}(rel:Rel C h₀ ζ ρ st h){v:V}{x:Value}{kvs:List (Str×V)}(e:sView v st=some kvs)(r:VR C.W ζ ρ v x) :
  ∃ n a kys,v = .ref n∧ρ n=some a∧st.hp n=some (.sdict kvs)∧x = .ref a∧(a==sysModules)=false∧h.DictOf (strKind C.W.prog C.W.w) a kys∧VRk C.W ζ ρ kvs kys:=by
 refine byC fun hG=>?_
 obtain⟨n,rfl,q⟩:=slot_some e
 obtain⟨a',h1',rfl⟩:=r
 obtain⟨a,o,h1,h2,es,n',kys,rfl,h3,h4⟩:=rel.slot n _ q
 obtain rfl:a=a':=Xm (h1.symm.trans h1')
 exact hG ⟨n,a,kys,rfl,h1,q,rfl,beq_eq_false_iff_ne.mpr fun q=>rel.sysr n (q▸h1),h3.dictOf h2,h4⟩
noncomputable def tView(v:V)(s:St):Option (List (List Int×V)):=((un V.ref v).bind s.hp).bind (un O.tdict)
theorem tView_at{h₀ ζ:HM}{ρ:RM}{st:St}{h:Heap}(rel:Rel C h₀ ζ ρ st h){v:V}{x:Value}{kvs:List (List Int×V)}(e:tView v st=some kvs)(r:VR C.W ζ ρ v x) :
  ∃ n a kys,v = .ref n∧ρ n=some a∧st.hp n=some (.tdict kvs)∧x = .ref a∧(a==sysModules)=false∧h.DictOfH (tupleKind (intKind C.W.prog C.W.w)) a kys∧TKeys C.W ζ ρ kvs kys:=by
 refine byC fun hG=>?_
 obtain⟨n,rfl,q⟩:=slot_some e
 obtain⟨a,kys,rfl,h1,h2,h3,h4⟩:=tdict_at rel q r
 exact hG ⟨n,a,kys,rfl,h1,q,rfl,h2,h3,h4⟩
theorem isStr_self(i:Str)(t:Tok){W:Wd}:(strKind W.prog W.w).is i (.str i t)=true:=by simp [PySem.strKind,Value.isStrOf]
noncomputable def seqIx(k:Int)(xs:List V)(s:St):Option (V×St):=if -(2^63)≤k∧k<2^63 then (seqIndex? k xs.length).bind fun j=>(xs[j]?).bind fun u=>some (u,s) else none
noncomputable def vItem(v i:V):M V:=fun s =>
 ((un V.int i).bind fun k=>((un V.tup v).bind fun xs=>seqIx k xs s).or (((lView v s).bind fun xs=>seqIx k xs s).or ((dView v s).bind fun kvs=>(kvGet kvs k).bind fun u=>some (u,s)))).or
 (((un V.str i).bind fun x=>(sView v s).bind fun kvs=>(kvGet kvs x).bind fun u=>some (u,s)).or
 ((un V.tup i).bind fun ks=>(tView v s).bind fun kvs=>(intsOf ks).bind fun l=>(kvGet kvs l).bind fun u=>some (u,s)))
inductive SeqIx(k:Int)(xs:List V)(s:St)(r:V×St):Prop
 |mk (hb : -(2^63)≤k∧k<2^63) (j:Nat) (hj:seqIndex? k xs.length=some j) (hu:xs[j]?=some r.1) (hs:r.2=s)
theorem seqIx_some{k:Int}{xs:List V}{s:St}{r:V×St}(e:seqIx k xs s=some r):SeqIx k xs s r:=by
 refine byC fun hG=>?_
 obtain⟨hb,e⟩:=io e
 obtain⟨j,hj,e⟩:=ob e
 obtain⟨u,hu,e⟩:=ob e
 injection e with e
 subst e
 exact hG ⟨hb,j,hj,hu,rfl⟩
inductive ItemIs(v i:V)(s:St)(r:V×St):Prop
 |tup (k:Int) (xs:List V) (hi:i = .int k) (hv:v = .tup xs) (h:SeqIx k xs s r)
 |lst (k:Int) (xs:List V) (hi:i = .int k) (hv:lView v s=some xs) (h:SeqIx k xs s r)
 |dct (k:Int) (kvs:List (Int×V)) (hi:i = .int k) (hv:dView v s=some kvs) (h:kvGet kvs k=some r.1) (hs:r.2=s)
 |str (k:Str) (kvs:List (Str×V)) (hi:i = .str k) (hv:sView v s=some kvs) (h:kvGet kvs k=some r.1) (hs:r.2=s)
 |key (ks:List V) (l:List Int) (kvs:List (List Int×V)) (hi:i = .tup ks) (hl:intsOf ks=some l) (hv:tView v s=some kvs) (h:kvGet kvs l=some r.1) (hs:r.2=s)
theorem vItem_some{v i:V}{s:St}{r:V×St}(e:vItem v i s=some r):ItemIs v i s r:=by
 refine byC fun hG=>?_
 rcases oro e with e|e
 ·obtain⟨k,hi,e⟩:=ob e
  have hi:=Zk hi
  rcases oro e with e|e
  ·obtain⟨xs,hv,e⟩:=ob e
   exact hG (.tup k xs hi (Zk hv) (seqIx_some e))
  rcases oro e with e|e
  ·obtain⟨xs,hv,e⟩:=ob e
   exact hG (.lst k xs hi hv (seqIx_some e))
  ·obtain⟨kvs,hv,e⟩:=ob e
   obtain⟨u,hu,e⟩:=ob e
   injection e with e
   subst e
   exact hG (.dct k kvs hi hv hu rfl)
 rcases oro e with e|e
 ·obtain⟨x,hi,e⟩:=ob e
  obtain⟨kvs,hv,e⟩:=ob e
  obtain⟨u,hu,e⟩:=ob e
  injection e with e
  subst e
  exact hG (.str x kvs (Zk hi) hv hu rfl)
 ·obtain⟨ks,hi,e⟩:=ob e
  obtain⟨kvs,hv,e⟩:=ob e
  obtain⟨l,hl,e⟩:=ob e
  obtain⟨u,hu,e⟩:=ob e
  injection e with e
  subst e
  exact hG (.key ks l kvs (Zk hi) hl hv hu rfl)
theorem seqIndex_some{k:Int}{n j:Nat}(h:seqIndex? k n=some j):(0≤k∧k<n∧j=k.toNat)∨(k<0∧ -(n:Int)≤k∧j=(k+n).toNat):=by
 unfold seqIndex? at h
 by_cases q:k<0
 ·simp only [q,if_true] at h
  split at h
  ·rename_i hc
   simp only [W4,decide_eq_true_eq] at hc
   injection h
   exact .inr ⟨q,by exact ar19 hc,rfl⟩
  ·injection h
 ·simp only [q,if_false] at h
  split at h
  ·rename_i hc
   simp only [W4,decide_eq_true_eq] at hc
   injection h
   exact .inl ⟨by exact ar20 q,by exact ar21 hc,rfl⟩
  ·injection h
theorem vItem_type{h₀ ζ:HM}{ρ:RM}{st:St}{s:Shared}(rel:Rel C h₀ ζ ρ st s.heap){v i:V}{x:Value}{r:V×St}(e:vItem v i st=some r)(rv:VR C.W ζ ρ v x) :
  ∃ T id,s.TypeIs x T∧typeLookup (.type T) "__getitem__" =pure (some (.builtin id)):=by
 refine byC fun hG=>?_
 cases vItem_some e with
 |tup k xs hi hv h =>
  rw [hv] at rv
  obtain⟨a,ys,rfl,⟨o,h1,h2,_⟩,_⟩:=tup_at rel rv
  exact hG ⟨"tuple",_,⟨o,h1,h2⟩,PyProof.Rows.slot_tuple_getitem.lookup⟩
 |lst k xs hi hv h =>
  obtain⟨a,ys,rfl,h1,_⟩:=lView_at rel hv rv
  exact hG ⟨"list",_,h1.typeIs,slot_list_getitem.lookup⟩
 |dct k kvs hi hv h hs =>
  obtain⟨a,kys,rfl,_,h1,_⟩:=dView_at rel hv rv
  exact hG ⟨"dict",_,h1.typeIs,slot_dict_getitem.lookup⟩
 |str k kvs hi hv h hs =>
  obtain⟨n,a,kys,rfl,_,_,rfl,_,h1,_⟩:=sView_at rel hv rv
  exact hG ⟨"dict",_,h1.typeIs,slot_dict_getitem.lookup⟩
 |key ks l kvs hi hl hv h hs =>
  obtain⟨n,a,kys,rfl,_,_,rfl,_,⟨o,_,_,h1,h2,_⟩,_⟩:=tView_at rel hv rv
  exact hG ⟨"dict",_,⟨o,h1,h2.1⟩,slot_dict_getitem.lookup⟩
theorem vItem_K:SimK2 C getItem vItem (VR C.W):=by
 intro h₀ ζ ρ st s P E a b x y ok rel ra rb v st' e k
 have hu:=ok.room.units
 refine byC fun hG=>?_
 cases vItem_some e with
 |tup kk xs hi hv h =>
  rw [hi] at rb
  rw [hv] at ra
  obtain⟨t,rfl⟩:=rb
  obtain⟨hb,j,hj,hu',hs⟩:=h
  obtain⟨a,ys,rfl,h1,h2⟩:=tup_at rel ra
  obtain⟨z,hz,_,hr⟩:=h2.get j v hu'
  have hl:ys.size=xs.length:=by rw [←h2.length];simp
  exact hG (PyProof.Rows.getItem_tuple h1 hb.1 hb.2 (by rw [hl];exact hj) (by simpa using hz) (k ζ ρ s.heap _ _ (Gr.refl _ _ _ _) ((show st'=st from hs)▸rel) hr))
 |lst kk xs hi hv h =>
  rw [hi] at rb
  obtain⟨t,rfl⟩:=rb
  obtain⟨hb,j,hj,hu',hs⟩:=h
  obtain⟨a,ys,rfl,h1,h2⟩:=lView_at rel hv ra
  obtain⟨z,hz,_,hr⟩:=h2.get j v hu'
  have hl:ys.size=xs.length:=by rw [←h2.length];simp
  have fin:=k ζ ρ s.heap s.toks z (Gr.refl _ _ _ _) ((show st'=st from hs)▸rel) hr
  rcases seqIndex_some hj with⟨q1,q2,rfl⟩|⟨q1,q2,rfl⟩
  ·exact hG (wpAny_getItem_list h1 q1 hb.2 (by simpa using hz) fin)
  ·exact hG (wpAny_getItem_list_neg h1 q1 (by rw [hl];exact q2) hb.1 (by rw [hl];simpa using hz) fin)
 |dct kk kvs hi hv h hs =>
  rw [hi] at rb
  obtain⟨t,rfl⟩:=rb
  obtain⟨a,kys,rfl,_,h1,h2⟩:=dView_at rel hv ra
  have h3:=h2.get kk
  rw [h] at h3
  obtain⟨_,z,h4,h5⟩:=h3
  exact hG (wpAny_getItem_of (isInt_self kk t) h1.mapOf h4 (k ζ ρ s.heap _ _ (Gr.refl _ _ _ _) ((show st'=st from hs)▸rel) h5))
 |str kk kvs hi hv h hs =>
  rw [hi] at rb
  obtain⟨t,rfl⟩:=rb
  obtain⟨n,a,kys,rfl,_,_,rfl,_,h1,h2⟩:=sView_at rel hv ra
  have h3:=h2.get kk
  rw [h] at h3
  obtain⟨_,z,h4,h5⟩:=h3
  exact hG (wpAny_getItem_of (isStr_self kk t) h1.mapOf h4 (k ζ ρ s.heap _ _ (Gr.refl _ _ _ _) ((show st'=st from hs)▸rel) h5))
 |key ks l kvs hi hl hv h hs =>
  rw [hi] at rb
  obtain⟨n,a,kys,rfl,_,_,rfl,_,h1,h2⟩:=tView_at rel hv ra
  obtain⟨ax,rfl,hkey,_⟩:=tup_key rel hl rb
  have h3:=h2.get l
  rw [h] at h3
  obtain⟨_,z,h4,h5⟩:=h3
  exact hG (wpAny_getItem_heap (knd:=tupleKind (intKind C.W.prog C.W.w)) (by show C.A.units+1<cLine;exact ar6 hu) hkey h1 h4 (k ζ ρ s.heap _ _ (Gr.refl _ _ _ _) ((show st'=st from hs)▸rel) h5))
theorem Za{value slice:PySem.Expr}{pos:Pos}{m1 m2:M V}(h1:SimE C (eval value C.env) m1)(h2:SimE C (eval slice C.env) m2)
  (hs : ∀ o i,subscripted slice false o i=operate [o,i] (getItem o i):=by intro _ _;with_unfolding_all rfl) :
  SimE C (eval (.Subscript value slice pos) C.env) (do let a←m1;let b←m2;vItem a b):=by
 refine Sim_two (fun h=>Subscript_ h) h1 h2 ?_
 intro h₀ ζ ρ st s P E a b x y ok rel ra rb v st' e k
 refine byC fun hG=>?_
 obtain⟨T,id,hT,hl⟩:=vItem_type rel e ra
 refine hG ?_
 clear hG
 exact tail_any hT hl (vItem_K h₀ ζ ρ st s P E a b x y ok rel ra rb v st' e k) (hs x y)
theorem dict_set{h₀ ζ:HM}{ρ:RM}{st:St}{h h':Heap}{K:Type} [DecidableEq K]{knd:KeyKind C.W.prog C.W.w K}{mk:List (K×V)→O}(hmk : ∀ kvs o,(∃ es n kys,o=dctO es n∧Ent C.W knd es kys∧VRk C.W ζ ρ kvs kys)→OR C.W ζ ρ (mk kvs) o)
  (rel:Rel C h₀ ζ ρ st h) {n:Nat} {a:Addr} (hn:ρ n=some a) {kvs:List (K×V)} {kys:List (K×Value)} (hk:VRk C.W ζ ρ kvs kys) {k:K} {v:V} {y:Value} (hl:v.low=true) (hv:VR C.W ζ ρ v y)
  (hd:h'.DictOf knd a (stored kys k y)) (hs:Xw a h h'):Rel C h₀ ζ ρ {st with hp:=upd st.hp n (some (mk (kvSet kvs k v)))} h'∧Gr C.T h ζ ρ h' ζ ρ:=by
 refine byC fun hG=>?_
 obtain⟨es,m,ho,he⟩:=Ent.back hd
 refine hG ?_
 clear hG
 exact rel.set hn hs ho (hmk _ _ ⟨es,m,_,rfl,he,hk.stored k hl hv⟩)
noncomputable def putK{K:Type} [DecidableEq K](mk:List (K×V)→O)(n:Nat)(k:K)(u:V)(s:St):Option (Unit×St) :=
 ((s.hp n).bind (un mk)).bind fun kvs=>if kvs.length<lim then some ((),{s with hp:=upd s.hp n (some (mk (kvSet kvs k u)))}) else none
noncomputable def setI(v i u:V):M Unit:=fun s=>(un V.ref v).bind fun n=>if u.low=true then
 ((un V.int i).bind fun k=>putK .idict n k u s).or (((un V.str i).bind fun k=>putK .sdict n k u s).or ((un V.tup i).bind fun ks=>(intsOf ks).bind fun l=>putK .tdict n l u s)) else none
inductive PutK{K:Type} [DecidableEq K](mk:List (K×V)→O)(n:Nat)(k:K)(u:V)(s:St)(r:Unit×St):Prop
 |mk (kvs:List (K×V)) (h:s.hp n=some (mk kvs)) (hl:kvs.length<lim) (hr:r.2={s with hp:=upd s.hp n (some (mk (kvSet kvs k u)))})
theorem putK_some{K:Type} [DecidableEq K]{mk:List (K×V)→O}{n:Nat}{k:K}{u:V}{s:St}{r:Unit×St}(e:putK mk n k u s=some r):PutK mk n k u s r:=by
 refine byC fun hG=>?_
 obtain⟨kvs,h,e⟩:=ob e
 obtain⟨hl,e⟩:=io e
 obtain⟨O,h,h2⟩:=ob h
 injection e with e
 exact hG ⟨kvs,by rw [h,Zk h2],hl,by rw [←e]⟩
theorem TKeys.any{W:Wd}{ζ:HM}{ρ:RM} : ∀ {kvs:List (List Int×V)} {kys:List (List Int×Addr×Value)},TKeys W ζ ρ kvs kys→kys.map (·.1)=kvs.map (·.1)
 | [],_,h=>by change _=_ at h;subst h;rfl
 |(k',v)::r,_,hH=>by obtain⟨a,y,r',ks,o,e,h0,ht,h1,hl,h2,h3⟩:=hH;subst e;simp [h3.any]
theorem TKeys.append{W:Wd}{ζ:HM}{ρ:RM} : ∀ {kvs kvs':List (List Int×V)} {kys kys':List (List Int×Addr×Value)},TKeys W ζ ρ kvs kys→TKeys W ζ ρ kvs' kys'→TKeys W ζ ρ (kvs++kvs') (kys++kys')
 | [],_,_,_,h,h'=>by change _=_ at h;subst h;exact h'
 |(k',v)::r,_,_,_,hH,h'=>by obtain⟨a,y,r',ks,o,e,h0,ht,h1,hl,h2,h3⟩:=hH;subst e;exact⟨a,y,_,ks,o,rfl,h0,ht,h1,hl,h2,h3.append h'⟩
theorem TKeys.mapSet{W:Wd}{ζ:HM}{ρ:RM}(k:List Int){u:V}{z:Value}(hl:u.low=true)(hu:VR W ζ ρ u z) : ∀ {kvs:List (List Int×V)} {kys:List (List Int×Addr×Value)},TKeys W ζ ρ kvs kys→
  TKeys W ζ ρ (kvs.map fun kv=>if kv.1=k then (kv.1,u) else kv) (kys.map (putAt k z))
 | [],_,h=>by change _=_ at h;subst h;rfl
 |(k',v)::r,_,hH=>by
  refine byC fun hG=>?_
  obtain⟨a,y,r',ks,o,e,h0,ht,h1,hl',h2,h3⟩:=hH
  subst e
  refine hG ?_
  clear hG
  simp only [Xb]
  by_cases q:k'=k
  ·simp only [q,putAt,if_true];exact⟨a,z,_,ks,o,rfl,h0,ht,q▸h1,hl,hu,TKeys.mapSet k hl hu h3⟩
  ·simp only [q,putAt,if_false];exact⟨a,y,_,ks,o,rfl,h0,ht,h1,hl',h2,TKeys.mapSet k hl hu h3⟩
theorem TKeys.stored{W:Wd}{ζ:HM}{ρ:RM}{kvs:List (List Int×V)}{kys:List (List Int×Addr×Value)}(h:TKeys W ζ ρ kvs kys)(k:List Int){a:Addr}{o:Obj}{ks:Array Value}(h0:ζ a=some o)(ht:TupIs o ks)(h1:ItemsAre (intKind W.prog W.w) k ks.toList)
  {v:V} {y:Value} (hl:v.low=true) (hv:VR W ζ ρ v y):TKeys W ζ ρ (kvSet kvs k v) (storedH kys k a y):=by
 unfold kvSet storedH
 rw [kvGet_some_of_any,h.some_iff k]
 split
 ·exact TKeys.mapSet k hl hv h
 ·exact h.append ⟨a,y,[],ks,o,rfl,h0,ht,h1,hl,hv,rfl⟩
theorem TKeys.length{W:Wd}{ζ:HM}{ρ:RM}{kvs:List (List Int×V)}{kys:List (List Int×Addr×Value)}(h:TKeys W ζ ρ kvs kys):kys.length=kvs.length:=by
 have:=congrArg List.length h.any;simpa using this
theorem setI_K:SimK3 C (fun v o i=>setItem o i v) (fun u v i=>setI v i u):=by
 intro h₀ ζ ρ st s P E u v i y x z ok rel ru rv ri a st' e k
 have hu:=ok.room.units
 refine byC fun hG=>?_
 obtain⟨n,hv,e⟩:=ob e
 obtain⟨hl,e⟩:=io e
 rw [Zk hv] at rv
 obtain⟨ad,hn,rfl⟩:=rv
 have hsys:(ad==sysModules)=false:=beq_eq_false_iff_ne.mpr fun q=>rel.sysr n (q▸hn)
 rcases oro e with e|e
 ·obtain⟨kk,hi,e⟩:=ob e
  rw [Zk hi] at ri
  obtain⟨t,rfl⟩:=ri
  obtain⟨kvs,q,hlen,rfl⟩:=putK_some e
  obtain⟨a',o,h1,h2,es,n',kys,rfl,h3,hk⟩:=rel.slot n _ q
  obtain rfl:ad=a':=Xm (hn.symm.trans h1)
  refine hG (wpAny_setItem_pairs (isInt_self kk t) (h3.dictOf h2) (fun h' hd' hs=>?_) (by have:=hk.length;have:=lim_le (n:=kys.length) (by exact ar22 hlen this);exact ar23 this))
  obtain⟨R',G'⟩:=dict_set (mk:=.idict) (fun _ _ h=>h) rel hn hk hl ru hd' hs
  exact k _ _ _ _ G' R'
 rcases oro e with e|e
 ·obtain⟨kk,hi,e⟩:=ob e
  rw [Zk hi] at ri
  obtain⟨t,rfl⟩:=ri
  obtain⟨kvs,q,hlen,rfl⟩:=putK_some e
  obtain⟨a',o,h1,h2,es,n',kys,rfl,h3,hk⟩:=rel.slot n _ q
  obtain rfl:ad=a':=Xm (hn.symm.trans h1)
  refine hG (wpAny_setItem_pairs (isStr_self kk t) (h3.dictOf h2) (fun h' hd' hs=>?_) (by have:=hk.length;have:=lim_le (n:=kys.length) (by exact ar22 hlen this);exact ar23 this))
  obtain⟨R',G'⟩:=dict_set (mk:=.sdict) (fun _ _ h=>h) rel hn hk hl ru hd' hs
  exact k _ _ _ _ G' R'
 ·obtain⟨ks,hi,e⟩:=ob e
  obtain⟨l,ql,e⟩:=ob e
  rw [Zk hi] at ri
  obtain⟨kvs,q,hlen,rfl⟩:=putK_some e
  obtain⟨ad',kys,e1,h1,_,hd,hk⟩:=tdict_at rel q (x:=.ref ad) (by refine(?_:Exists _);exact⟨ad,hn,rfl⟩)
  obtain rfl:ad=ad':=Xm (hn.symm.trans h1)
  obtain⟨ax,rfl,hkey,o,kz,h0,ht,h1⟩:=tup_key rel ql ri
  refine hG (wpAny_setItem_heap (knd:=tupleKind (intKind C.W.prog C.W.w)) (by show C.A.units+1<cLine;exact ar6 hu) hkey hd (fun h' hd' hs=>byC fun hG=>?_) (by have:=hk.length;have:=lim_le (n:=kys.length) (by exact ar22 hlen this);exact ar23 this))
  obtain⟨⟨c,d,dt,sl⟩,es,ep,ho,⟨x1,x2,x3⟩,hdat,hes,_,hnd⟩:=hd'
  simp only at x1 x2 x3 hdat
  subst x1 x2 x3 hdat
  obtain⟨R',G'⟩:=rel.set hn hs ho (O:=.tdict (kvSet kvs l u)) ⟨es,ep,_,rfl,hes,hnd,hk.stored l h0 ht h1 hl ru⟩
  exact hG (k _ _ _ _ G' R')
theorem Zw{o i:PySem.Expr}{pos' pos:Pos}{value:PySem.Expr}{m mo mi:M V}(h:SimE C (eval value C.env) m)(ho:SimE C (eval o C.env) mo)(hi:SimE C (eval i C.env) mi)(hs:swapsWith value (some (.Subscript o i pos')) pos.line C.env=pure false:=by rfl) :
  SimF C (exec (.Assign [.Subscript o i pos'] value pos) C.env) (do let u←m;let v←mo;let k←mi;setI v k u;pure .next):=by
 intro h₀ ζ ρ st s P E ok rel a st' e k
 refine byC fun hG=>?_
 obtain⟨u,s1,e1,e⟩:=W6 e
 obtain⟨v,s2,e2,e⟩:=W6 e
 obtain⟨i',s3,e3,e⟩:=W6 e
 obtain⟨x',s4,e4,e5⟩:=W6 e
 injection e5
 refine hG ?_
 clear hG
 refine wpAny_Assign_Subscript (h h₀ ζ ρ st s _ E ok rel u s1 e1 fun ζ1 ρ1 h1 tk1 y G1 rel1 r1=>?_) hs
 refine ho h₀ ζ1 ρ1 s1 _ _ E ok rel1 v s2 e2 fun ζ2 ρ2 h2 tk2 x G2 rel2 r2=>?_
 refine hi h₀ ζ2 ρ2 s2 _ _ E ok rel2 i' s3 e3 fun ζ3 ρ3 h3 tk3 z G3 rel3 r3=>?_
 exact setI_K h₀ ζ3 ρ3 s3 _ _ E u v i' y x z ok rel3 (VR.gr rel2 G3 (VR.gr rel1 G2 r1)) (VR.gr rel2 G3 r2) r3 _ _ e4 fun ζ4 ρ4 h4 tk4 G4 rel4=>k ζ4 ρ4 h4 tk4 _ ((((G1.trans G2).trans G3).trans G4).weak ok.bt) rel4 rfl
end Lay
namespace Lay
variable{C:Cx}
noncomputable def M.whileN(mt:M Bool)(mb:M Fl):Nat→M Fl
 |0=>M.fail
 |n+1=>do
  let b←mt
  if b then do
   let f←mb
   match f with
   |.next=>M.whileN mt mb n
   |.cont=>M.whileN mt mb n
   |.brk=>pure .next
   |.ret v=>pure (.ret v)
  else pure .next
open Classical in
noncomputable def M.whileW(mt:M Bool)(mb:M Fl):M Fl:=fun s =>
 if h : ∃ n r,M.whileN mt mb n s=some r then some (choose (choose_spec h)) else none
theorem M.whileW_some{mt:M Bool}{mb:M Fl}{s:St}{r}(h:M.whileW mt mb s=some r) : ∃ n,M.whileN mt mb n s=some r:=by
 unfold M.whileW at h
 split at h
 ·rename_i h'
  refine⟨Classical.choose h',?_⟩
  rw [Classical.choose_spec (Classical.choose_spec h')];exact h
 ·injection h
inductive WhI(C:Cx)(h₀ ζ:HM)(ρ:RM)(s:Shared)(mt:M Bool)(mb:M Fl)(r:Fl×St)(n:Nat)(s':Shared):Prop
 |mk (ζ1:HM) (ρ1:RM) (st1:St) (h1:Heap) (tk1:Tok) (e:s'={s with heap:=h1,toks:=tk1}) (G:Gr C.B s.heap ζ ρ h1 ζ1 ρ1) (rel:Rel C h₀ ζ1 ρ1 st1 h1) (e1:M.whileN mt mb n st1=some r)
theorem Sim_While{test:PySem.Expr}{body:List Stmt}{pos:Pos}{mt:M Bool}{mb:M Fl}(ht:SimB C (isTrue test C.env (eval test C.env)) mt)(hb:SimF C (execs body C.env) mb) :
  SimF C (exec (.While test body [] pos) C.env) (M.whileW mt mb):=by
 intro h₀ ζ ρ st s P E ok rel a st' e k
 obtain⟨n,e⟩:=M.whileW_some e
 refine wpAny_While (codeAny_whileLoop (WhI C h₀ ζ ρ s mt mb (a,st')) (fun n s' hI=>?_) n ⟨ζ,ρ,st,s.heap,s.toks,rfl,Gr.refl _ _ _ _,rel,e⟩)
 refine byC fun hG=>?_
 obtain⟨ζ1,ρ1,st1,h1,tk1,rfl,G1,rel1,e1⟩:=hI
 refine hG ?_
 clear hG
 cases n with
 |zero=>injection e1
 |succ n =>
  refine byC fun hG=>?_
  obtain⟨b,s2,e2,e3⟩:=W6 e1
  refine hG ?_
  clear hG
  refine ht h₀ ζ1 ρ1 st1 _ _ _ ok rel1 b s2 e2 fun ζ2 ρ2 h2 tk2 b' G2 rel2 r2=>?_
  injection r2
  have G2':=G1.trans (G2.weak ok.bt)
  cases b with
  |false =>
   injection e3
   exact wpAny_execs_nil (k ζ2 ρ2 h2 tk2 _ G2' rel2 rfl)
  |true =>
   rw [if_pos rfl] at e3 ⊢
   refine byC fun hG=>?_
   obtain⟨f,s3,e4,e5⟩:=W6 e3
   refine hG ?_
   clear hG
   refine hb h₀ ζ2 ρ2 s2 _ _ _ ok rel2 f s3 e4 fun ζ3 ρ3 h3 tk3 b3 G3 rel3 r3=>?_
   have G3':=G2'.trans G3
   cases f with
   |next=>injection r3;exact⟨n,X2 n,ζ3,ρ3,s3,h3,tk3,rfl,G3',rel3,e5⟩
   |cont=>injection r3;exact⟨n,X2 n,ζ3,ρ3,s3,h3,tk3,rfl,G3',rel3,e5⟩
   |brk=>injection r3;injection e5;exact k ζ3 ρ3 h3 tk3 _ G3' rel3 rfl
   |ret v=>obtain⟨y,rfl,hy⟩:=r3;injection e5;exact k ζ3 ρ3 h3 tk3 _ G3' rel3 ⟨y,rfl,hy⟩
theorem Rel.addK{h₀ ζ:HM}{ρ:RM}{st:St}{h:Heap}(R:Rel C h₀ ζ ρ st h){I:Addr}{o:Obj}(hI:h.get? I=some o)(off:ζ I=none∧h₀ I=none∧∀ n,ρ n≠some I)(hp : ∀ i pl,C.pl i=some pl→pl.addr≠I):Rel C (upd h₀ I (some o)) ζ ρ st h:=by
 have le:Le h₀ (upd h₀ I (some o)):=upd_le off.2.1
 refine⟨⟨R.ok,fun a o' e=>?_,R.frozen,R.fcls,R.slot,R.dom,R.inj,R.offz,fun n a e=>?_,fun h' q=>R.good h' (le.trans q),R.sysr,R.sysz⟩,R.fresh,R.mid,R.var,R.plok,fun i pl e=>⟨(R.ploff i pl e).1,?_,(R.ploff i pl e).2.2⟩,R.plinj⟩
 ·by_cases q:a=I
  ·subst q;rw [Zc] at e;injection e;exact hI
  ·rw [upd_ne _ _ q] at e;exact R.kept a o' e
 ·have:a≠I:=fun q=>off.2.2 n (q▸e)
  rw [upd_ne _ _ this];exact R.offk n a e
 ·rw [upd_ne _ _ (hp i pl e)];exact(R.ploff i pl e).2.1
theorem Rel.dropK{h₀ h₁ ζ:HM}{ρ:RM}{st:St}{h:Heap}(R:Rel C h₁ ζ ρ st h)(le:Le h₀ h₁)(good : ∀ h':Heap,Le h₀ h'.get?→C.W.Ok h'):Rel C h₀ ζ ρ st h:=by
 have dn : ∀ a,h₁ a=none→h₀ a=none:=fun a e=>by
  cases q:h₀ a with
  |none=>rfl
  |some o=>rw [le a o q] at e;injection e
 exact⟨⟨R.ok,le.trans R.kept,R.frozen,R.fcls,R.slot,R.dom,R.inj,R.offz,fun n a e=>dn a (R.offk n a e),good,R.sysr,R.sysz⟩,R.fresh,R.mid,R.var,R.plok,fun i pl e=>⟨(R.ploff i pl e).1,dn _ (R.ploff i pl e).2.1,(R.ploff i pl e).2.2⟩,R.plinj⟩
structure Off(C:Cx)(h₀ ζ:HM)(ρ:RM)(I:Addr):Prop where
 z:ζ I=none
 k:h₀ I=none
 r : ∀ n,ρ n≠some I
 p : ∀ i pl,C.pl i=some pl→pl.addr≠I
theorem Rel.offNew{h₀ ζ:HM}{ρ:RM}{st:St}{h:Heap}(R:Rel C h₀ ζ ρ st h){a:Addr}(ha:h.get? a=none):Off C h₀ ζ ρ a :=
 let ⟨⟨a1,a2,a3⟩,a4⟩:=R.newOff ha;⟨a1,a2,a3,a4⟩
theorem Off.gr{h₀ ζ ζ':HM}{ρ ρ':RM}{I:Addr}{B:Nat}{h h':Heap}(x:Off C h₀ ζ ρ I)(G:Gr B h ζ ρ h' ζ' ρ')(hI:h.get? I≠none):Off C h₀ ζ' ρ' I where
 z:=by
  cases q:ζ' I with
  |none=>rfl
  |some o =>
    rcases G.zn _ _ q with q|q
    ·rw [x.z] at q;injection q
    ·exact absurd q hI
 k:=x.k
 r:=fun n q=>by
  rcases G.rn _ _ q with q|q
  ·exact x.r n q
  ·exact absurd q hI
 p:=x.p
structure Src(C:Cx)(v:V)(items:St→Option (List V))(J:Value→Nat→Obj→Prop):Prop where
 start : ∀ (h₀ ζ:HM) (ρ:RM) (st:St) (s:Shared) (P:Value→Shared→Prop) (E:Value→Shared→Prop) (x:Value) (xs:List V),C.Ok→Rel C h₀ ζ ρ st s.heap→VR C.W ζ ρ v x→items st=some xs→
  (∀ o,J x 0 o→o.isFreed=false→P (.ref s.heap.objs.size) {s with heap:=s.heap.push o})→wpAny (model C.W.prog C.W.w) C.A (pyIter x) P E s
 next : ∀ (h₀ ζ:HM) (ρ:RM) (st:St) (s:Shared) (P:Option Value→Shared→Prop) (E:Value→Shared→Prop) (x:Value) (xs:List V) (I:Addr) (i:Nat) (o:Obj),C.Ok→Rel C h₀ ζ ρ st s.heap→VR C.W ζ ρ v x→items st=some xs→
  s.heap.get? I=some o→J x i o→Off C h₀ ζ ρ I→
  (∀ u y h' o' tk,xs[i]?=some u→VR C.W ζ ρ u y→Xw I s.heap h'→h'.get? I=some o'→J x (i+1) o'→P (some y) {s with heap:=h',toks:=tk})→
  (xs[i]?=none→∀ h',Heap.ExtBut I s.heap h'→P none {s with heap:=h'})→wpAny (model C.W.prog C.W.w) C.A (pyNext (.ref I)) P E s
 lot : ∀ (target:PySem.Expr) (s:Shared) (P:Unit→Shared→Prop) (E:Value→Shared→Prop) (x:Value) (I:Addr) (i:Nat) (o:Obj) (y:Value),s.heap.get? I=some o→J x i o→P () s→
  wpAny (model C.W.prog C.W.w) C.A (letOwnedTupleGo target (.ref I) y) P E s
 self : ∀ (s:Shared) (P:Value→Shared→Prop) (E:Value→Shared→Prop) (x:Value) (I:Addr) (i:Nat) (o:Obj),s.heap.get? I=some o→J x i o→P (.ref I) s→wpAny (model C.W.prog C.W.w) C.A (pyIter (.ref I)) P E s
noncomputable def isLotType(n:String):Bool := ["enumerate","zip","dict_itemiterator","dict_reverseitemiterator","odict_iterator","itertools.zip_longest","itertools.pairwise"].contains n
theorem lot_plain{M':Model}{A:Around}{target:PySem.Expr}{s:Shared}{P:Unit→Shared→Prop}{E:Value→Shared→Prop}{I:Addr}{o:Obj}{y:Value}{n:String}(ho:s.heap.get? I=some o)(hc:o.cls = .type n)(hn:isLotType n=false)(h:P () s) :
  wpAny M' A (letOwnedTupleGo target (.ref I) y) P E s:=by
 have main : ∀ es k p,wpAny M' A (letOwnedTupleGo (.Tuple es k p) (.ref I) y) P E s:=fun es k p=>by
  cases y with
  |ref a =>
   refine Xy (wpAny_load ho ?_)
   obtain⟨c,d,dt,sl⟩:=o
   subst hc
   cases dt with
   |fields vs =>
    have hn':((["enumerate","zip","dict_itemiterator","dict_reverseitemiterator","odict_iterator","itertools.zip_longest","itertools.pairwise"]:List String).contains n&&vs[0]?==some (rawInt a))=false:=by rw [show List.contains _ n=false from hn];rfl
    exact wpAny_ite_false (decide_eq_false fun q=>Bool.noConfusion (hn'.symm.trans q)) (Xz h)
   |_=>exact Xz h
  |_=>exact Xz h
 cases target with
 |Tuple es k p=>exact main es k p
 |List es p=>exact main [] 0 p
 |_=>exact Xz h
noncomputable def JList(x:Value)(i:Nat)(o:Obj):Prop := ∃ l,x = .ref l∧o.cls = .type "list_iterator" ∧o.data = .fields #[.ref l,.int i 0]
theorem Src.list{v:V}:Src C v (lView v) JList where
 start:=fun h₀ ζ ρ st s P E x xs ok rel r e k=>by
  refine byC fun hG=>?_
  obtain⟨a,ys,rfl,h1,_⟩:=lView_at rel e r
  refine hG ?_
  clear hG
  exact wpAny_pyIter_list h1 (k _ ⟨a,rfl,rfl,rfl⟩ rfl)
 next:=fun h₀ ζ ρ st s P E x xs I i o ok rel r e ho hj off k1 k2=>by
  refine byC fun hG=>?_
  obtain⟨a,ys,rfl,h1,h2⟩:=lView_at rel e r
  obtain⟨l,e1,hc,hd⟩:=hj
  injection e1
  refine hG ?_
  clear hG
  cases q:xs[i]? with
  |some u =>
   refine byC fun hG=>?_
   obtain⟨y,hy,_,hr⟩:=h2.get i u q
   refine hG ?_
   clear hG
   refine wpAny_pyNext_list_item ⟨o,ho,hc,hd⟩ h1 (by simpa using hy) fun h' hit hs=>?_
   refine byC fun hG=>?_
   obtain⟨o',ho',hc',hd'⟩:=hit
   refine hG ?_
   clear hG
   exact k1 u y h' o' s.toks q hr hs ho' ⟨_,rfl,hc',hd'⟩
  |none =>
   refine wpAny_pyNext_list_end ok.room.handled ⟨o,ho,hc,hd⟩ h1 ?_ fun h' hs=>k2 q h' hs
   have hl:ys.size=xs.length:=by rw [←h2.length];simp
   rw [List.getElem?_eq_none_iff] at q
   simp;exact ar24 q hl
 lot:=fun target s P E x I i o y ho ⟨l,_,hc,_⟩ h=>lot_plain ho hc rfl h
 self:=fun s P E x I i o ho ⟨l,_,hc,hd⟩ h=>wpAny_pyIter_listiter ⟨o,ho,hc,hd⟩ h
noncomputable def tView'(v:V):Option (List V):=un V.tup v
noncomputable def JTup(x:Value)(i:Nat)(o:Obj):Prop := ∃ l,x = .ref l∧o.cls = .type "tuple_iterator" ∧o.data = .fields #[.ref l,.int i 0]
theorem Src.tuple{v:V}:Src C v (fun _=>tView' v) JTup where
 start:=fun h₀ ζ ρ st s P E x xs ok rel r e k=>by
  rw [Zk e] at r
  refine byC fun hG=>?_
  obtain⟨a,ys,rfl,h1,_⟩:=tup_at rel r
  exact hG (wpAny_pyIter_tuple h1 (k _ ⟨a,rfl,rfl,rfl⟩ rfl))
 next:=fun h₀ ζ ρ st s P E x xs I i o ok rel r e ho hj off k1 k2=>by
  rw [Zk e] at r
  refine byC fun hG=>?_
  obtain⟨a,ys,rfl,h1,h2⟩:=tup_at rel r
  obtain⟨l,e1,hc,hd⟩:=hj
  injection e1
  refine hG ?_
  clear hG
  cases q:xs[i]? with
  |some u =>
   refine byC fun hG=>?_
   obtain⟨y,hy,_,hr⟩:=h2.get i u q
   refine hG ?_
   clear hG
   refine wpAny_pyNext_tuple_item ⟨o,ho,hc,hd⟩ h1 (by simpa using hy) fun h' hit hs=>?_
   refine byC fun hG=>?_
   obtain⟨o',ho',hc',hd'⟩:=hit
   refine hG ?_
   clear hG
   exact k1 u y h' o' s.toks q hr hs ho' ⟨_,rfl,hc',hd'⟩
  |none =>
   refine wpAny_pyNext_tuple_end ok.room.handled ⟨o,ho,hc,hd⟩ h1 ?_ fun h' hs=>k2 q h' hs
   have hl:ys.size=xs.length:=by rw [←h2.length];simp
   rw [List.getElem?_eq_none_iff] at q
   simp;exact ar24 q hl
 lot:=fun target s P E x I i o y ho ⟨l,_,hc,_⟩ h=>lot_plain ho hc rfl h
 self:=fun s P E x I i o ho ⟨l,_,hc,hd⟩ h=>wpAny_pyIter_tupleiter ⟨o,ho,hc,hd⟩ h
noncomputable def rngItems(a b c:Int):List V:=(List.range (Builtin.Range.rangeSize a b c).toNat).map fun(i:Nat)=>V.int (a+(i:Int)*c)
noncomputable def rng3(t:Int×Int×Int):V:=V.rng t.1 t.2.1 t.2.2
noncomputable def rView(v:V):Option (List V):=(un rng3 v).bind fun t=>if Builtin.Range.small t.1 t.2.1 t.2.2=true then some (rngItems t.1 t.2.1 t.2.2) else none
theorem un_rng{a b c:Int}:un rng3 (V.rng a b c)=some (a,b,c):=un_self (f:=rng3) (a:=(a,b,c)) fun _ _ e=>by
 obtain⟨h1,h2,h3⟩:=V.rng.inj e
 exact Prod.ext h1 (Prod.ext h2 h3)
inductive RngIs(v:V)(xs:List V):Prop
 |mk (a b c:Int) (hv:v = .rng a b c) (hs:Builtin.Range.small a b c=true) (hx:xs=rngItems a b c)
theorem rView_some{v:V}{xs:List V}(e:rView v=some xs):RngIs v xs:=by
 refine byC fun hG=>?_
 obtain⟨⟨a,b,c⟩,h,e⟩:=ob e
 obtain⟨hs,e⟩:=io e
 injection e with e
 exact hG ⟨a,b,c,Zk (f:=rng3) h,hs,e.symm⟩
noncomputable def JRng(a b c:Int)(i:Nat)(o:Obj):Prop:=o={cls:=.type "range_iterator",data:=.fields #[rawInt (a+i*c),rawInt (Builtin.Range.rangeSize a b c-i),rawInt c]}
theorem rangeSize_nonneg(a b c:Int):0≤Builtin.Range.rangeSize a b c:=by
 unfold Builtin.Range.rangeSize
 split
 ·split
  ·rename_i h1 h2
   have:=Int.ediv_nonneg (a:=b-a-1) (b:=c) (by exact ar25 h2) (by exact ar26 h1)
   exact ar27 this
  ·exact Int.le_refl _
 ·split
  ·rename_i h1 h2
   have h3:0≤(a-b-1)/(-c):=by
    by_cases h0:c=0
    ·subst h0;simp
    ·exact Int.ediv_nonneg (by exact ar28 h2) (by exact ar29 h1)
   exact ar27 h3
  ·exact Int.le_refl _
theorem Src.range{a b c:Int}:Src C (.rng a b c) (fun _=>rView (.rng a b c)) (fun _=>JRng a b c) where
 start:=fun h₀ ζ ρ st s P E x xs ok rel r e k=>by
  obtain⟨a,b,c,hv,hs,rfl⟩:=rView_some e
  injection hv with q1 q2 q3
  subst q1 q2 q3
  refine byC fun hG=>?_
  obtain⟨ad,t,u,w,rfl,h1⟩:=r
  refine hG ?_
  clear hG
  have hj:JRng a b c (0:Nat) {cls:=.type "range_iterator",data:=.fields #[rawInt a,rawInt (Builtin.Range.rangeSize a b c),rawInt c]}:=by
   unfold JRng;simp
  exact wpAny_pyIter_range (t:=t) (u:=u) (v:=w) (a:=a) (b:=b) (c:=c) (rel.frozen _ _ h1) hs (k _ hj rfl)
 next:=fun h₀ ζ ρ st s P E x xs I i o ok rel r e ho hj off k1 k2=>by
  obtain⟨a,b,c,hv,hs,rfl⟩:=rView_some e
  injection hv with q1 q2 q3
  subst q1 q2 q3
  unfold JRng at hj
  subst hj
  have hnn:=rangeSize_nonneg a b c
  by_cases q:(i:Int)<Builtin.Range.rangeSize a b c
  ·refine wpAny_pyNext_range_item ho (by exact ar30 q) fun h' hit hs'=>?_
   refine k1 (.int (a+i*c)) _ h' _ _ ?_ (Exists.intro _ rfl) hs' hit ?_
   ·unfold rngItems
    rw [X8,List.getElem?_range (by exact ar31 hnn q)];rfl
   ·have e1:a+((i+1:Nat):Int)*c=a+(i:Int)*c+c:=by rw [Int.natCast_succ,Int.add_mul];exact ar32
    have e2:Builtin.Range.rangeSize a b c-((i+1:Nat):Int)=Builtin.Range.rangeSize a b c-(i:Int)-1:=by exact ar33
    unfold JRng
    rw [e1,e2]
  ·refine wpAny_pyNext_range_end ok.room.handled ho (by exact ar34 q) fun h' hs'=>k2 ?_ h' hs'
   rw [List.getElem?_eq_none_iff]
   unfold rngItems
   simp;exact ar35 q
 lot:=fun target s P E x I i o y ho hj h=>by
  unfold JRng at hj
  subst hj
  exact lot_plain ho rfl rfl h
 self:=fun s P E x I i o ho hj h=>by
  unfold JRng at hj
  subst hj
  exact wpAny_pyIter_rangeiter ho h
noncomputable def seqItems(v:V)(st:St):Option (List V):=(tView' v).or ((rView v).or (lView v st))
noncomputable def JSeq(v:V)(x:Value)(i:Nat)(o:Obj):Prop:=@V.casesOn (fun _=>Prop) v (JList x i o) (fun _=>JList x i o) (fun _=>JList x i o) (fun _=>JList x i o) (fun _=>JTup x i o) (fun _=>JList x i o) (fun _=>JList x i o) (fun _=>JList x i o) (fun _=>JList x i o) (fun a b c=>JRng a b c i o)
theorem Src.of{v:V}{i1 i2:St→Option (List V)}{J:Value→Nat→Obj→Prop}(h:Src C v i1 J)(e : ∀ st xs,i2 st=some xs→i1 st=some xs):Src C v i2 J :=
 ⟨fun h₀ ζ ρ st s P E x xs ok rel r q k=>h.start h₀ ζ ρ st s P E x xs ok rel r (e _ _ q) k,fun h₀ ζ ρ st s P E x xs I i o ok rel r q=>h.next h₀ ζ ρ st s P E x xs I i o ok rel r (e _ _ q),h.lot,h.self⟩
theorem seq_tup{xs:List V}{st:St}:seqItems (.tup xs) st=some xs:=by
 unfold seqItems tView';rw [un_self fun _ _ e=>V.tup.inj e];rfl
theorem seq_lst{v:V}{st:St}(h1 : ∀ xs,v≠ .tup xs)(h2 : ∀ a b c,v≠ .rng a b c):seqItems v st=lView v st:=by
 unfold seqItems tView' rView;rw [un_none h1,un_none (f:=rng3) fun t=>h2 _ _ _];rfl
theorem seq_rng{a b c:Int}{st:St}(h:Builtin.Range.small a b c=true):seqItems (.rng a b c) st=some (rngItems a b c):=by
 unfold seqItems tView' rView;rw [un_none fun _=>V.noConfusion,un_rng];show Option.or none (Option.or (if _ then _ else _) _)=_;rw [if_pos h];rfl
theorem Src.seq(v:V):Src C v (seqItems v) (JSeq v):=by
 cases v with
 |tup xs=>exact Src.tuple.of fun st ys e=>by rw [seq_tup] at e;rw [←e];exact un_self fun _ _ e=>V.tup.inj e
 |rng a b c =>
  refine Src.range.of fun st ys e=>?_
  rcases oro e with e|e
  ·exact V.noConfusion (Zk e)
  rcases oro e with e|e
  ·exact e
  rcases oro e with e|e
  ·exact V.noConfusion (Zk e)
  ·obtain⟨n,q,_⟩:=slot_some e;exact V.noConfusion q
 |_=>exact Src.list.of fun st ys e=>(seq_lst (fun _=>V.noConfusion) (fun _ _ _=>V.noConfusion)).symm.trans e
noncomputable def V.stays(B:Nat)(v:V):Bool:=@V.casesOn (fun _=>Bool) v true (fun _=>true) (fun _=>true) (fun _=>true) (fun _=>true) (fun _=>true) (fun _=>true) (fun n=>decide (n<B)) (fun _=>true) (fun _ _ _=>true)
theorem VR.stay{h₀ ζ ζ':HM}{ρ ρ':RM}{st:St}{h h':Heap}{v:V}{x:Value}(hs:v.stays C.B=true)(b100:100≤C.B)(G:Gr C.B h ζ ρ h' ζ' ρ')(r:VR C.W ζ ρ v x):VR C.W ζ' ρ' v x:=by
 cases v with
 |ref n =>
  replace hs:=of_decide_eq_true hs
  refine(?_:Exists _)
  obtain⟨a,h1,h2⟩:=r
  exact⟨a,G.rl n a hs h1,h2⟩
 |_=>exact VR.lowMono G.zl (fun n a q e=>G.rl n a (Yq q b100) e) _ _ rfl r
noncomputable def M.forN(items:St→Option (List V))(bind:V→M Unit)(body:M Fl):Nat→Nat→M Fl
 |0,_=>M.fail
 |f+1,i=>fun s=>(items s).bind fun xs=>(xs[i]?).elim (some (.next,s)) fun x=>(do
    bind x
    let fl←body
    match fl with
    |.next=>M.forN items bind body f (i+1)
    |.cont=>M.forN items bind body f (i+1)
    |.brk=>pure .next
    |.ret v=>pure (.ret v):M Fl) s
noncomputable def M.forS(v:V)(bind:V→M Unit)(body:M Fl):M Fl:=fun s=>(seqItems v s).bind fun xs=>M.forN (seqItems v) bind body (xs.length+1) 0 s
noncomputable abbrev SimA(C:Cx)(target:PySem.Expr)(bind:V→M Unit):Prop:=SimK C C.T (VR C.W) (fun y=>assign target C.env y) bind (fun _ _ _ _=>True)
theorem SimA.name{x:Str}{i:Nat}{pos:Pos}(h:SimSt C x i):SimA C (.Name x pos) (fun v=>M.setL i v):=by
 intro h₀ ζ ρ st s P E v y ok rel r a st' e k
 exact wpAny_assign_Name (h h₀ ζ ρ st s P E v y ok rel r a st' e k)
theorem same_off{I:Addr}{h h':Heap}(hs:Xw I h h')(b:Addr)(o:Obj)(hb : ¬ b=I)(e:h.get? b=some o):h'.get? b=some o:=(hs.2 b hb).trans e
inductive ForI(C:Cx)(h₀ ζ:HM)(ρ:RM)(s:Shared)(v:V)(x:Value)(I:Addr)(bind:V→M Unit)(mb:M Fl)(r:Fl×St)(n:Nat)(s':Shared):Prop
 |mk (ζ2:HM) (ρ2:RM) (st2:St) (h2:Heap) (tk2:Tok) (i:Nat) (o:Obj) (e:s'={s with heap:=h2,toks:=tk2}) (G:Gr C.B s.heap ζ ρ h2 ζ2 ρ2) (rel:Rel C h₀ ζ2 ρ2 st2 h2) (rv:VR C.W ζ2 ρ2 v x) (ho:h2.get? I=some o) (hj:JSeq v x i o) (off:Off C h₀ ζ2 ρ2 I) (e1:M.forN (seqItems v) bind mb n i st2=some r)
theorem Yi{target iter:PySem.Expr}{body:List Stmt}{pos:Pos}{mi:M V}{bind:V→M Unit}{mb:M Fl}(hi:SimE C (eval iter C.env) mi)(ha:SimA C target bind)(hb:SimF C (execs body C.env) mb)
  (hs : ∀ x,foldedSetIterable iter C.env x=pure x:=by intro _;rfl) :
  SimF C (exec (.For target iter body [] pos) C.env) (do let v←mi;M.guard (v.stays C.B);M.forS v bind mb):=by
 intro h₀ ζ ρ st s P E ok rel a st' e k
 refine byC fun hG=>?_
 obtain⟨v,s1,e1,e⟩:=W6 e
 obtain⟨_,s2,e2,e3⟩:=W6 e
 obtain⟨hst,hs2⟩:=W7 e2
 injection hs2
 refine hG ?_
 clear hG
 obtain⟨xs0,hx0,e3⟩:=ob e3
 refine wpAny_For (hi h₀ ζ ρ st s _ E ok rel v s1 e1 fun ζ1 ρ1 h1 tk1 x G1 rel1 r1=>?_) hs
 refine(Src.seq v).start h₀ ζ1 ρ1 s1 _ _ _ x xs0 ok rel1 r1 hx0 fun o0 hj0 hf0=>?_
 have hget0:(h1.push o0).get? h1.objs.size=some o0:=Xs h1 hf0
 have off0:=rel1.offNew (get_size h1)
 refine codeAny_forLoop_any (ForI C h₀ ζ ρ s v x h1.objs.size bind mb (a,st')) (fun n s' hI=>?_) (xs0.length+1) ⟨ζ1,ρ1,s1,h1.push o0,tk1,0,o0,rfl,(G1.weak ok.bt).trans (Gr.push _ _),rel1.push o0,r1,hget0,hj0,off0,e3⟩
 refine byC fun hG=>?_
 obtain⟨ζ2,ρ2,st2,h2,tk2,i,o,rfl,G2,rel2,r2,ho,hj,off,e4⟩:=hI
 refine hG ?_
 clear hG
 cases n with
 |zero=>injection e4
 |succ n =>
  ·obtain⟨xs,hx,e4⟩:=ob (f:=fun xs=>Option.elim (xs[i]?) _ _) e4
   refine(Src.seq v).next h₀ ζ2 ρ2 st2 _ _ _ x xs h1.objs.size i o ok rel2 r2 hx ho hj off (fun u y h3 o3 tk3 hu hr hs3 ho3 hj3=>?_) (fun hn h3 hs3=>?_)
   ·rw [hu] at e4
    dsimp only [Option.elim_some] at e4
    refine(Src.seq v).lot target _ _ _ x h1.objs.size (i+1) o3 y ho3 hj3 ?_
    have rel3:Rel C h₀ ζ2 ρ2 st2 h3:=rel2.off (· =h1.objs.size) (fun b o hb e=>same_off hs3 b o hb e) (fun b q=>q▸⟨off.z,off.k,off.r⟩) off.p
    have G3:Gr C.B s.heap ζ ρ h3 ζ2 ρ2:=G2.trans (Gr.heap fun b q=>by
     by_cases q':b=h1.objs.size
     ·subst q';rw [ho3];exact Xk _
     ·rw [hs3.2 b q'];exact q)
    have rel4:=rel3.addK ho3 ⟨off.z,off.k,off.r⟩ off.p
    refine byC fun hG=>?_
    obtain⟨_,s5,e5,e6⟩:=W6 e4
    obtain⟨fl,s6,e7,e8⟩:=W6 e6
    refine hG ?_
    clear hG
    refine ha _ ζ2 ρ2 st2 _ _ _ u y ok rel4 hr () s5 e5 fun ζ5 ρ5 h5 tk5 _ G5 rel5 _=>?_
    refine hb _ ζ5 ρ5 s5 _ _ _ ok rel5 fl s6 e7 fun ζ6 ρ6 h6 tk6 b6 G6 rel6 r6=>?_
    have G56:Gr C.B h3 ζ2 ρ2 h6 ζ6 ρ6:=(G5.weak ok.bt).trans G6
    have G6':=G3.trans G56
    have rel6':Rel C h₀ ζ6 ρ6 s6 h6:=rel6.dropK (upd_le off.k) rel.good
    have ho6:h6.get? h1.objs.size=some o3:=rel6.kept _ _ (Zc _ _ _)
    have off6:Off C h₀ ζ6 ρ6 h1.objs.size:=Off.gr off G56 (by rw [ho3];exact Xk _)
    have r6':VR C.W ζ6 ρ6 v x:=VR.stay (h₀:=h₀) (st:=s6) hst ok.b100 G56 r2
    cases fl with
    |next=>injection r6;exact⟨n,X2 n,ζ6,ρ6,s6,h6,tk6,i+1,o3,rfl,G6',rel6',r6',ho6,hj3,off6,e8⟩
    |cont=>injection r6;exact⟨n,X2 n,ζ6,ρ6,s6,h6,tk6,i+1,o3,rfl,G6',rel6',r6',ho6,hj3,off6,e8⟩
    |brk=>injection r6;injection e8;exact k ζ6 ρ6 h6 tk6 _ G6' rel6' rfl
    |ret w=>obtain⟨z,rfl,hz⟩:=r6;injection e8;exact k ζ6 ρ6 h6 tk6 _ G6' rel6' ⟨z,rfl,hz⟩
   ·rw [hn] at e4
    injection e4
    have rel3:Rel C h₀ ζ2 ρ2 st' h3:=rel2.off (· =h1.objs.size) (fun b o hb e=>hs3 b o hb e) (fun b q=>q▸⟨off.z,off.k,off.r⟩) off.p
    have G3:Gr C.B s.heap ζ ρ h3 ζ2 ρ2:=⟨G2.zl,G2.rl,G2.zn,G2.rn,fun b q=>by
     have q1:b≠h1.objs.size:=fun q'=>G1.dm b q (q'▸get_size h1)
     cases q2:h2.get? b with
     |none=>exact absurd q2 (G2.dm b q)
     |some o'=>rw [hs3 b o' q1 q2];exact Xk _⟩
    exact wpAny_execs_nil (k ζ2 ρ2 h3 tk2 _ G3 rel3 rfl)
end Lay
namespace Lay
variable{C:Cx}
noncomputable def M.delL(i:Nat):M Unit:=fun s=>some ((),{s with loc:=upd s.loc i none})
noncomputable def M.compN(items:St→Option (List V))(bind:V→M Unit)(test:M Bool)(elt:M V):Nat→Nat→List V→M (List V)
 |0,_,_=>M.fail
 |f+1,i,acc=>fun s=>(items s).bind fun xs=>(xs[i]?).elim (some (acc,s)) fun x=>(do
    bind x
    let b←test
    if b then do
     let y←elt
     M.guard (y.low&&decide (acc.length<lim))
     M.compN items bind test elt f (i+1) (acc ++ [y])
    else M.compN items bind test elt f (i+1) acc:M (List V)) s
noncomputable def M.comp(c:Option Nat)(v:V)(j:Nat)(test:M Bool)(elt:M V):M V:=do
 let acc←(fun s=>(seqItems v s).bind fun xs=>M.compN (seqItems v) (fun u=>M.setL j u) test elt (xs.length+1) 0 [] s:M (List V))
 M.delL j
 mkList c acc
noncomputable def compCx(C:Cx)(scope:Scope)(cl:List (Str×Addr))(x:Str)(j:Nat)(L:Addr):Cx :=
 {C with env:=compEnvC scope cl L C.env,pl:=upd C.pl j (some (.loc L x))}
noncomputable def SimT(C:Cx)(ifs:List PySem.Expr)(m:M Bool):Prop :=
 Sim C C.T (forIn ifs true fun c r=>if r=true then do let ok←isTrue c C.env (eval c C.env);pure (ForInStep.yield ok) else pure (ForInStep.yield r)) m (fun _ _ a b=>a=b)
theorem SimT.nil:SimT C [] (pure true):=by
 intro h₀ ζ ρ st s P E ok rel a st' e k
 injection e
 exact wpAny_tests_nil (k ζ ρ s.heap s.toks _ (Gr.refl _ _ _ _) rel rfl)
theorem SimT.one{c:PySem.Expr}{m:M Bool}(h:SimB C (isTrue c C.env (eval c C.env)) m):SimT C [c] m:=by
 intro h₀ ζ ρ st s P E ok rel a st' e k
 exact wpAny_tests_one (h h₀ ζ ρ st s P E ok rel a st' e k)
theorem Rel.adoptZ{h₀ ζ:HM}{ρ:RM}{st:St}{h:Heap}(R:Rel C h₀ ζ ρ st h){D:Addr}{o:Obj}(ho:h.get? D=some o)(off:Off C h₀ ζ ρ D)(hsys:D≠sysModules) :
  Rel C h₀ (upd ζ D (some o)) ρ st h:=by
 have le:Le ζ (upd ζ D (some o)):=upd_le off.z
 refine⟨⟨R.ok,R.kept,fun a o' e=>?_,fun _ _ _=>trivial,fun n O e=>?_,R.dom,R.inj,fun n a e=>?_,R.offk,R.good,R.sysr,?_⟩,R.fresh,R.mid,fun i v e=>?_,R.plok,fun i pl e=>⟨?_,(R.ploff i pl e).2⟩,R.plinj⟩
 ·by_cases q:a=D
  ·subst q;rw [Zc] at e;injection e;exact ho
  ·rw [upd_ne _ _ q] at e;exact R.frozen a o' e
 ·obtain⟨a,o',h1,h2,h3⟩:=R.slot n O e
  exact⟨a,o',h1,h2,h3.mono le fun _ _ _ e=>e⟩
 ·have:a≠D:=fun q=>off.r n (q▸e)
  rw [upd_ne _ _ this];exact R.offz n a e
 ·rw [upd_ne _ _ (Ne.symm hsys)];exact R.sysz
 ·obtain⟨pl,x,h1,h2,h3⟩:=R.var i v e
  exact⟨pl,x,h1,h2,h3.mono le (Le.refl _)⟩
 ·rw [upd_ne _ _ (off.p i pl e)];exact(R.ploff i pl e).1
theorem Rel.adoptS{h₀ ζ:HM}{ρ:RM}{st:St}{h:Heap}(R:Rel C h₀ ζ ρ st h){D:Addr}{o:Obj}(ho:h.get? D=some o)(off:Off C h₀ ζ ρ D)(hsys:D≠sysModules)(n:Nat)(hn:st.hp n=none)(hT:n<C.T)(hB:n<100∨C.B≤n)(O:O)
  (hO:OR C.W ζ (upd ρ n (some D)) O o):Rel C h₀ ζ (upd ρ n (some D)) {st with hp:=upd st.hp n (some O)} h:=by
 have le:Le ρ (upd ρ n (some D)):=upd_le (R.dom n hn)
 refine⟨⟨R.ok,R.kept,R.frozen,R.fcls,fun m O' e=>?_,fun m e=>?_,fun m m' a e e'=>?_,fun m a e=>?_,fun m a e=>?_,R.good,fun m e=>?_,R.sysz⟩,fun m hm=>?_,fun m h1 h2 h3=>?_,fun i v e=>?_,R.plok,fun i pl e=>⟨(R.ploff i pl e).1,(R.ploff i pl e).2.1,fun m q=>?_⟩,R.plinj⟩
 ·by_cases q:m=n
  ·subst q;simp only [Zc] at e;injection e
   exact⟨_,o,Zc _ _ _,ho,hO⟩
  ·simp only [upd_ne _ _ q] at e
   refine byC fun hG=>?_
   obtain⟨a,o',h1,h2,h3⟩:=R.slot m O' e
   refine hG ?_
   clear hG
   exact⟨a,o',le _ _ h1,h2,h3.mono (Le.refl _) le.low⟩
 ·by_cases q:m=n
  ·subst q;simp only [Zc] at e;injection e
  ·simp only [upd_ne _ _ q] at e;rw [upd_ne _ _ q];exact R.dom m e
 ·by_cases q:m=n
  ·by_cases q':m'=n
   ·rw [q,q']
   ·rw [q,Zc] at e;injection e;rw [upd_ne _ _ q'] at e';exact absurd e' (off.r m')
  ·by_cases q':m'=n
   ·rw [q',Zc] at e';injection e';rw [upd_ne _ _ q] at e;exact absurd e (off.r m)
   ·rw [upd_ne _ _ q] at e;rw [upd_ne _ _ q'] at e';exact R.inj m m' a e e'
 ·by_cases q:m=n
  ·subst q;rw [Zc] at e;injection e;exact off.z
  ·rw [upd_ne _ _ q] at e;exact R.offz m a e
 ·by_cases q:m=n
  ·subst q;rw [Zc] at e;injection e;exact off.k
  ·rw [upd_ne _ _ q] at e;exact R.offk m a e
 ·by_cases q:m=n
  ·subst q;rw [Zc] at e;exact hsys (Xm e)
  ·rw [upd_ne _ _ q] at e;exact R.sysr m e
 ·have:m≠n:=by intro q;subst q;exact absurd hT (Nat.not_lt.mpr hm)
  show upd st.hp n (some O) m=none
  rw [upd_ne _ _ this];exact R.fresh m hm
 ·have:m≠n:=by intro q;subst q;exact ar0 h1 h2 hB
  exact R.mid m h1 h2 (fun q=>h3 (by show upd st.hp n (some O) m=none;rw [upd_ne _ _ this];exact q))
 ·obtain⟨pl,x,h1,h2,h3⟩:=R.var i v e
  exact⟨pl,x,h1,h2,h3.mono (Le.refl _) le⟩
 ·by_cases q':m=n
  ·subst q';rw [Zc] at q;exact off.p i pl e (Xm q).symm
  ·rw [upd_ne _ _ q'] at q;exact(R.ploff i pl e).2.2 m q
theorem Rel.not_sys{h₀ ζ:HM}{ρ:RM}{st:St}{h:Heap}(R:Rel C h₀ ζ ρ st h){D:Addr}(hD:h.objs.size≤D):D≠sysModules:=by
 have:mainGlobals<h.objs.size:=R.ok.2.g.lt
 have h1:sysModules<mainGlobals:=by decide
 exact(Yu (Yq (Yt h1 this) hD)).symm
theorem list_adopt2{h₀ ζ:HM}{ρ:RM}{st st':St}{h hs:Heap}{c:Option Nat}{vs:List V}{ys:List Value}{D:Addr}{o:Obj}{v:V}(rel:Rel C h₀ ζ ρ st h)(hc:okSlot C c)(e:mkList c vs st=some (v,st'))(r:VRs C.W ζ ρ vs ys)
  (ho:h.get? D=some o) (hl:LstIs o ys.toArray) (off:Off C h₀ ζ ρ D) (hsys:D≠sysModules) (hnew:hs.get? D=none) (dm : ∀ a,hs.get? a≠none→h.get? a≠none) :
  ∃ ζ' ρ',Gr C.T hs ζ ρ h ζ' ρ'∧Rel C h₀ ζ' ρ' st' h∧VR C.W ζ' ρ' v (.ref D)∧(∀ a,a≠D→ζ' a=ζ a)∧(∀ n a,a≠D→ρ' n=some a→ρ n=some a):=by
 refine byC fun hG=>?_
 obtain⟨_,s2,e3,e4⟩:=W6 e
 obtain⟨hg,hs'⟩:=W7 e3
 injection hs'
 refine hG ?_
 clear hG
 simp only [W4,decide_eq_true_eq] at hg
 cases c with
 |none =>
  injection e4
  have le:Le ζ (upd ζ D (some o)):=upd_le off.z
  refine⟨_,ρ,⟨le,fun _ _ _ q=>q,fun a o' q=>?_,fun _ _ q=>.inl q,dm⟩,rel.adoptZ ho off hsys,?_,fun a q=>upd_ne _ _ q,fun _ _ _ q=>q⟩
  ·by_cases q':a=D
   ·subst q';exact .inr hnew
   ·rw [upd_ne _ _ q'] at q;exact .inl q
  ·refine(?_:Exists _)
   exact⟨_,o,_,rfl,Zc _ _ _,hl,by simpa using VRs.mono le (fun _ _ _ q=>q) _ _ r⟩
 |some n =>
  obtain⟨hn,h2⟩:=M.new_some e4
  injection h2
  have le:Le ρ (upd ρ n (some D)):=upd_le (rel.dom n hn)
  refine⟨ζ,_,⟨Le.refl _,fun m a _ q=>le m a q,fun _ _ q=>.inl q,fun m a q=>?_,dm⟩,rel.adoptS ho off hsys n hn hc.1 hc.2 (.list vs) ⟨_,hl,by simpa using VRs.mono (Le.refl _) le.low _ _ r⟩,?_,fun _ _=>rfl,fun m a q q'=>?_⟩
  ·by_cases q':m=n
   ·subst q';rw [Zc] at q;injection q;exact .inr hnew
   ·rw [upd_ne _ _ q'] at q;exact .inl q
  ·refine(?_:Exists _)
   exact⟨_,Zc _ _ _,rfl⟩
  ·by_cases w:m=n
   ·subst w;rw [Zc] at q';exact absurd (Xm q').symm q
   ·rw [upd_ne _ _ w] at q';exact q'
theorem list_adopt{h₀ ζ:HM}{ρ:RM}{st st':St}{h hs:Heap}{c:Option Nat}{vs:List V}{ys:List Value}{D:Addr}{o:Obj}{v:V}(rel:Rel C h₀ ζ ρ st h)(hc:okSlot C c)(e:mkList c vs st=some (v,st'))(r:VRs C.W ζ ρ vs ys)
  (ho:h.get? D=some o) (hl:LstIs o ys.toArray) (off:Off C h₀ ζ ρ D) (hsys:D≠sysModules) (hnew:hs.get? D=none) (dm : ∀ a,hs.get? a≠none→h.get? a≠none) :
  ∃ ζ' ρ',Gr C.T hs ζ ρ h ζ' ρ'∧Rel C h₀ ζ' ρ' st' h∧VR C.W ζ' ρ' v (.ref D):=by
 refine byC fun hG=>?_
 obtain⟨ζ',ρ',h1,h2,h3,_⟩:=list_adopt2 rel hc e r ho hl off hsys hnew dm
 refine hG ?_
 clear hG
 exact⟨ζ',ρ',h1,h2,h3⟩
theorem Rel.swapL{h₀ ζ:HM}{ρ:RM}{st:St}{h h':Heap}{D:Addr}(R:Rel C h₀ ζ ρ st h)(off:Off C h₀ ζ ρ D)(hs:Xw D h h'):Rel C h₀ ζ ρ st h' :=
 R.off (· =D) (fun b o hb q=>(hs.2 b hb).trans q) (fun b q=>q▸⟨off.z,off.k,off.r⟩) off.p
structure CompEnd(C:Cx)(h₀ ζ₁:HM)(ρ₁:RM)(h₁:Heap)(j:Nat)(acc:List V)(s3:St)(ζ2:HM)(ρ2:RM)(g:Heap)(D L:Addr)(ys:Array Value)(nD:Nat):Prop where
 rel:Rel C h₀ ζ2 ρ2 {s3 with loc:=upd s3.loc j none} g
 gr:Gr C.T h₁ ζ₁ ρ₁ g ζ2 ρ2
 offL:Off C h₀ ζ2 ρ2 L
 offD:Off C h₀ ζ2 ρ2 D
 ne:D≠L
 d:g.get? D=some {cls:=.type "list",data:=.seq ys nD}
 new:h₁.get? D=none
 newL:h₁.get? L=none
 sys:D≠sysModules
 vals:VRs C.W ζ2 ρ2 acc ys.toList
 ns : ∃ m,g.Ns L m
theorem Rel.compIn{scope:Scope}{cl:List (Str×Addr)}{x:Str}{j:Nat}{L:Addr}{h₀ ζ:HM}{ρ:RM}{st:St}{h:Heap}(rel4:Rel C h₀ ζ ρ st h)(hj:C.pl j=none)(offL:Off C h₀ ζ ρ L)(hns : ∃ m,h.Ns L m):Rel (compCx C scope cl x j L) h₀ ζ ρ st h:=by
 refine⟨rel4.toSRel,rel4.fresh,rel4.mid,fun i u q=>?_,fun i pl q=>?_,fun i pl q=>?_,fun i i' pl q q'=>?_⟩
 ·obtain⟨pl,y,a1,a2,a3⟩:=rel4.var i u q
  refine⟨pl,y,?_,a2,a3⟩
  show upd C.pl j _ i=_
  rw [upd_ne _ _ (fun w=>by rw [w,hj] at a1;injection a1)];exact a1
 ·by_cases w:i=j
  ·subst w
   have:upd C.pl i (some (.loc L x)) i=some pl:=q
   rw [Zc] at this;injection this;exact hns
  ·have:upd C.pl j (some (.loc L x)) i=some pl:=q
   rw [upd_ne _ _ w] at this;exact rel4.plok i pl this
 ·by_cases w:i=j
  ·subst w
   have:upd C.pl i (some (.loc L x)) i=some pl:=q
   rw [Zc] at this;injection this;exact⟨offL.z,offL.k,offL.r⟩
  ·have:upd C.pl j (some (.loc L x)) i=some pl:=q
   rw [upd_ne _ _ w] at this;exact rel4.ploff i pl this
 ·have q1:upd C.pl j (some (.loc L x)) i=some pl:=q
  have q2:upd C.pl j (some (.loc L x)) i'=some pl:=q'
  by_cases w:i=j
  ·by_cases w':i'=j
   ·rw [w,w']
   ·rw [w,Zc] at q1;injection q1
    rw [upd_ne _ _ w'] at q2;exact absurd rfl (offL.p i' _ q2)
  ·by_cases w':i'=j
   ·rw [w',Zc] at q2;injection q2
    rw [upd_ne _ _ w] at q1;exact absurd rfl (offL.p i _ q1)
   ·rw [upd_ne _ _ w] at q1;rw [upd_ne _ _ w'] at q2;exact rel4.plinj i i' pl q1 q2
theorem Off.compIn{scope:Scope}{cl:List (Str×Addr)}{x:Str}{j:Nat}{L I:Addr}{h₀ ζ:HM}{ρ:RM}(off:Off C h₀ ζ ρ I)(hIL:I≠L):Off (compCx C scope cl x j L) h₀ ζ ρ I:=⟨off.z,off.k,off.r,fun i pl q=>by
 have q:upd C.pl j (some (.loc L x)) i=some pl:=q
 by_cases w:i=j
 ·subst w
  rw [Zc] at q;injection q;exact fun w=>hIL w.symm
 ·rw [upd_ne _ _ w] at q;exact off.p i pl q⟩
theorem Off.compOut{scope:Scope}{cl:List (Str×Addr)}{x:Str}{j:Nat}{L I:Addr}{h₀ ζ:HM}{ρ:RM}(off:Off (compCx C scope cl x j L) h₀ ζ ρ I)(hj:C.pl j=none):Off C h₀ ζ ρ I:=⟨off.z,off.k,off.r,fun i pl q=>off.p i pl (by
 show upd C.pl j _ i=_
 rw [upd_ne _ _ (fun w=>by rw [w,hj] at q;injection q)];exact q)⟩
theorem Rel.compOut{scope:Scope}{cl:List (Str×Addr)}{x:Str}{j:Nat}{L:Addr}{h₀ ζ:HM}{ρ:RM}{s3:St}{g:Heap}(rel6:Rel (compCx C scope cl x j L) h₀ ζ ρ s3 g)(hj:C.pl j=none)(inj : ∀ i i' pl,C.pl i=some pl→C.pl i'=some pl→i=i'):Rel C h₀ ζ ρ {s3 with loc:=upd s3.loc j none} g:=by
 have a1 : ∀ i pl,C.pl i=some pl→(compCx C scope cl x j L).pl i=some pl:=fun i pl q=>by
  show upd C.pl j _ i=_
  rw [upd_ne _ _ (fun w=>by rw [w,hj] at q;injection q)];exact q
 refine⟨rel6.toSRel,rel6.fresh,rel6.mid,fun i u q=>?_,fun i pl q=>rel6.plok i pl (a1 i pl q),fun i pl q=>rel6.ploff i pl (a1 i pl q),inj⟩
 by_cases w:i=j
 ·subst w;simp only [Zc] at q;injection q
 ·simp only [upd_ne _ _ w] at q
  refine byC fun hG=>?_
  obtain⟨pl,y,b1,b2,b3⟩:=rel6.var i u q
  refine hG ?_
  clear hG
  have b1:upd C.pl j (some (.loc L x)) i=some pl:=b1
  rw [upd_ne _ _ w] at b1
  exact⟨pl,y,b1,b2,b3⟩
inductive CompI(C CC:Cx)(h₀ ζ1:HM)(ρ1:RM)(h4:Heap)(s:Shared)(v:V)(xv:Value)(I D:Addr)(j:Nat)(mt:M Bool)(me:M V)(r:List V×St)(n:Nat)(s':Shared):Prop
 |mk (ζ2:HM) (ρ2:RM) (st2:St) (g2:Heap) (tk2:Tok) (i:Nat) (ac:List V) (ys:Array Value) (o:Obj) (e:s'={s with heap:=g2,toks:=tk2}) (G:Gr C.T h4 ζ1 ρ1 g2 ζ2 ρ2) (rel:Rel CC h₀ ζ2 ρ2 st2 g2) (rv:VR C.W ζ2 ρ2 v xv) (ho:g2.get? I=some o) (hj:JSeq v xv i o)
  (oI:Off CC h₀ ζ2 ρ2 I) (oD:Off CC h₀ ζ2 ρ2 D) (pl:g2.PlainList D ys) (hac:VRs C.W ζ2 ρ2 ac ys.toList) (e1:M.compN (seqItems v) (fun u=>M.setL j u) mt me n i ac st2=some r)
theorem comp_core{use:Option (Value→Sem Unit)}{elt iter:PySem.Expr}{x:Str}{px:Pos}{ifs:List PySem.Expr}{scope:Scope}{pos pos':Pos}{cl:List (Str×Addr)}{j:Nat}{mi:M V}{mt:M Bool}{me:M V}
  (hi:SimE C (eval iter C.env) mi) (hj:C.pl j=none) (hclos:closureFor scope C.env=pure cl)
  (ht : ∀ L,SimT (compCx C scope cl x j L) ifs mt) (he : ∀ L,SimE (compCx C scope cl x j L) (eval elt (compEnvC scope cl L C.env)) me)
  (hkind:scope.kind = .function) (hx:scope.names.lookup x=some .local)
  (hnames:(scope.names.all fun y=>y.2 != .cell&&(y.2 != .local||scope.names.lookup y.1==some .local))=true)
  (hs : ∀ x,foldedSetIterable iter C.env x=pure x) {h₀ ζ:HM} {ρ:RM} {st:St} {s:Shared} {P:Value→Shared→Prop} {E:Value→Shared→Prop} (ok:C.Ok) (rel:Rel C h₀ ζ ρ st s.heap) {v:V} {s1 s3:St} {acc xs0:List V}
  (e1:mi st=some (v,s1)) (hst:v.stays C.T=true) (hx0:seqItems v s1=some xs0) (e4:M.compN (seqItems v) (fun u=>M.setL j u) mt me (xs0.length+1) 0 [] s1=some (acc,s3))
  (hend : ∀ ζ1 ρ1 h1 ζ2 ρ2 g tk D L ys nD f,Gr C.T s.heap ζ ρ h1 ζ1 ρ1→CompEnd C h₀ ζ1 ρ1 h1 j acc s3 ζ2 ρ2 g D L ys nD→compPost (model C.W.prog C.W.w) C.A E use P (.ref D) L (.ok f) {s with heap:=g,toks:=tk}) :
  wpAny (model C.W.prog C.W.w) C.A (comprehension (.ListComp elt [⟨.Name x px,iter,ifs,0⟩] scope pos) scope C.env pos' (newList []) false (eval iter C.env) use) P E s:=by
 have hcell : ∀ y∈scope.names,y.2≠ .cell:=fun y hy q=>by
  have:=List.all_eq_true.mp hnames y hy
  rw [q] at this;simp at this
 have hloc : ∀ y∈scope.names,y.2 = .local→scope.names.lookup y.1=some .local:=fun y hy q=>by
  have:=List.all_eq_true.mp hnames y hy
  rw [q] at this;simpa using this
 refine wpAny_comprehension_free (use:=use) (g:=⟨.Name x px,iter,ifs,0⟩) (gs := []) rfl hs hclos hkind hloc ?_
 refine hi h₀ ζ ρ st s _ E ok rel v s1 e1 fun ζ1 ρ1 h1 tk1 xv G1 rel1 r1=>?_
 refine(Src.seq v).start h₀ ζ1 ρ1 s1 _ _ _ xv xs0 ok rel1 r1 hx0 fun o0 hj0 hf0=>?_
 have hI0:(h1.push o0).get? h1.objs.size=some o0:=Xs h1 hf0
 have offI:=rel1.offNew (get_size h1)
 have sysI:=rel1.not_sys (Yy _)
 have rel2:=rel1.push o0
 generalize hI:h1.objs.size=I at *
 generalize hH2:h1.push o0=h2 at *
 have hIlt:I<h2.objs.size:=Xv hI0
 refine wpAny_newObj_type ?_
 dsimp only
 have hD0:(h2.push {cls:=.type "list",data:=.seq ([]:List Value).toArray}).get? h2.objs.size=some {cls:=.type "list",data:=.seq ([]:List Value).toArray}:=Xs h2 rfl
 have offD:=rel2.offNew (get_size h2)
 have sysD:=rel2.not_sys (Yy _)
 have hDnone:h2.get? h2.objs.size=none:=get_size h2
 have rel3:=rel2.push {cls:=.type "list",data:=.seq ([]:List Value).toArray}
 have keep3:=Zo h2 {cls:=.type "list",data:=.seq ([]:List Value).toArray}
 generalize hD:h2.objs.size=D at *
 generalize hH3:h2.push {cls:=.type "list",data:=.seq ([]:List Value).toArray}=h3 at *
 have hDlt:D<h3.objs.size:=Xv hD0
 have hI3:h3.get? I=some o0:=keep3 _ _ hI0
 have hID:I≠D:=Yu hIlt
 refine wpAny_newFunctionEnv hcell (by intro y hy;simp at hy) (fun h4 hns hsb=>?_) hkind
 dsimp only at hns hsb ⊢
 have offL:=rel3.offNew (get_size h3)
 have keep4 : ∀ b o,h3.get? b=some o→h4.get? b=some o:=fun b o q=>hsb.extBut b o (Yu (Xv q)) (Xu _ q)
 have rel4:Rel C h₀ ζ1 ρ1 s1 h4:=rel3.off (fun _=>False) (fun b o _ q=>keep4 b o q) (fun _ q=>q.elim) (fun _ _ _ q=>q)
 have hI4:=keep4 _ _ hI3
 have hD4:=keep4 _ _ hD0
 have hIL:I≠h3.objs.size:=Yu (Xv hI3)
 have hDL:D≠h3.objs.size:=Yu hDlt
 generalize hLq:h3.objs.size=L at *
 have hcx : ∀ (env':Env),True:=fun _=>trivial
 have okC:(compCx C scope cl x j L).Ok:=⟨ok.room,hkind,ok.glob,ok.bins,ok.bt,ok.b100⟩
 have relC:Rel (compCx C scope cl x j L) h₀ ζ1 ρ1 s1 h4:=rel4.compIn hj offL ⟨_,hns⟩
 have offIC:Off (compCx C scope cl x j L) h₀ ζ1 ρ1 I:=offI.compIn hIL
 have offDC:Off (compCx C scope cl x j L) h₀ ζ1 ρ1 D:=offD.compIn hDL
 have hnone : ∀ b,h1.get? b≠none→b≠I∧b≠D∧b≠L:=by
  intro b q
  have l1:b<h1.objs.size:=by
   cases w:h1.get? b with
   |none=>exact absurd w q
   |some o=>exact Xv w
  have l2:b<I:=hI▸l1
  have l3:b<D:=Yt l2 hIlt
  exact⟨Yu l2,Yu l3,Yu (Yt l3 hDlt)⟩
 have dm4 : ∀ b,h1.get? b≠none→h4.get? b≠none:=by
  intro b q
  cases w:h1.get? b with
  |none=>exact absurd w q
  |some o =>
   have:h2.get? b=some o:=by rw [←hH2];exact Zo _ _ _ _ w
   rw [keep4 _ _ (keep3 _ _ this)];exact Xk _
 have main : ∀ s':Shared,s'={s with heap:=h4,toks:=tk1+([]:List (Str×Value)).length}→
   codeAny (model C.W.prog C.W.w) C.A (.compLoop (.ListComp elt [⟨.Name x px,iter,ifs,0⟩] scope pos) 0 (.ref I) (.ref D) (compEnvC scope cl L C.env)) (compPost (model C.W.prog C.W.w) C.A E use P (.ref D) L) s':=by
  rintro s' rfl
  refine codeAny_compLoop_tests (CompI C (compCx C scope cl x j L) h₀ ζ1 ρ1 h4 s v xv I D j mt me (acc,s3)) (fun n s' hInv=>?_) (xs0.length+1)
   ⟨ζ1,ρ1,s1,h4,_,0,[],#[],o0,rfl,Gr.refl _ _ _ _,relC,r1,hI4,hj0,offIC,offDC,⟨0,hD4⟩,rfl,e4⟩
  refine byC fun hG=>?_
  obtain⟨ζ2,ρ2,st2,g2,tk2,i,ac,ys,o,rfl,G2,rel5,r5,ho,hjj,oI,oD,⟨nD,hD5⟩,hac,e8⟩:=hInv
  refine hG ?_
  clear hG
  cases n with
  |zero=>injection e8
  |succ n =>
   ·obtain⟨xs,hxs,e8⟩:=ob (f:=fun xs=>Option.elim (xs[i]?) _ _) e8
    refine(Src.seq (C:=compCx C scope cl x j L) v).next h₀ ζ2 ρ2 st2 _ _ _ xv xs I i o okC rel5 r5 hxs ho hjj oI (fun u y g3 o3 tk3 hu hr hs3 ho3 hj3=>?_) (fun hn g3 hs3=>?_)
    ·rw [hu] at e8
     dsimp only [Option.elim_some] at e8
     refine byC fun hG=>?_
     obtain⟨_,s5,e9,e10⟩:=W6 e8
     obtain⟨b,s6,e11,e12⟩:=W6 e10
     refine hG ?_
     clear hG
     have rel6:Rel (compCx C scope cl x j L) h₀ ζ2 ρ2 st2 g3:=rel5.off (· =I) (fun b o hb q=>same_off hs3 b o hb q) (fun b q=>q▸⟨oI.z,oI.k,oI.r⟩) oI.p
     have hD6:g3.get? D=some {cls:=.type "list",data:=.seq ys nD}:=(hs3.2 D (Ne.symm hID)).trans hD5
     have G3:Gr C.T h4 ζ1 ρ1 g3 ζ2 ρ2:=G2.trans (Gr.heap fun b q=>by
      by_cases q':b=I
      ·subst q';rw [ho3];exact Xk _
      ·rw [hs3.2 b q'];exact q)
     have relK:=(rel6.addK ho3 ⟨oI.z,oI.k,oI.r⟩ oI.p).addK hD6 ⟨oD.z,by rw [upd_ne _ _ (Ne.symm hID)];exact oD.k,oD.r⟩ oD.p
     have leK:Le h₀ (upd (upd h₀ I (some o3)) D (some {cls:=.type "list",data:=.seq ys nD})):=(upd_le oI.k).trans (upd_le (by rw [upd_ne _ _ (Ne.symm hID)];exact oD.k))
     have hpl:(compCx C scope cl x j L).pl j=some (.loc (compCx C scope cl x j L).env.locals x):=Zc _ _ _
     have hkd:(compCx C scope cl x j L).env.kindOf x=some .local:=lookup_relabel_local hx
     refine wpAny_assign_Name (Z3 hkd hpl _ ζ2 ρ2 st2 _ _ _ u y okC relK hr () s5 e9 fun ζ5 ρ5 g5 tk5 _ G5 rel7 _=>?_)
     refine ht L _ ζ5 ρ5 s5 _ _ _ okC rel7 b s6 e11 fun ζ6 ρ6 g6 tk6 b' G6 rel8 rb=>?_
     injection rb
     have G56:Gr C.T g3 ζ2 ρ2 g6 ζ6 ρ6:=G5.trans G6
     cases b with
     |false =>
      rw [if_neg Bool.false_ne_true] at e12 ⊢
      have hI6:g6.get? I=some o3:=rel8.kept _ _ (by rw [upd_ne _ _ hID];exact Zc _ _ _)
      have hD7:g6.get? D=some {cls:=.type "list",data:=.seq ys nD}:=rel8.kept _ _ (Zc _ _ _)
      exact⟨n,X2 n,ζ6,ρ6,s6,g6,tk6,i+1,ac,ys,o3,rfl,G3.trans G56,rel8.dropK leK rel.good,VR.gr rel6 G56 r5,hI6,hj3,oI.gr G56 (by rw [ho3];exact Xk _),oD.gr G56 (by rw [hD6];exact Xk _),⟨nD,hD7⟩,VRs.mono G56.zl (Gr.le rel6 G56).low _ _ hac,e12⟩
     |true =>
      rw [if_pos rfl] at e12 ⊢
      refine byC fun hG=>?_
      obtain⟨w,s7,e13,e14⟩:=W6 e12
      obtain⟨_,s8,e15,e16⟩:=W6 e14
      obtain⟨hg,hs8⟩:=W7 e15
      injection hs8
      refine hG ?_
      clear hG
      simp only [W4,decide_eq_true_eq] at hg
      refine he L _ ζ6 ρ6 s6 _ _ _ okC rel8 w s7 e13 fun ζ7 ρ7 g7 tk7 z G7 rel9 rz=>?_
      have G57:Gr C.T g3 ζ2 ρ2 g7 ζ7 ρ7:=G56.trans G7
      have hI7:g7.get? I=some o3:=rel9.kept _ _ (by rw [upd_ne _ _ hID];exact Zc _ _ _)
      have hD7:g7.get? D=some {cls:=.type "list",data:=.seq ys nD}:=rel9.kept _ _ (Zc _ _ _)
      have rel9':=rel9.dropK leK rel.good
      have oI7:=oI.gr G57 (by rw [ho3];exact Xk _)
      have oD7:=oD.gr G57 (by rw [hD6];exact Xk _)
      have hac7:=VRs.mono G57.zl (Gr.le rel6 G57).low _ _ hac
      have hlen:ys.size=ac.length:=by rw [←hac.length];simp
      refine wpAny_list_append_plain ⟨nD,hD7⟩ (fun g8 hD8 hs8=>?_) (by rw [hlen];exact lim_le (Yw hg.2))
      have rel10:Rel (compCx C scope cl x j L) h₀ ζ7 ρ7 s7 g8:=rel9'.off (· =D) (fun b o hb q=>same_off hs8 b o hb q) (fun b q=>q▸⟨oD7.z,oD7.k,oD7.r⟩) oD7.p
      have G8:Gr C.T g3 ζ2 ρ2 g8 ζ7 ρ7:=G57.trans (Gr.heap fun b q=>by
       by_cases q':b=D
       ·subst q';obtain⟨m',hm'⟩:=hD8;rw [hm'];exact Xk _
       ·rw [hs8.2 b q'];exact q)
      exact⟨n,X2 n,ζ7,ρ7,s7,g8,tk7,i+1,ac ++ [w],ys.push z,o3,rfl,G3.trans G8,rel10,VR.gr rel6 G57 r5,(hs8.2 I hID).trans hI7,hj3,oI7,oD7,hD8,by simpa using hac7.snoc hg.1 rz,e16⟩
    ·rw [hn] at e8
     injection e8
     have rel6:Rel (compCx C scope cl x j L) h₀ ζ2 ρ2 s3 g3:=rel5.off (· =I) (fun b o hb q=>hs3 b o hb q) (fun b q=>q▸⟨oI.z,oI.k,oI.r⟩) oI.p
     have hD6:g3.get? D=some {cls:=.type "list",data:=.seq ys nD}:=hs3 D _ (Ne.symm hID) hD5
     obtain⟨mL,hnL⟩:=rel6.plok j (.loc L x) (Zc _ _ _)
     have hDL':D≠L:=hDL
     have lpl : ∀ i pl,C.pl i=some pl→pl.addr≠L:=fun i pl q=>offL.p i pl q
     have oL:=rel6.ploff j (.loc L x) (Zc _ _ _)
     have relB:Rel C h₀ ζ2 ρ2 {s3 with loc:=upd s3.loc j none} g3:=rel6.compOut hj rel.plinj
     have oDB:Off C h₀ ζ2 ρ2 D:=oD.compOut hj
     have dmB : ∀ b,h1.get? b≠none→g3.get? b≠none:=fun b q=>by
      obtain⟨n1,n2,n3⟩:=hnone b q
      cases w:g2.get? b with
      |none=>exact absurd w (G2.dm b (dm4 b q))
      |some o'=>rw [hs3 b o' n1 w];exact Xk _
     have hDn:h1.get? D=none:=by
      cases w:h1.get? D with
      |none=>rfl
      |some o=>have:=(hnone D (by rw [w];exact Xk _)).2.1;exact absurd rfl this
     have hLn:h1.get? L=none:=by
      cases w:h1.get? L with
      |none=>rfl
      |some o=>have:=(hnone L (by rw [w];exact Xk _)).2.2;exact absurd rfl this
     have G12:Gr C.T h1 ζ1 ρ1 g3 ζ2 ρ2:=by
      have dn : ∀ b,h4.get? b=none→h1.get? b=none:=fun b q=>Xr fun q'=>dm4 b q' q
      exact⟨G2.zl,G2.rl,fun a o q=>(G2.zn a o q).imp id (dn a),fun n a q=>(G2.rn n a q).imp id (dn a),dmB⟩
     exact hend ζ1 ρ1 h1 ζ2 ρ2 g3 tk2 D L ys nD _ G1 ⟨relB,G12,⟨oL.1,oL.2.1,oL.2.2,lpl⟩,oDB,hDL',hD6,hDn,hLn,sysD,hac,mL,hnL⟩
 exact codeAny_compStart_list (main _ rfl) ((Src.seq (C:=C) v).self _ _ _ xv I 0 o0 hI4 hj0 (main _ rfl))
theorem Yj{elt iter:PySem.Expr}{x:Str}{px:Pos}{ifs:List PySem.Expr}{scope:Scope}{pos:Pos}{cl:List (Str×Addr)}{j:Nat}{mi:M V}{mt:M Bool}{me:M V}(c:Option Nat)(hc:okSlot C c)
  (hi:SimE C (eval iter C.env) mi) (hj:C.pl j=none) (hclos:closureFor scope C.env=pure cl)
  (ht : ∀ L,SimT (compCx C scope cl x j L) ifs mt) (he : ∀ L,SimE (compCx C scope cl x j L) (eval elt (compEnvC scope cl L C.env)) me)
  (hkind:scope.kind = .function:=by rfl) (hx:scope.names.lookup x=some .local:=by rfl)
  (hnames:(scope.names.all fun y=>y.2 != .cell&&(y.2 != .local||scope.names.lookup y.1==some .local))=true:=by rfl)
  (hs : ∀ x,foldedSetIterable iter C.env x=pure x:=by intro _;rfl) :
  SimE C (eval (.ListComp elt [⟨.Name x px,iter,ifs,0⟩] scope pos) C.env) (do let v←mi;M.guard (v.stays C.T);M.comp c v j mt me):=by
 intro h₀ ζ ρ st s P E ok rel a st' e k
 refine byC fun hG=>?_
 obtain⟨v,s1,e1,e⟩:=W6 e
 obtain⟨_,s2,e2,e3⟩:=W6 e
 obtain⟨hst,hs2⟩:=W7 e2
 injection hs2
 refine hG ?_
 clear hG
 unfold M.comp at e3
 refine byC fun hG=>?_
 obtain⟨acc,s3,e4,e5⟩:=W6 e3
 obtain⟨_,s4,e6,e7⟩:=W6 e5
 injection e6
 obtain⟨xs0,hx0,e4⟩:=ob e4
 refine hG ?_
 clear hG
 rw [eval_ListComp]
 refine comp_core (use:=none) hi hj hclos ht he hkind hx hnames hs ok rel e1 hst hx0 e4 fun ζ1 ρ1 h1 ζ2 ρ2 g tk D L ys nD f G1 X=>?_
 obtain⟨m,hm⟩:=X.ns
 refine⟨m,hm,fun g4 hs4=>?_⟩
 have relB:=X.rel.swapL X.offL hs4
 have hD8:=(hs4.2 D X.ne).trans X.d
 have dmB : ∀ b,h1.get? b≠none→g4.get? b≠none:=fun b q=>by
  rw [hs4.2 b (fun q'=>q (by rw [q'];exact X.newL))]
  exact X.gr.dm b q
 refine byC fun hG=>?_
 obtain⟨ζ',ρ',G9,R9,V9⟩:=list_adopt relB hc e7 X.vals hD8 ⟨nD,rfl⟩ X.offD X.sys X.new dmB
 refine hG ?_
 clear hG
 have G19:Gr C.T h1 ζ1 ρ1 g4 ζ' ρ':=⟨X.gr.zl.trans G9.zl,fun n a q1 q2=>G9.rl n a q1 (X.gr.rl n a q1 q2),fun a o q=>(G9.zn a o q).elim (X.gr.zn a o) .inr,fun n a q=>(G9.rn n a q).elim (X.gr.rn n a) .inr,dmB⟩
 exact k ζ' ρ' g4 tk _ (G1.trans G19) R9 V9
theorem Y7{elt iter:PySem.Expr}{x y:Str}{px py:Pos}{ifs:List PySem.Expr}{scope:Scope}{pos spos:Pos}{cl:List (Str×Addr)}{i j:Nat}{mi:M V}{mt:M Bool}{me:M V}(c:Option Nat)(hc:okSlot C c)
  (hi:SimE C (eval iter C.env) mi) (hj:C.pl j=none) (hclos:closureFor scope C.env=pure cl)
  (ht : ∀ L,SimT (compCx C scope cl x j L) ifs mt) (he : ∀ L,SimE (compCx C scope cl x j L) (eval elt (compEnvC scope cl L C.env)) me) (hst:SimSt C y i)
  (hsw:swapsWith (.ListComp elt [⟨.Name x px,iter,ifs,0⟩] scope pos) (some (.Name y py)) spos.line C.env=pure true:=by rfl)
  (hkind:scope.kind = .function:=by rfl) (hx:scope.names.lookup x=some .local:=by rfl)
  (hnames:(scope.names.all fun y=>y.2 != .cell&&(y.2 != .local||scope.names.lookup y.1==some .local))=true:=by rfl)
  (hs : ∀ x,foldedSetIterable iter C.env x=pure x:=by intro _;rfl) :
  SimF C (exec (.Assign [.Name y py] (.ListComp elt [⟨.Name x px,iter,ifs,0⟩] scope pos) spos) C.env) (do let v←(do let v←mi;M.guard (v.stays C.T);M.comp c v j mt me);M.setL i v;pure .next):=by
 intro h₀ ζ ρ st s P E ok rel a st' e k
 refine byC fun hG=>?_
 obtain⟨w,s5,e0,e8⟩:=W6 e
 obtain⟨_,s6,e9,e10⟩:=W6 e8
 injection e10
 obtain⟨v,s1,e1,e⟩:=W6 e0
 obtain⟨_,s2,e2,e3⟩:=W6 e
 obtain⟨hstay,hs2⟩:=W7 e2
 injection hs2
 refine hG ?_
 clear hG
 unfold M.comp at e3
 refine byC fun hG=>?_
 obtain⟨acc,s3,e4,e5⟩:=W6 e3
 obtain⟨_,s4,e6,e7⟩:=W6 e5
 injection e6
 obtain⟨xs0,hx0,e4⟩:=ob e4
 refine hG ?_
 clear hG
 rw [exec_Assign_Name_used _ _ _ _ hsw]
 refine Xy (wpAny_standAt (Xy ?_))
 show wpAny _ C.A (do let _←comprehension (.ListComp elt [⟨.Name x px,iter,ifs,0⟩] scope pos) scope C.env _ (newList []) false (eval iter C.env) (some (assign (.Name y py) C.env))) _ _ s
 refine Xy (wpAny_mono (comp_core (use:=some (assign (.Name y py) C.env)) (P:=fun _ s'=>P .next s') hi hj hclos ht he hkind hx hnames hs ok rel e1 hstay hx0 e4 fun ζ1 ρ1 h1 ζ2 ρ2 g tk D L ys nD f G1 X=>?_) (fun _ s' hq=>Xz (Xz hq)) fun _ _ e=>e)
 refine byC fun hG=>?_
 obtain⟨ζ',ρ',G9,R9,V9,Z9,Q9⟩:=list_adopt2 X.rel hc e7 X.vals X.d ⟨nD,rfl⟩ X.offD X.sys X.new X.gr.dm
 refine hG ?_
 clear hG
 have G19:Gr C.T h1 ζ1 ρ1 g ζ' ρ':=⟨X.gr.zl.trans G9.zl,fun n a q1 q2=>G9.rl n a q1 (X.gr.rl n a q1 q2),fun a o q=>(G9.zn a o q).elim (X.gr.zn a o) .inr,fun n a q=>(G9.rn n a q).elim (X.gr.rn n a) .inr,X.gr.dm⟩
 refine byC fun hG=>?_
 obtain⟨m,hm⟩:=X.ns
 obtain⟨oL,es,ep,hoL,hL2⟩:=id hm
 refine hG ?_
 clear hG
 have offL':Off C h₀ ζ' ρ' L:=⟨(Z9 L X.ne.symm).trans X.offL.z,X.offL.k,fun n q=>X.offL.r n (Q9 n L X.ne.symm q),X.offL.p⟩
 have relK:=R9.addK hoL ⟨offL'.z,offL'.k,offL'.r⟩ offL'.p
 show wpAny _ _ (assign (.Name y py) C.env (.ref D)) _ _ _
 refine SimA.name hst _ ζ' ρ' s5 _ _ _ w (.ref D) ok relK V9 () st' e9 fun ζ6 ρ6 h6 tk6 _ G6 rel6 _=>?_
 have hoL6:h6.get? L=some oL:=rel6.kept _ _ (Zc _ _ _)
 refine⟨m,⟨oL,es,ep,hoL6,hL2⟩,fun h7 hs7=>?_⟩
 have offL6:Off C h₀ ζ6 ρ6 L:=Off.gr offL' G6 (by rw [hoL];exact Xk _)
 have rel7:=(rel6.dropK (upd_le offL'.k) rel.good).swapL offL6 hs7
 refine k ζ6 ρ6 h7 tk6 _ (Gr.weak ?_ ok.bt) rel7 rfl
 have G16:=G19.trans G6
 exact G1.trans ⟨G16.zl,G16.rl,G16.zn,G16.rn,fun b q=>by
  rw [hs7.2 b (fun q'=>q (by rw [q'];exact X.newL))]
  exact G16.dm b q⟩
end Lay
namespace Lay
variable{C:Cx}
theorem vFloorDiv_K:SimK2 C (binaryOp .FloorDiv) vFloorDiv (VR C.W):=vInt2G_K fun _ _ _ _ a b _ _ hg h=>by
 simp only [W4,decide_eq_true_eq] at hg
 refine floordiv_int hg.1 h (.inl (PyProof.noPylong_of_log2 (by have:b.natAbs.log2<63:=(Nat.log2_lt (by exact ar36 hg)).mpr hg.2;exact ar37 this)))
noncomputable def vAdd(c:Option Nat)(a b:V):M V:=fun s=>((un V.int a).bind fun i=>(un V.int b).bind fun j=>some (.int (i+j),s)).or ((lView a s).bind fun xs=>(lView b s).bind fun ys=>mkList c (xs++ys) s)
theorem vAdd_K{c:Option Nat}(hc:okSlot C c):SimK2 C (binaryOp .Add) (vAdd c) (VR C.W):=by
 intro h₀ ζ ρ st s P E a b x y ok rel ra rb v st' e k
 rcases oro e with e|e
 ·refine byC fun hG=>?_
  obtain⟨i,q1,e⟩:=ob e
  obtain⟨j,q2,e⟩:=ob e
  rw [Zk q1] at ra
  rw [Zk q2] at rb
  obtain⟨t,rfl⟩:=ra
  obtain⟨u,rfl⟩:=rb
  injection e
  exact hG (add_int (k ζ ρ s.heap _ _ (Gr.refl _ _ _ _) rel (Exists.intro _ rfl)))
 ·refine byC fun hG=>?_
  obtain⟨xs,q1,e⟩:=ob e
  obtain⟨ys,q2,e⟩:=ob e
  obtain⟨ax,vs,n,rfl,h1,r1⟩:=lView_obj rel q1 ra
  obtain⟨ay,ws,n2,rfl,h2,r2⟩:=lView_obj rel q2 rb
  refine hG ?_
  clear hG
  have hl:(xs++ys).length≤lim:=by
   refine byC fun hG=>?_
   obtain⟨_,s2,e3,e4⟩:=W6 e
   obtain⟨hg,_⟩:=W7 e3
   refine hG ?_
   clear hG
   simp only [W4,decide_eq_true_eq] at hg;exact hg.2
  have hz:vs.size+ws.size≤sizeLine:=by
   have e1:vs.size=xs.length:=by rw [←r1.length];simp
   have e2:ws.size=ys.length:=by rw [←r2.length];simp
   rw [e1,e2,←X6];exact lim_le hl
  refine concat_meets ⟨_,h1,rfl⟩ ⟨_,h2,rfl⟩ noFill_list_add seq_list_add PySem.F.slot_list_add PySem.F.entry_list_add (PySem.F.args_list_add_2 _ _) (list_addW ax ay vs ws n n2 none none #[] #[] hz) ⟨h1,h2,?_⟩
  refine byC fun hG=>?_
  obtain⟨ζ',ρ',G',R',hv⟩:=list_made (o:={cls:=.type "list",data:=.seq (vs++ws)}) (ys:=vs.toList++ws.toList) rel hc e (r1.append r2).toA ⟨0,by simp⟩ rfl
  refine hG ?_
  clear hG
  exact k _ _ _ _ _ G' R' hv
noncomputable def vUpto(c:Option Nat)(v i:V):M V:=fun s=>(lView v s).bind fun xs=>(un V.int i).bind fun k=>if 0≤k∧xs.length≤lim then mkList c (xs.take k.toNat) s else none
noncomputable def vFrom(c:Option Nat)(v i:V):M V:=fun s=>(lView v s).bind fun xs=>(un V.int i).bind fun k=>if 0≤k∧xs.length≤lim then mkList c (xs.drop k.toNat) s else none
theorem Sim_Upto{value u:PySem.Expr}{p pos:Pos}{m1 m2:M V}(c:Option Nat)(hc:okSlot C c)(h1:SimE C (eval value C.env) m1)(h2:SimE C (eval u C.env) m2)(hs : ∀ o i,subscripted (.Slice none (some u) none p) false o i=operate [i,o] (getItem o i):=by intro _ _;with_unfolding_all rfl) :
  SimE C (eval (.Subscript value (.Slice none (some u) none p) pos) C.env) (do let a←m1;let b←m2;vUpto c a b):=by
 intro h₀ ζ ρ st s P E ok rel v st' e k
 refine byC fun hG=>?_
 obtain⟨a,s1,e1,e⟩:=W6 e
 obtain⟨b,s2,e2,e3⟩:=W6 e
 refine hG ?_
 clear hG
 refine Subscript_ (h1 h₀ ζ ρ st s _ E ok rel a s1 e1 fun ζ1 ρ1 h1' tk1 x G1 rel1 r1=>wpAny_Slice (wpAny_evalPart_none (wpAny_evalPart_some (h2 h₀ ζ1 ρ1 s1 _ _ E ok rel1 b s2 e2 fun ζ2 ρ2 h2' tk2 y G2 rel2 r2=>wpAny_evalPart_none ?_))))
 have r1':=VR.gr rel1 G2 r1
 refine byC fun hG=>?_
 obtain⟨xs,q,e3⟩:=ob e3
 obtain⟨kk,qk,e3⟩:=ob e3
 obtain⟨hg,e3⟩:=io e3
 obtain⟨l,ys,rfl,hl,hys⟩:=lView_at rel2 q r1'
 rw [Zk qk] at r2
 obtain⟨t,rfl⟩:=r2
 refine hG ?_
 clear hG
 have hz:ys.size=xs.length:=by rw [←hys.length];simp
 have hl':=hl.push {cls:=.type "slice",data:=.fields #[Value.none,.int kk t,.none]}
 refine tail_any hl'.typeIs list_getitem_lookup (wpAny_getItem_list_slice hl' (Heap.IsSliceOf.new ..) .none (.int kk t) .none (by simp) ?_ (hz▸lim_le hg.2)) (hs _ _)
 have ek:kk=((kk.toNat:Nat):Int):=by exact ar38 hg
 have hp:slicePick ys none (some kk) none=(ys.toList.take kk.toNat).toArray:=by
  conv=>lhs;rw [ek]
  exact slicePick_upto' ys _
 have rel3:=rel2.push {cls:=.type "slice",data:=.fields #[Value.none,.int kk t,.none]}
 have G3:Gr C.T h2' ζ2 ρ2 _ ζ2 ρ2:=Gr.push h2' {cls:=.type "slice",data:=.fields #[Value.none,.int kk t,.none]}
 refine byC fun hG=>?_
 obtain⟨ζ',ρ',G',R',hv⟩:=list_made (o:={cls:=.type "list",data:=.seq (slicePick ys none (some kk) none)}) rel3 hc e3 (hys.take kk.toNat).toA ⟨0,by rw [hp]⟩ rfl
 refine hG ?_
 clear hG
 exact k _ _ _ _ _ (((G1.trans G2).trans G3).trans G') R' hv
theorem Sim_From{value u:PySem.Expr}{p pos:Pos}{m1 m2:M V}(c:Option Nat)(hc:okSlot C c)(h1:SimE C (eval value C.env) m1)(h2:SimE C (eval u C.env) m2)(hs : ∀ o i,subscripted (.Slice (some u) none none p) false o i=operate [i,o] (getItem o i):=by intro _ _;with_unfolding_all rfl) :
  SimE C (eval (.Subscript value (.Slice (some u) none none p) pos) C.env) (do let a←m1;let b←m2;vFrom c a b):=by
 intro h₀ ζ ρ st s P E ok rel v st' e k
 refine byC fun hG=>?_
 obtain⟨a,s1,e1,e⟩:=W6 e
 obtain⟨b,s2,e2,e3⟩:=W6 e
 refine hG ?_
 clear hG
 refine Subscript_ (h1 h₀ ζ ρ st s _ E ok rel a s1 e1 fun ζ1 ρ1 h1' tk1 x G1 rel1 r1=>wpAny_Slice (wpAny_evalPart_some (h2 h₀ ζ1 ρ1 s1 _ _ E ok rel1 b s2 e2 fun ζ2 ρ2 h2' tk2 y G2 rel2 r2=>wpAny_evalPart_none (wpAny_evalPart_none ?_))))
 have r1':=VR.gr rel1 G2 r1
 refine byC fun hG=>?_
 obtain⟨xs,q,e3⟩:=ob e3
 obtain⟨kk,qk,e3⟩:=ob e3
 obtain⟨hg,e3⟩:=io e3
 obtain⟨l,ys,rfl,hl,hys⟩:=lView_at rel2 q r1'
 rw [Zk qk] at r2
 obtain⟨t,rfl⟩:=r2
 refine hG ?_
 clear hG
 have hz:ys.size=xs.length:=by rw [←hys.length];simp
 have hl':=hl.push {cls:=.type "slice",data:=.fields #[.int kk t,.none,.none]}
 refine tail_any hl'.typeIs list_getitem_lookup (wpAny_getItem_list_slice hl' (Heap.IsSliceOf.new ..) (.int kk t) .none .none (by simp) ?_ (hz▸lim_le hg.2)) (hs _ _)
 have ek:kk=((kk.toNat:Nat):Int):=by exact ar38 hg
 have hp:slicePick ys (some kk) none none=(ys.toList.drop kk.toNat).toArray:=by
  conv=>lhs;rw [ek]
  exact slicePick_from' ys _
 have rel3:=rel2.push {cls:=.type "slice",data:=.fields #[.int kk t,.none,.none]}
 have G3:Gr C.T h2' ζ2 ρ2 _ ζ2 ρ2:=Gr.push h2' {cls:=.type "slice",data:=.fields #[.int kk t,.none,.none]}
 refine byC fun hG=>?_
 obtain⟨ζ',ρ',G',R',hv⟩:=list_made (o:={cls:=.type "list",data:=.seq (slicePick ys (some kk) none none)}) rel3 hc e3 (hys.drop kk.toNat).toA ⟨0,by rw [hp]⟩ rfl
 refine hG ?_
 clear hG
 exact k _ _ _ _ _ (((G1.trans G2).trans G3).trans G') R' hv
noncomputable def M.sets:List Nat→List V→M Unit
 | [],[]=>pure ()
 |i::is,v::vs=>do M.setL i v;M.sets is vs
 |_,_=>M.fail
theorem M.sets_length : ∀ {is:List Nat} {vs:List V} {st:St} {r},M.sets is vs st=some r→is.length=vs.length
 | [],[],_,_,_=>rfl
 |_::_,_::_,_,_,h=>by obtain⟨_,_,_,h2⟩:=W6 h;simp [M.sets_length h2]
 | [],_::_,_,_,h=>by injection h
 |_::_,[],_,_,h=>by injection h
inductive SimSts(C:Cx):List (Value→Sem Unit)→List Nat→Prop
 |nil:SimSts C [] []
 |cons {t:Value→Sem Unit} {i:Nat} {ts:List (Value→Sem Unit)} {is:List Nat} (h:SimK C C.T (VR C.W) t (fun v=>M.setL i v) (fun _ _ _ _=>True)) (r:SimSts C ts is):SimSts C (t::ts) (i::is)
theorem SimSts.length{ts:List (Value→Sem Unit)}{is:List Nat}(h:SimSts C ts is):ts.length=is.length:=by
 induction h with
 |nil=>rfl
 |cons _ _ ih=>simp [ih]
theorem Sim_inOrder{ts:List (Value→Sem Unit)}{is:List Nat}(h:SimSts C ts is):SimK C C.T (VRa C.W) (fun xs=>assignInOrder ts xs) (M.sets is) (fun _ _ _ _=>True):=by
 induction h with
 |nil =>
  intro h₀ ζ ρ st s P E vs xs ok rel r a st' e k
  cases vs with
  |nil=>injection e;change _=_ at r;subst r;exact wpAny_assignInOrder_none (k ζ ρ s.heap s.toks _ (Gr.refl _ _ _ _) rel trivial)
  |cons _ _=>injection e
 |cons h1 _ ih =>
  intro h₀ ζ ρ st s P E vs xs ok rel r a st' e k
  cases vs with
  |nil=>injection e
  |cons v vs =>
   refine byC fun hG=>?_
   obtain⟨x,xs',rfl,r1,r2⟩:=r
   obtain⟨_,s1,e1,e2⟩:=W6 e
   refine hG ?_
   clear hG
   refine wpAny_assignInOrder_more (h1 h₀ ζ ρ st s _ E v x ok rel r1 _ s1 e1 fun ζ1 ρ1 h1' tk1 _ G1 rel1 _=>?_)
   exact ih h₀ ζ1 ρ1 s1 _ P E vs xs' ok rel1 (r2.gr rel G1) a st' e2 fun ζ2 ρ2 h2 tk2 b G2 rel2 r2=>k ζ2 ρ2 h2 tk2 b (G1.trans G2) rel2 r2
noncomputable def M.unpack(is:List Nat)(v:V):M Unit:=@V.casesOn (fun _=>M Unit) v M.fail (fun _=>M.fail) (fun _=>M.fail) (fun _=>M.fail) (fun vs=>M.sets is vs) (fun _=>M.fail) (fun _=>M.fail) (fun _=>M.fail) (fun _=>M.fail) (fun _ _ _=>M.fail)
theorem Rel.newer{h₀ ζ:HM}{ρ:RM}{st:St}{h h':Heap}(R:Rel C h₀ ζ ρ st h)(he:Heap.ExtBut h.objs.size h h'):Rel C h₀ ζ ρ st h'∧Gr C.T h ζ ρ h' ζ ρ:=by
 have keep : ∀ b o,h.get? b=some o→h'.get? b=some o:=fun b o e=>he b o (Yu (Xv e)) e
 refine⟨R.off (fun _=>False) (fun b o _ e=>keep b o e) (fun _ x=>x.elim) (fun _ _ _ x=>x),Gr.heap fun a e=>?_⟩
 cases q:h.get? a with
 |none=>exact absurd q e
 |some o=>rw [keep a o q];exact Xk _
theorem SimA.tuple{elts:List PySem.Expr}{k:Nat}{pos:Pos}{is:List Nat}(h:SimSts C ((assignEach elts C.env).map (·.2)) is)(hs:(assignEach elts C.env).findIdx? (·.1)=none:=by rfl):SimA C (.Tuple elts k pos) (M.unpack is):=by
 intro h₀ ζ ρ st s P E v y ok rel r a st' e kk
 cases v with
 |tup vs =>
  refine byC fun hG=>?_
  obtain⟨t,ys,rfl,⟨o,ho,hc,n,hd⟩,h2⟩:=tup_at rel r
  refine hG ?_
  clear hG
  have hl:ys.size=vs.length:=by rw [←h2.length];simp
  show wpAny _ _ (assign (.Tuple elts k pos) C.env (.ref t)) _ _ _
  rw [arm_assign_Tuple]
  refine Xy (wpAny_standAt ?_)
  have hn:(assignEach elts C.env).length=ys.size:=by rw [hl,←M.sets_length e,←h.length,X4]
  unfold unpack
  rw [hn,hs]
  refine Xy (W1 (unpackItems_tuple ok.room.handled ⟨o,ho,hc,n,hd⟩ fun h' he=>?_))
  obtain⟨R',G'⟩:=rel.newer he
  exact Sim_inOrder h h₀ ζ ρ st _ P E vs ys.toList ok R' h2.toA a st' e fun ζ2 ρ2 h2 tk2 b G2 rel2 r2=>kk ζ2 ρ2 h2 tk2 b (G'.trans G2) rel2 r2
 |_=>injection e
theorem Sim_AssignDisp{elts vals:List PySem.Expr}{k k':Nat}{tpos vpos pos:Pos}{m:M (List V)}{is:List Nat}(h:SimEs C (spliced (backTo vpos (starEach vals C.env))) m)(hst:SimSts C ((assignEach elts C.env).map (·.2)) is)(hx:(assignEach elts C.env).findIdx? (·.1)=none:=by rfl)
  (hs:swapsWithSole [.Tuple elts k tpos] (.Tuple vals k' vpos) pos.line C.env=pure false:=by rfl) (hw:swappedStores [.Tuple elts k tpos] (.Tuple vals k' vpos) C.env=pure none:=by rfl) :
  SimF C (exec (.Assign [.Tuple elts k tpos] (.Tuple vals k' vpos) pos) C.env) (do let vs←m;M.guard (decide (vs.length≤100));M.sets is vs;pure .next):=by
 intro h₀ ζ ρ st s P E ok rel a st' e kk
 refine byC fun hG=>?_
 obtain⟨vs,s1,e1,e⟩:=W6 e
 obtain⟨_,s2,e2,e⟩:=W6 e
 obtain⟨u,s3,e3,e4⟩:=W6 e
 injection e4
 obtain⟨hg,hs2⟩:=W7 e2
 injection hs2
 refine hG ?_
 clear hG
 simp only [decide_eq_true_eq] at hg
 refine Assign_Tuple (wpAny_Tuple_spliced (h h₀ ζ ρ st s _ E ok rel vs _ e1 fun ζ1 ρ1 h1 tk1 ys G1 rel1 r1=>⟨lim_le (Ys (r1.length▸hg) (by decide)),?_⟩)) hs hw
 have R2:=rel1.push {cls:=.type "tuple",data:=.seq ys.toArray}
 have G2:Gr C.T h1 ζ1 ρ1 _ ζ1 ρ1:=Gr.push h1 {cls:=.type "tuple",data:=.seq ys.toArray}
 have ht:IsTup (h1.push {cls:=.type "tuple",data:=.seq ys.toArray}) h1.objs.size ys.toArray:=⟨_,Xs h1 rfl,rfl,0,rfl⟩
 rw [arm_assign_Tuple]
 refine Xy (wpAny_standAt ?_)
 have hn:(assignEach elts C.env).length=ys.toArray.size:=by rw [List.size_toArray,r1.length,←M.sets_length e3,←hst.length,X4]
 unfold unpack
 rw [hn,hx]
 refine Xy (W1 (unpackItems_tuple ok.room.handled ht fun h' he=>?_))
 obtain⟨R3,G3⟩:=R2.newer he
 exact Sim_inOrder hst h₀ ζ1 ρ1 s1 _ _ E vs ys ok R3 r1 _ _ e3 fun ζ2 ρ2 h2 tk2 b G4 rel2 r2=>kk ζ2 ρ2 h2 tk2 _ ((((G1.trans G2).trans G3).trans G4).weak ok.bt) rel2 rfl
theorem Zv{elts vals:List PySem.Expr}{k k':Nat}{tpos vpos pos:Pos}{names:List Str}{m:M (List V)}{is:List Nat}(h:SimEs C (spliced (backTo vpos (starEach vals C.env))) m)
  (hst:SimSts C (names.reverse.map fun n=>bindName C.env n) is)
  (hw:swappedStores [.Tuple elts k tpos] (.Tuple vals k' vpos) C.env=pure (some names)) (hs:swapsWithSole [.Tuple elts k tpos] (.Tuple vals k' vpos) pos.line C.env=pure false:=by rfl) :
  SimF C (exec (.Assign [.Tuple elts k tpos] (.Tuple vals k' vpos) pos) C.env) (do let vs←m;M.guard (decide (vs.length≤100));M.sets is vs.reverse;pure .next):=by
 intro h₀ ζ ρ st s P E ok rel a st' e kk
 refine byC fun hG=>?_
 obtain⟨vs,s1,e1,e⟩:=W6 e
 obtain⟨_,s2,e2,e⟩:=W6 e
 obtain⟨u,s3,e3,e4⟩:=W6 e
 injection e4
 obtain⟨hg,hs2⟩:=W7 e2
 injection hs2
 refine hG ?_
 clear hG
 simp only [decide_eq_true_eq] at hg
 refine Assign_Tuple_swapped (names:=names) (wpAny_Tuple_spliced (h h₀ ζ ρ st s _ E ok rel vs _ e1 fun ζ1 ρ1 h1 tk1 ys G1 rel1 r1=>⟨lim_le (Ys (r1.length▸hg) (by decide)),?_⟩)) hs hw
 have R2:=rel1.push {cls:=.type "tuple",data:=.seq ys.toArray}
 have G2:Gr C.T h1 ζ1 ρ1 _ ζ1 ρ1:=Gr.push h1 {cls:=.type "tuple",data:=.seq ys.toArray}
 have ht:IsTup (h1.push {cls:=.type "tuple",data:=.seq ys.toArray}) h1.objs.size ys.toArray:=⟨_,Xs h1 rfl,rfl,0,rfl⟩
 have hn:names.length=ys.toArray.size:=by
  have h1:=M.sets_length e3
  have h2:=hst.length
  simp only [X4,List.length_reverse] at h1 h2
  rw [List.size_toArray,r1.length];exact ar45 h1 h2
 rw [hn]
 refine unpackItems_tuple ok.room.handled ht fun h' he=>?_
 obtain⟨R3,G3⟩:=R2.newer he
 have rv : ∀ {v:List V} {x:List Value},VRa C.W ζ1 ρ1 v x→VRa C.W ζ1 ρ1 v.reverse x.reverse:=by
  intro v
  induction v with
  |nil=>intro x hx;change _=_ at hx;subst hx;rfl
  |cons v vs ih =>
   intro x hx
   refine byC fun hG=>?_
   obtain⟨y,r,rfl,h1,h2⟩:=hx
   refine hG ?_
   clear hG
   simp only [List.reverse_cons]
   exact(ih h2).append ⟨y,[],rfl,h1,rfl⟩
 exact Sim_inOrder hst h₀ ζ1 ρ1 s1 _ _ E vs.reverse ys.reverse ok R3 (rv r1) _ _ e3 fun ζ2 ρ2 h2 tk2 b G4 rel2 r2=>kk ζ2 ρ2 h2 tk2 _ ((((G1.trans G2).trans G3).trans G4).weak ok.bt) rel2 rfl
theorem SimSts.name{x:Str}{i:Nat}{pos:Pos}(h:SimSt C x i):SimK C C.T (VR C.W) (fun y=>assign (.Name x pos) C.env y) (fun v=>M.setL i v) (fun _ _ _ _=>True):=SimA.name h
theorem SimSts.bind{x:Str}{i:Nat}(h:SimSt C x i):SimK C C.T (VR C.W) (fun y=>bindName C.env x y) (fun v=>M.setL i v) (fun _ _ _ _=>True):=by
 intro h₀ ζ ρ st s P E v y ok rel r a st' e k
 exact bindName_ (h h₀ ζ ρ st s P E v y ok rel r a st' e k)
end Lay
namespace Lay
variable{C:Cx}
noncomputable def VRq(W:Wd)(ζ:HM)(ρ:RM):List (V×V)→List (Value×Value)→Prop
 | [],ys=>ys = []
 |(k,v)::xs,ys => ∃ a b r,ys=(a,b)::r∧VR W ζ ρ k a∧VR W ζ ρ v b∧VRq W ζ ρ xs r
noncomputable abbrev SimQ(C:Cx)(t:Sem (List (Value×Value)))(m:M (List (V×V))):Prop:=Sim C C.T t m (VRq C.W)
theorem SimQ.nil{pos:Pos}:SimQ C (evalPairs (pairTrees [] [] C.env pos)) (pure []):=by
 intro h₀ ζ ρ st s P E ok rel a st' e k
 injection e
 exact pairTrees_nil_walk (k ζ ρ s.heap s.toks _ (Gr.refl _ _ _ _) rel rfl)
theorem SimQ.cons{k v:PySem.Expr}{ks:List (Option PySem.Expr)}{vs:List PySem.Expr}{pos:Pos}{m1 m2:M V}{m3:M (List (V×V))}(h1:SimE C (eval k C.env) m1)(h2:SimE C (eval v C.env) m2)(h3:SimQ C (evalPairs (pairTrees ks vs C.env pos)) m3) :
  SimQ C (evalPairs (pairTrees (some k::ks) (v::vs) C.env pos)) (do let a←m1;let b←m2;let r←m3;pure ((a,b)::r)):=by
 intro h₀ ζ ρ st s P E ok rel v' st' e kk
 refine byC fun hG=>?_
 obtain⟨a,s1,e1,e⟩:=W6 e
 obtain⟨b,s2,e2,e⟩:=W6 e
 obtain⟨r,s3,e3,e4⟩:=W6 e
 injection e4
 refine hG ?_
 clear hG
 refine pairTrees_cons_walk (h1 h₀ ζ ρ st s _ E ok rel a s1 e1 fun ζ1 ρ1 h1' tk1 x G1 rel1 r1=>h2 h₀ ζ1 ρ1 s1 _ _ E ok rel1 b s2 e2 fun ζ2 ρ2 h2' tk2 y G2 rel2 r2=>h3 h₀ ζ2 ρ2 s2 _ _ E ok rel2 r st' e3 fun ζ3 ρ3 h3' tk3 z G3 rel3 r3=>?_)
 exact kk ζ3 ρ3 h3' tk3 _ ((G1.trans G2).trans G3) rel3 ⟨x,y,z,rfl,VR.gr rel2 G3 (VR.gr rel1 G2 r1),VR.gr rel2 G3 r2,r3⟩
noncomputable def pairsOf{K:Type}(key:V→Option K):List (V×V)→Option (List (K×V))
 | []=>some []
 |kv::r=>(key kv.1).bind fun k'=>if kv.2.low=true then (pairsOf key r).bind fun r'=>some ((k',kv.2)::r') else none
noncomputable def intKey:V→Option Int:=un V.int
noncomputable def strKey:V→Option Str:=un V.str
noncomputable def mkDict{K:Type} [DecidableEq K](key:V→Option K)(mk:List (K×V)→O)(n:Nat)(vs:List (V×V)):M V:=fun s=>(pairsOf key vs).bind fun kvs=>M.new n (mk (kvs.foldl (fun d kv=>kvSet d kv.1 kv.2) [])) s
theorem VRk.merged{K:Type} [DecidableEq K]{W:Wd}{ζ:HM}{ρ:RM} : ∀ {kvs:List (K×V)} {kys:List (K×Value)} {acc:List (K×V)} {bcc:List (K×Value)},VRk W ζ ρ acc bcc→VRk W ζ ρ kvs kys→
  VRk W ζ ρ (kvs.foldl (fun d kv=>kvSet d kv.1 kv.2) acc) (merged bcc kys)
 | [],_,_,_,h,h'=>by change _=_ at h';subst h';exact h
 |(k,v)::r,_,_,_,h,hH=>by
  refine byC fun hG=>?_
  obtain⟨y,r',e,hl,h1,h2⟩:=hH
  subst e
  refine hG ?_
  clear hG
  simp only [List.foldl_cons]
  have:=VRk.merged (h.stored k hl h1) h2
  exact this
theorem carries_of{W:Wd}{K:Type} [DecidableEq K]{knd:KeyKind W.prog W.w K}{key:V→Option K}{ζ:HM}{ρ:RM}(hkey : ∀ v x k,key v=some k→VR W ζ ρ v x→knd.is k x=true) : ∀ {vs:List (V×V)} {xs:List (Value×Value)} {kvs:List (K×V)},pairsOf key vs=some kvs→VRq W ζ ρ vs xs→
  ∃ kys,Carries knd xs kys∧VRk W ζ ρ kvs kys
 | [],_,_,e,h=>by injection e;change _=_ at h;subst h;exact⟨[],trivial,rfl⟩
 |(k,v)::r,_,_,e,hH=>by
  refine byC fun hG=>?_
  obtain⟨a,b,r',e',h1,h2,h3⟩:=hH
  subst e'
  obtain⟨k',q1,e⟩:=ob e
  obtain⟨q2,e⟩:=io e
  obtain⟨rs,q3,e⟩:=ob e
  injection e
  obtain⟨kys,c1,c2⟩:=carries_of hkey q3 h3
  exact hG ⟨(k',b)::kys,⟨hkey _ _ _ q1 h1,rfl,c1⟩,b,kys,rfl,q2,h2,c2⟩
theorem Rel.swapObj{h₀ ζ:HM}{ρ:RM}{st:St}{h h':Heap}{D:Addr}(R:Rel C h₀ ζ ρ st h)(off:Off C h₀ ζ ρ D)(hs:Xw D h h'):Rel C h₀ ζ ρ st h' :=
 R.off (· =D) (fun b o hb q=>(hs.2 b hb).trans q) (fun b q=>q▸⟨off.z,off.k,off.r⟩) off.p
theorem Sim_Dict{K:Type} [DecidableEq K]{knd:KeyKind C.W.prog C.W.w K}{key:V→Option K}{mk:List (K×V)→O}{keys:List (Option PySem.Expr)}{values:List PySem.Expr}{pos:Pos}{m:M (List (V×V))}(n:Nat)
  (hmk : ∀ ζ ρ kvs o,(∃ es n kys,o=dctO es n∧Ent C.W knd es kys∧VRk C.W ζ ρ kvs kys)→OR C.W ζ ρ (mk kvs) o) (hkey : ∀ ζ ρ v x k,key v=some k→VR C.W ζ ρ v x→knd.is k x=true)
  (h:SimQ C (evalPairs (pairTrees keys values C.env pos)) m) (hT:n<C.T) (hB:n<100∨C.B≤n)
  (hall:keys.all (·.isSome)=true:=by rfl) (hl:keys.length=values.length:=by rfl) (h0:keys≠[]:=by exact List.cons_ne_nil _ _) (hlen:keys.length≤15:=by decide) :
  SimE C (eval (.Dict keys values pos) C.env) (do let vs←m;mkDict key mk n vs):=by
 intro h₀ ζ ρ st s P E ok rel v st' e kk
 refine byC fun hG=>?_
 obtain⟨vs,s1,e1,e2⟩:=W6 e
 refine hG ?_
 clear hG
 have offD:=rel.offNew (get_size s.heap)
 have sysD:=rel.not_sys (Yy _)
 have hD0:(s.heap.push {cls:=.type "dict",data:=.dict #[]}).get? s.heap.objs.size=some {cls:=.type "dict",data:=.dict #[]}:=Xs _ rfl
 have rel0:=rel.push {cls:=.type "dict",data:=.dict #[]}
 have relK:=rel0.addK hD0 ⟨offD.z,offD.k,offD.r⟩ offD.p
 have le:=upd_le (b:=({cls:=.type "dict",data:=.dict #[]}:Obj)) offD.k
 refine wpAny_Dict_walk (knd:=knd) hall hl h0 hlen (h _ ζ ρ st _ _ E ok relK vs s1 e1 fun ζ1 ρ1 h1 tk1 ys G1 rel1 r1=>?_)
 refine byC fun hG=>?_
 obtain⟨kvs,hp,e2⟩:=ob e2
 obtain⟨hn,e3⟩:=M.new_some e2
 injection e3
 obtain⟨kys,c1,c2⟩:=carries_of (hkey ζ1 ρ1) hp r1
 refine hG ?_
 clear hG
 have hD1:h1.get? s.heap.objs.size=some {cls:=.type "dict",data:=.dict #[]}:=rel1.kept _ _ (Zc _ _ _)
 have offD1:Off C h₀ ζ1 ρ1 s.heap.objs.size:=Off.gr offD G1 (by rw [hD0];exact Xk _)
 refine⟨kys,c1,⟨_,#[],0,hD1,⟨rfl,rfl,rfl⟩,rfl,fun e he=>by simp at he,.nil,Xf⟩,fun h' hd hs=>?_⟩
 refine byC fun hG=>?_
 obtain⟨es,m',ho,he⟩:=Ent.back hd
 refine hG ?_
 clear hG
 have rel2:=(rel1.dropK le rel.good).swapObj offD1 hs
 have hle:Le ρ1 (upd ρ1 n (some s.heap.objs.size)):=upd_le (rel1.dom n hn)
 have R3:=rel2.adoptS ho offD1 sysD n hn hT hB (mk (kvs.foldl (fun d kv=>kvSet d kv.1 kv.2) [])) (hmk _ _ _ _ ⟨es,m',_,rfl,he,VRk.merged (acc := []) (bcc := []) rfl (c2.mono (Le.refl _) hle.low)⟩)
 have dm : ∀ b,s.heap.get? b≠none→h'.get? b≠none:=fun b q=>by
  have hb:b≠s.heap.objs.size:=fun q'=>q (q'▸get_size s.heap)
  rw [hs.2 b hb]
  refine G1.dm b ?_
  cases q2:s.heap.get? b with
  |none=>exact absurd q2 q
  |some o=>show (s.heap.push _).get? b≠none;rw [Zo _ _ _ _ q2];exact Xk _
 have dn : ∀ b,(s.heap.push {cls:=.type "dict",data:=.dict #[]}).get? b=none→s.heap.get? b=none:=fun b q=>by
  cases q2:s.heap.get? b with
  |none=>rfl
  |some o=>rw [Zo _ _ _ _ q2] at q;injection q
 refine kk _ _ _ _ _ ⟨G1.zl,fun m a hm q=>hle _ _ (G1.rl m a hm q),fun a o q=>(G1.zn a o q).imp id (dn a),fun m a q=>?_,dm⟩ R3 (by refine(?_:Exists _);exact⟨_,Zc _ _ _,rfl⟩)
 by_cases q':m=n
 ·subst q';rw [Zc] at q;injection q;exact .inr (get_size _)
 ·rw [upd_ne _ _ q'] at q;exact(G1.rn m a q).imp id (dn a)
theorem Sim_DictInt{keys:List (Option PySem.Expr)}{values:List PySem.Expr}{pos:Pos}{m:M (List (V×V))}(n:Nat)(h:SimQ C (evalPairs (pairTrees keys values C.env pos)) m)(hT:n<C.T)(hB:n<100∨C.B≤n)
  (hall:keys.all (·.isSome)=true:=by rfl) (hl:keys.length=values.length:=by rfl) (h0:keys≠[]:=by exact List.cons_ne_nil _ _) (hlen:keys.length≤15:=by decide) :
  SimE C (eval (.Dict keys values pos) C.env) (do let vs←m;mkDict intKey .idict n vs):=by
 refine Sim_Dict (knd:=intKind C.W.prog C.W.w) n (fun _ _ _ _ h=>h) (fun ζ ρ v x k hk r=>?_) h hT hB hall hl h0 hlen
 rw [Zk hk] at r
 obtain⟨t,rfl⟩:=r
 exact isInt_self _ t
theorem Sim_DictStr{keys:List (Option PySem.Expr)}{values:List PySem.Expr}{pos:Pos}{m:M (List (V×V))}(n:Nat)(h:SimQ C (evalPairs (pairTrees keys values C.env pos)) m)(hT:n<C.T)(hB:n<100∨C.B≤n)
  (hall:keys.all (·.isSome)=true:=by rfl) (hl:keys.length=values.length:=by rfl) (h0:keys≠[]:=by exact List.cons_ne_nil _ _) (hlen:keys.length≤15:=by decide) :
  SimE C (eval (.Dict keys values pos) C.env) (do let vs←m;mkDict strKey .sdict n vs):=by
 refine Sim_Dict (knd:=strKind C.W.prog C.W.w) n (fun _ _ _ _ h=>h) (fun ζ ρ v x k hk r=>?_) h hT hB hall hl h0 hlen
 rw [Zk hk] at r
 obtain⟨t,rfl⟩:=r
 exact isStr_self _ t
theorem Yo{pos:Pos}(n:Nat)(O:O)(hO : ∀ ζ ρ,OR C.W ζ ρ O (dctO #[] 0))(hT:n<C.T)(hB:n<100∨C.B≤n):SimE C (eval (.Dict [] [] pos) C.env) (M.new n O):=by
 intro h₀ ζ ρ st s P E ok rel v st' e kk
 obtain⟨hn,e3⟩:=M.new_some e
 injection e3
 refine wpAny_Dict_empty ?_
 obtain⟨R',G'⟩:=rel.pushS n hn hT hB O {cls:=.type "dict",data:=.dict #[]} rfl (hO _ _)
 exact kk _ _ _ _ _ G' R' (by refine(?_:Exists _);exact⟨_,Zc _ _ _,rfl⟩)
theorem Ent.none{W:Wd}{K:Type} [DecidableEq K](knd:KeyKind W.prog W.w K):Ent W knd #[] []:=⟨fun e he=>by simp at he,.nil,Xf⟩
theorem emptyI{W:Wd}(ζ:HM)(ρ:RM):OR W ζ ρ (.idict []) (dctO #[] 0):=⟨#[],0,[],rfl,Ent.none _,rfl⟩
theorem emptyT{W:Wd}(ζ:HM)(ρ:RM):OR W ζ ρ (.tdict []) (dctO #[] 0):=⟨#[],0,[],rfl,rfl,Xf,rfl⟩
theorem emptyA{W:Wd}(ζ:HM)(ρ:RM):OR W ζ ρ (.attrs []) (dctO #[] 0):=⟨#[],0,rfl,fun e he=>by simp at he,by unfold UniqKeys;exact .nil,fun x=>rfl⟩
end Lay
namespace Lay
variable{C:Cx}
theorem length_of_sub{α:Type} [DecidableEq α] : ∀ {l m:List α},l.Nodup→(∀ x∈l,x∈m)→l.length≤m.length
 | [],_,_,_=>Yx _
 |a::l,m,hn,hs=>by
  rw [List.nodup_cons] at hn
  have ha:a∈m:=hs a (.head _)
  have:l.length≤(m.erase a).length:=length_of_sub hn.2 fun x hx=>(List.mem_erase_of_ne (by rintro rfl;exact hn.1 hx)).mpr (hs x (.tail _ hx))
  rw [List.length_erase_of_mem ha] at this
  have hpos:0<m.length:=List.length_pos_of_mem ha
  rw [Xg];exact ar46 this hpos
theorem attrs_size{W:Wd}{ζ:HM}{ρ:RM}{kvs:List (Str×V)}{es:Array DictEntry}(h:AttrsAre W ζ ρ kvs es):es.size≤kvs.length:=by
 obtain⟨hk,hu,hm⟩:=h
 have key : ∀ l:List DictEntry,(∀ e∈l,∃ n t,e.key = .str n t)→(l.Pairwise fun a b => ∀ n,a.key.isStr n=true→b.key.isStr n=true→False)→∃ ns:List Str,ns.length=l.length∧ns.Nodup∧∀ n∈ns,∃ e∈l,e.key.isStr n=true:=by
  intro l
  induction l with
  |nil=>intro _ _;exact⟨[],rfl,Xf,nofun⟩
  |cons e l ih =>
   intro h1 h2
   rw [List.pairwise_cons] at h2
   refine byC fun hG=>?_
   obtain⟨ns,e1,e2,e3⟩:=ih (fun e he=>h1 e (.tail _ he)) h2.2
   obtain⟨n,t,hn⟩:=h1 e (.head _)
   refine hG ?_
   clear hG
   have hs:e.key.isStr n=true:=by rw [hn];simp [Value.isStr]
   refine⟨n::ns,by simp [e1],List.nodup_cons.mpr ⟨fun q=>?_,e2⟩,fun m hm=>?_⟩
   ·obtain⟨e',he',hq⟩:=e3 n q
    exact h2.1 e' he' n hs hq
   ·rcases Xd.mp hm with rfl|hm
    ·exact⟨e,.head _,hs⟩
    ·obtain⟨e',he',hq⟩:=e3 m hm;exact⟨e',.tail _ he',hq⟩
 refine byC fun hG=>?_
 obtain⟨ns,e1,e2,e3⟩:=key es.toList (fun e he=>hk e (Array.mem_toList_iff.mp he)) hu
 refine hG ?_
 clear hG
 have:ns.length≤(kvs.map (·.1)).length:=length_of_sub e2 fun n hn=>by
  obtain⟨e,he,hq⟩:=e3 n hn
  have:=hm n
  cases q:kvGet kvs n with
  |none =>
   rw [q] at this
   dsimp only at this
   unfold nsFind findBy at this
   rw [Option.map_eq_none_iff,Array.find?_eq_none] at this
   exact absurd hq (by simpa using this e (Array.mem_toList_iff.mp he))
  |some v =>
   unfold kvGet at q
   obtain⟨kv,h1,h2⟩:=Xl.mp q
   have h3:=List.find?_some h1
   simp only [decide_eq_true_eq] at h3
   exact List.mem_map.mpr ⟨kv,List.mem_of_find?_eq_some h1,h3⟩
 rw [X4,e1,Xp] at this
 exact this
noncomputable def SetOk(W:Wd)(Cl:Addr)(name:Str):Prop:=findIn W.K (.ref Cl) "__setattr__" =some (some (.builtin "object.__setattr__"))∧plainOver W.K Cl=true∧takerIn W.K Cl name=some none∧(clsIn W.K Cl).any (·.hasDict)=true
noncomputable def setA(Cl:Addr)(name:Str)(v u:V):M Unit:=fun s=>(un V.ref v).bind fun n=>((s.hp n).bind (un inst2)).bind fun p=>((s.hp p.2).bind (un O.attrs)).bind fun kvs =>
 if p.1=Cl∧u.low=true∧kvs.length<1000 then some ((),{s with hp:=upd s.hp p.2 (some (.attrs (kvSet kvs name u)))}) else none
theorem kvSet_length{K:Type} [DecidableEq K]{α:Type}(kvs:List (K×α))(k:K)(v:α):(kvSet kvs k v).length≤kvs.length+1:=by
 unfold kvSet;split<;>simp
inductive SetA(Cl:Addr)(name:Str)(v u:V)(st st':St):Prop
 |mk (n d:Nat) (kvs:List (Str×V)) (hv:v = .ref n) (q1:st.hp n=some (.inst Cl d)) (q2:st.hp d=some (.attrs kvs)) (hlow:u.low=true) (hlen:kvs.length<1000) (hs:st'={st with hp:=upd st.hp d (some (.attrs (kvSet kvs name u)))})
theorem setA_some{Cl:Addr}{name:Str}{v u:V}{st st':St}{a:Unit}(e:setA Cl name v u st=some (a,st')):SetA Cl name v u st st':=by
 refine byC fun hG=>?_
 obtain⟨n,hv,e⟩:=ob e
 obtain⟨p,q1,e⟩:=ob e
 obtain⟨kvs,q2,e⟩:=ob e
 obtain⟨⟨hc,hlow,hlen⟩,e⟩:=io e
 obtain⟨o,q1,k1⟩:=ob q1
 obtain⟨o',q2,k2⟩:=ob q2
 injection e
 exact hG ⟨n,p.2,kvs,Zk hv,by rw [q1,Zk (f:=inst2) k1,←hc];rfl,by rw [q2,Zk k2],hlow,hlen,rfl⟩
theorem AttrsAre.set{W:Wd}{ζ:HM}{ρ:RM}{kvs:List (Str×V)}{es es':Array DictEntry}{name:Str}{u:V}{y:Value}(hat:AttrsAre W ζ ρ kvs es)(hk:StrKeys es')(hu:UniqKeys es')(hm : ∀ z,nsFind es' z=if z=name then some y else nsFind es z)(hlow:u.low=true)(ru:VR W ζ ρ u y):AttrsAre W ζ ρ (kvSet kvs name u) es':=by
 refine⟨hk,hu,fun z=>?_⟩
 rw [hm z,Y8]
 by_cases q:z=name
 ·subst q;rw [if_pos rfl,if_pos rfl];exact⟨hlow,y,rfl,ru⟩
 ·rw [if_neg q,if_neg q]
  have:=hat.2.2 z
  cases q3:kvGet kvs z with
  |none=>rw [q3] at this;exact this
  |some w=>rw [q3] at this;exact this
theorem setA_code{Cl:Addr}{name:Str}{tk:Tok}(hok:SetOk C.W Cl name){h₀ ζ:HM}{ρ:RM}{st:St}{s:Shared}{P:Shared→Prop}{E:Value→Shared→Prop}{v u:V}{x y:Value}(rel:Rel C h₀ ζ ρ st s.heap)(rv:VR C.W ζ ρ v x)(ru:VR C.W ζ ρ u y)
  {a:Unit} {st':St} (e:setA Cl name v u st=some (a,st')) (k : ∀ h' tk',Gr C.T s.heap ζ ρ h' ζ ρ→Rel C h₀ ζ ρ st' h'→P {s with heap:=h',toks:=tk'}) :
  ∃ ax ox od,x = .ref ax∧InstAt s.heap ax ox Cl od∧codeAny (model C.W.prog C.W.w) C.A (.call (.builtin "object.__setattr__") ⟨[.ref ax,.str name tk,y],[]⟩) (callPost (fun _ s'=>P s') E) s:=by
 refine byC fun hG=>?_
 obtain⟨n,d,kvs,rfl,q1,q2,hlow,hlen,rfl⟩:=setA_some e
 obtain⟨h1,h2,h3,h4⟩:=hok
 refine hG ?_
 clear hG
 obtain⟨n',d',dx,es,m,od,e1,q1',q2',hdx,hod,hdat,hat,ax,hax,rfl,I⟩:=inst_at rel (v:=.ref n) (Cl:=Cl) (kvs:=kvs) (instOf_self q1 q2) rv
 injection e1
 rw [q1] at q1';injection q1'
 refine⟨ax,_,_,rfl,I,osa_open rel.ok.1 I h2 h3 fun b=>?_⟩
 obtain⟨cd,hc,hd'⟩:=any_some h4
 have X:=rel.ok.1
 refine byC fun hG=>?_
 obtain⟨hx,-,-,-⟩:=I
 refine hG ?_
 clear hG
 refine Xy (Xz (Xy (Xy (wpAny_loadPart hx (Xy ((looks_clsIn X hc).here ?_))))))
 rw [hd']
 refine Xz (a:=some dx) (Xy (Xz (Xy ?_)))
 have hns:s.heap.Ns1 dx (nsFind es):=⟨od,es,m,hod,hdat,hat.1,hat.2.1,fun _=>rfl⟩
 refine wpAny_nsSet1 hns fun h' hn' hs=>?_
 refine byC fun hG=>?_
 obtain⟨o',es',m',ho',hd2,hk',hu',hm'⟩:=hn'
 refine hG ?_
 clear hG
 have hat':AttrsAre C.W ζ ρ (kvSet kvs name u) es':=hat.set hk' hu' (fun z=>hm' z) hlow ru
 obtain⟨R',G'⟩:=rel.set hdx hs ho' (O:=.attrs (kvSet kvs name u)) ⟨es',m',hd2,hat'⟩
 refine Xy (wpAny_lookBehind ho' (by
  rw [hd2]
  refine pastItsLine_dict ?_
  have e1:=attrs_size hat'
  have e2:=kvSet_length kvs name u
  rw [sizeLine_eq];exact ar47 hlen e1 e2) (Xz ?_))
 exact k _ _ G' R'
theorem setA_K{Cl:Addr}{name:Str}(hok:SetOk C.W Cl name){h₀ ζ:HM}{ρ:RM}{st:St}{s:Shared}{P:Unit→Shared→Prop}{E:Value→Shared→Prop}{v u:V}{x y:Value}(rel:Rel C h₀ ζ ρ st s.heap)(rv:VR C.W ζ ρ v x)(ru:VR C.W ζ ρ u y)
  {a:Unit} {st':St} (e:setA Cl name v u st=some (a,st')) (k : ∀ h' tk',Gr C.T s.heap ζ ρ h' ζ ρ→Rel C h₀ ζ ρ st' h'→P () {s with heap:=h',toks:=tk'}):wpAny (model C.W.prog C.W.w) C.A (setAttr x name y) P E s:=by
 refine byC fun hG=>?_
 obtain⟨ax,ox,od,rfl,I,hc⟩:=setA_code (tk:=s.toks) (s:={s with toks:=s.toks+1}) (P:=fun s'=>P () s') (E:=E) hok rel rv ru e k
 refine hG ?_
 clear hG
 exact set_plain rel.ok.1 I hok.1 hc
theorem Zy{Cl:Addr}{o value:PySem.Expr}{name:Str}{pos' pos:Pos}{m mo:M V}(hok:SetOk C.W Cl name)(h:SimE C (eval value C.env) m)(ho:SimE C (eval o C.env) mo)(hs:swapsWith value (some (.Attribute o name pos')) pos.line C.env=pure false:=by rfl) :
  SimF C (exec (.Assign [.Attribute o name pos'] value pos) C.env) (do let u←m;let v←mo;setA Cl name v u;pure .next):=by
 intro h₀ ζ ρ st s P E ok rel a st' e k
 refine byC fun hG=>?_
 obtain⟨u,s1,e1,e⟩:=W6 e
 obtain⟨v,s2,e2,e⟩:=W6 e
 obtain⟨_,s3,e3,e4⟩:=W6 e
 injection e4
 refine hG ?_
 clear hG
 refine plainObj_wpAny_Assign_Attribute (h h₀ ζ ρ st s _ E ok rel u s1 e1 fun ζ1 ρ1 h1 tk1 y G1 rel1 r1=>?_) hs
 refine ho h₀ ζ1 ρ1 s1 _ _ E ok rel1 v s2 e2 fun ζ2 ρ2 h2 tk2 x G2 rel2 r2=>?_
 exact setA_K hok rel2 r2 (VR.gr rel1 G2 r1) e3 fun h3 tk3 G3 rel3=>k _ _ h3 tk3 _ (((G1.trans G2).trans G3).weak ok.bt) rel3 rfl
noncomputable def newM(n d:Nat)(Cl:Addr)(fm:FM)(vs:List V):M V:=do
 let _←M.new d (.attrs [])
 let _←M.new n (.inst Cl d)
 let r←callM fm (.ref n::vs)
 M.guard r.isNone
 pure (.ref n)
theorem SimC_new{Cl fI:Addr}{B k n d:Nat}{fm:FM}(hf:FnSim C.W (.ref fI) B k fm)(hB:C.T≤B)(hk:k+1≤C.k)(hm:makesIn C.W.K Cl=true)(hi:findIn C.W.K (.ref Cl) "__init__" =some (some (.ref fI)))(ht:typeIn C.W.K (.ref fI)=some (.type "function"))
  (hn:n<100) (hd:d<100) (hcT:100≤C.T):SimC C (.ref Cl) (newM n d Cl fm):=by
 intro h₀ ζ ρ st s P E vs xs ok rel ra v st' e kk
 refine byC fun hG=>?_
 obtain⟨_,s1,e1,e⟩:=W6 e
 obtain⟨_,s2,e2,e⟩:=W6 e
 obtain⟨r,s3,e3,e⟩:=W6 e
 obtain⟨_,s4,e4,e5⟩:=W6 e
 obtain⟨hg,q4⟩:=W7 e4
 refine hG ?_
 clear hG
 injection q4;injection e5
 refine byC fun hG=>?_
 obtain⟨hd1,q⟩:=M.new_some e1
 injection q
 obtain⟨hn1,q⟩:=M.new_some e2
 injection q
 obtain⟨hh,g,dr,t,os⟩:=s
 obtain⟨R1,G1⟩:=rel.pushS d hd1 (by exact ar48 hd hcT) (.inl hd) (.attrs []) emptyDict rfl (emptyA _ _)
 refine hG ?_
 clear hG
 have hdx:upd ρ d (some hh.objs.size) d=some hh.objs.size:=Zc _ _ _
 have hnd:n≠d:=by
  intro q
  subst q
  simp only [Zc] at hn1;injection hn1
 obtain⟨R2,G2⟩:=R1.pushS n hn1 (by exact ar48 hn hcT) (.inl hn) (.inst Cl d) (instObj Cl hh.objs.size) rfl ⟨hd,hh.objs.size,by rw [upd_ne _ _ (Ne.symm hnd)];exact hdx,rfl⟩
 have hsz:(hh.push emptyDict).objs.size=hh.objs.size+1:=Heap.size_push ..
 refine wpAny_call (make_core (makes_of rel.ok.1 hm) (looks_findIn rel.ok.1 hi) (fun self=>bind_fn rel.ok.1 self ht) (.inl rfl) ?_)
 have room:Room (C.A.under (.builtin "type.__call__" ⟨.ref Cl::xs,[]⟩)) k:=by
  have w1:(Code.builtin "type.__call__" ⟨.ref Cl::xs,[]⟩).weight=1:=by rfl
  have w2:(Code.builtin "type.__call__" ⟨.ref Cl::xs,[]⟩).cUnits=1:=by rfl
  have h1:=ok.room.depth
  have h2:=ok.room.units
  refine⟨?_,?_,ok.room.handled⟩
  ·show C.A.depth+_+k<_;rw [w1];exact ar49 hk h1
  ·show C.A.units+_+8*k+100<_;rw [w2];exact ar50 hk h2
 have r2:VRa C.W ζ (upd (upd ρ d (some hh.objs.size)) n (some (hh.push emptyDict).objs.size)) (.ref n::vs) (.ref (hh.objs.size+1)::xs) :=
  ⟨_,_,rfl,by refine(?_:Exists _);exact⟨_,Zc _ _ _,by rw [hsz]⟩,(ra.gr rel G1).gr R1 G2⟩
 refine codeAny_mono (fn_code (P:=fun b s'=>b = .none∧callPost P E (.ok (.ret (.ref (hh.objs.size+1)))) s') (E:=E) hf hB room ok (s:=⟨(hh.push emptyDict).push (instObj Cl hh.objs.size),g,dr,t,os⟩) R2 r2 e3 fun ζ' ρ' h' tk' b' G3 R3 r3=>?_) fun r s' z=>?_
 ·have hb:b' = .none:=by
   cases r with
   |none=>exact r3
   |_=>injection hg
  refine⟨hb,?_⟩
  refine kk ζ' ρ' h' tk' _ ((G1.trans G2).trans G3) R3 ?_
  refine(?_:Exists _)
  exact⟨_,G3.rl n _ (by exact ar48 hn hcT) (Zc _ _ _),by rw [hsz]⟩
 ·rcases r with e|(v|_|_|_)<;>first|exact z|exact z.elim
end Lay
namespace Lay
noncomputable def runK{α:Type}(lt:Nat→Nat→Bool):KasT α→α
 |.ret a=>a
 |.ask i j k=>runK lt (k (lt i j))
noncomputable def AskRoad(n:Nat)(lt:Nat→Nat→Bool){α:Type}:KasT α→Prop
 |.ret _=>True
 |.ask i j k=>i<n∧j<n∧AskRoad n lt (k (lt i j))
theorem kasWp_run{n:Nat}{lt:Nat→Nat→Bool}{α:Type}{cmp:Nat→Nat→(Bool→Shared→Prop)→Shared→Prop}{I:Shared→Prop}
  (hc : ∀ i j (C:Bool→Shared→Prop) s,i<n→j<n→I s→(∀ s',I s'→C (lt i j) s')→cmp i j C s) : ∀ {t:KasT α} {Q:α→Shared→Prop} {s:Shared},AskRoad n lt t→I s→(∀ s',I s'→Q (runK lt t) s')→t.kasWp cmp Q s
 |.ret _,_,s,_,hI,h=>h s hI
 |.ask i j k,_,s,⟨h1,h2,h3⟩,hI,h=>hc i j _ s h1 h2 hI fun s' hI'=>kasWp_run hc h3 hI' h
noncomputable abbrev gd(p:Array Nat)(i:Nat):Nat:=p.getD i 0
theorem gd_eq{p:Array Nat}{i:Nat}:gd p i=(p[i]?).getD 0:=by simp [Array.getD_eq_getD_getElem?]
structure Ord(n:Nat)(lt:Nat→Nat→Bool):Prop where
 irr : ∀ i,lt i i=false
 tr : ∀ i j k,lt i j=true→lt j k=true→lt i k=true
 tot : ∀ i j,i<n→j<n→i≠j→lt i j=true∨lt j i=true
structure PermOf(n:Nat)(p:Array Nat):Prop where
 size:p.size=n
 lt : ∀ i,i<n→gd p i<n
 inj : ∀ i j,i<n→j<n→gd p i=gd p j→i=j
 perm:p.toList.Perm (List.range n)
theorem PermOf.of{n:Nat}{p:Array Nat}(h:p.toList.Perm (List.range n)):PermOf n p:=by
 have hs:p.size=n:=by have:=h.length_eq;simpa using this
 have hnd:p.toList.Nodup:=h.nodup_iff.mpr List.nodup_range
 have key : ∀ i,i<n→p.toList[i]?=some (gd p i):=fun i hi=>by
  have hi':i<p.size:=by exact ar51 hs hi
  rw [gd_eq,Xo,Xn hi'];rfl
 refine⟨hs,fun i hi=>?_,fun i j hi hj e=>?_,h⟩
 ·have:=Xa (key i hi)
  exact List.mem_range.mp (h.mem_iff.mp this)
 ·have h1:=key i hi
  have h2:=key j hj
  rw [e,←h2] at h1
  exact(List.getElem?_inj (by simpa using (hs▸hi:i<p.size)) hnd).mp h1
noncomputable def StrictTo(lt:Nat→Nat→Bool)(p:Array Nat)(k:Nat):Prop := ∀ i j,i<j→j<k→lt (gd p i) (gd p j)=true
section
variable{n:Nat}{lt:Nat→Nat→Bool}
noncomputable def roadB(n:Nat)(lt:Nat→Nat→Bool){α:Type}:KasT α→Bool
 |.ret _=>true
 |.ask i j k=>decide (i<n)&&(decide (j<n)&&roadB n lt (k (lt i j)))
theorem roadB_iff{n:Nat}{lt:Nat→Nat→Bool}{α:Type}(t:KasT α):roadB n lt t=true→AskRoad n lt t:=by
 induction t with
 |ret _=>exact fun _=>trivial
 |ask i j k ih =>
  intro h
  have h1:=Bool.and_eq_true_iff.mp h
  have h2:=Bool.and_eq_true_iff.mp h1.2
  exact⟨of_decide_eq_true h1.1,of_decide_eq_true h2.1,ih _ h2.2⟩
theorem run_congr{lt lt':Nat→Nat→Bool}{α:Type}(h : ∀ i j,i<n→j<n→lt i j=lt' i j)(t:KasT α):AskRoad n lt' t→AskRoad n lt t∧runK lt t=runK lt' t:=by
 induction t with
 |ret _=>exact fun _=>⟨trivial,rfl⟩
 |ask i j k ih =>
  intro q
  have r:=ih (lt i j) ((h i j q.1 q.2.1).symm▸q.2.2)
  exact⟨⟨q.1,q.2.1,r.1⟩,r.2.trans (congrArg (fun b=>runK lt' (k b)) (h i j q.1 q.2.1))⟩
noncomputable def sortOk(n:Nat)(lt:Nat→Nat→Bool):Bool:=roadB n lt (kas_sort n)&&((runK lt (kas_sort n)).toList.isPerm (List.range n)&&decide (∀ j,j<n→∀ i,i<j→lt (gd (runK lt (kas_sort n)) i) (gd (runK lt (kas_sort n)) j)=true))
noncomputable def tab(l:List Bool)(i j:Nat):Bool:=if i<j then (l[j*(j-1)/2+i]?).getD false else if j<i then !((l[i*(i-1)/2+j]?).getD false) else false
noncomputable def trB(n:Nat)(lt:Nat→Nat→Bool):Bool:=(List.range n).all fun i=>(List.range n).all fun j => !(lt i j)||(List.range n).all fun k => !(lt j k)||lt i k
noncomputable def allB:Nat→List (List Bool)
 |0 => [[]]
 |n+1=>(allB n).flatMap fun l => [true::l,false::l]
noncomputable def prs(n:Nat):List (Nat×Nat):=(List.range n).flatMap fun j=>(List.range j).map fun i=>(i,j)
theorem mem_allB(l:List Bool):l∈allB l.length:=by
 induction l with
 |nil=>exact X7.mpr rfl
 |cons b r ih=>exact List.mem_flatMap.mpr ⟨r,ih,by cases b<;>simp⟩
theorem all5:((List.range 6).all fun n=>n<2||(allB (prs n).length).all fun l => !(trB n (tab l))||sortOk n (tab l))=true:=by decide +kernel
theorem prs5 : ∀ n,n<6→∀ j,j<n→∀ i,i<j→(prs n)[j*(j-1)/2+i]?=some (i,j):=by decide +kernel
theorem sort_run(O:Ord n lt)(h2:2≤n)(h5:n<6):AskRoad n lt (kas_sort n)∧PermOf n (runK lt (kas_sort n))∧StrictTo lt (runK lt (kas_sort n)) n:=by
 have up : ∀ i j,i<j→j<n→(((prs n).map fun q=>lt q.1 q.2)[j*(j-1)/2+i]?).getD false=lt i j:=fun i j a b=>by
  rw [X8,prs5 n h5 j b i a];rfl
 have e : ∀ i j,i<n→j<n→lt i j=tab ((prs n).map fun q=>lt q.1 q.2) i j:=fun i j a b=>by
  unfold tab
  by_cases c:i<j
  ·rw [if_pos c,up i j c b]
  ·rw [if_neg c]
   by_cases d:j<i
   ·rw [if_pos d,up j i d a]
    cases q:lt i j with
    |false=>rw [(O.tot i j a b (Yv d)).resolve_left (fun w=>Bool.noConfusion (q.symm.trans w))];rfl
    |true =>
     cases r:lt j i with
     |false=>rfl
     |true=>exact Bool.noConfusion ((O.irr i).symm.trans (O.tr i j i q r))
   ·rw [if_neg d,Nat.le_antisymm (X0 d) (X0 c),O.irr]
 have k:=List.all_eq_true.mp all5 n (List.mem_range.mpr h5)
 have tr:trB n (tab ((prs n).map fun q=>lt q.1 q.2))=true:=List.all_eq_true.mpr fun i a=>List.all_eq_true.mpr fun j b=>by
  have a:=List.mem_range.mp a
  have b:=List.mem_range.mp b
  rw [←e i j a b]
  cases q:lt i j with
  |false=>rfl
  |true =>
   refine List.all_eq_true.mpr fun k c=>?_
   have c:=List.mem_range.mp c
   rw [←e j k b c,←e i k a c]
   cases r:lt j k with
   |false=>rfl
   |true=>rw [O.tr i j k q r];rfl
 have k2:=List.all_eq_true.mp ((Bool.or_eq_true_iff.mp k).resolve_left (fun w=>Nat.not_lt.mpr h2 (of_decide_eq_true w))) ((prs n).map fun q=>lt q.1 q.2) (by
  have:=mem_allB ((prs n).map fun q=>lt q.1 q.2)
  rwa [X4] at this)
 rw [tr] at k2
 have k3:=Bool.and_eq_true_iff.mp k2
 have k4:=Bool.and_eq_true_iff.mp k3.2
 have c:=run_congr e _ (roadB_iff _ k3.1)
 have P:PermOf n (runK lt (kas_sort n)):=.of (by rw [c.2];exact List.isPerm_iff.mp k4.1)
 refine⟨c.1,P,fun i j a b=>?_⟩
 rw [e _ _ (P.lt i (Yt a b)) (P.lt j b),c.2]
 exact of_decide_eq_true k4.2 j b i a
end
end Lay
set_option maxRecDepth 100000
namespace Lay
section
variable{prog:Program}{w:World}{A:Around}{E:Value→Shared→Prop}{s:Shared}{d it:Addr}{es:Array DictEntry}{ep i:Nat}
theorem key_iter{Q:Value→Shared→Prop}(hd:(d==sysModules)=false)(ho:s.heap.get? d=some (dctO es ep))
  (hQ:Q (.ref s.heap.objs.size) {s with heap:=s.heap.push {cls:=.type "dict_keyiterator",data:=.fields #[.ref d,.int 0 0,.int es.size 0,.int ep 0]}}):wpAny (model prog w) A (pyIter (.ref d)) Q E s:=by
 have hT:s.TypeIs (.ref d) "dict" :=⟨_,ho,rfl⟩
 refine wpAny_pyIter_slot hT PySem.F.slot_dict_iter (W2 PySem.F.slot_dict_iter hT PySem.F.entry_dict_iter ?_ (PySem.F.args_dict_iter_1 _))
 unfold Builtin.«dict.__iter__»
 refine Xy ?_
 unfold Builtin.Dict.dictSlotNone
 refine Xy (wpAny_notOrdered_dict hT ?_)
 show wpAny _ _ (pure (Value.ref d)) _ _ s
 refine Xz ?_
 show wpAny _ _ (Builtin.Dict.showsAll d>>=_) _ _ s
 unfold Builtin.Dict.showsAll
 rw [if_neg (by rw [hd];exact Bool.false_ne_true)]
 refine Xy (Xz (Xy (wpAny_dictEntries ho rfl (Xy (wpAny_dictEpoch ho rfl (Xy (wpAny_newObj_type (Xz ⟨_,rfl,"dict_keyiterator",_,⟨_,Xs _ rfl,rfl⟩,PySem.F.slot_dict_keyiterator_next.lookup,hQ⟩))))))))
theorem key_next{Q:Option Value→Shared→Prop}(hit:s.heap.IsKeyIter it d i es.size ep)(ho:s.heap.get? d=some (dctO es ep))(hi:i<es.size)
  (hQ : ∀ h',h'.IsKeyIter it d (i+1) es.size ep→Xw it s.heap h'→Q (some es[i].key) {s with heap:=h'}):wpAny (model prog w) A (pyNext (.ref it)) Q E s:=by
 refine byC fun hG=>?_
 obtain⟨o,hio,hc,hd⟩:=id hit
 refine hG ?_
 clear hG
 unfold pyNext
 refine Xy (wpAny_attempt (wpAny_callSpecial?_slot (name:=Xx "__next__") hit.typeIs PySem.F.slot_dict_keyiterator_next
  (W2 PySem.F.slot_dict_keyiterator_next hit.typeIs PySem.F.entry_dict_keyiterator_next ?_ (PySem.F.args_dict_keyiterator_next_1 _))))
 refine Xy (Xz (Xy (Xy ?_)))
 first|refine Xy (wpAny_typeNameOfWhole_keyiter hit.typeIs (Xz ?_))|refine Xy (wpAny_typeNameOf_keyiter hit.typeIs (Xz ?_))
 refine Xy (wpAny_fieldsOf hio hd ?_)
 rw [show Builtin.Dict_items.ownsTuple "dict_keyiterator" =false by decide,if_neg Bool.false_ne_true]
 show wpAny _ _ (if (Value.ref d==Value.none)=true then _ else _) _ _ s
 rw [if_neg (show ¬ ((Value.ref d==Value.none)=true) from Bool.false_ne_true)]
 refine Xy (Xz (Xy (wpAny_dictEntries ho rfl ?_)))
 rw [if_neg (by simp)]
 refine Xy (Xz (Xy (wpAny_dictEpoch ho rfl ?_)))
 rw [if_neg (by simp)]
 refine Xz ?_
 simp only [show ¬ ((i:Int)<0) from by exact ar118,if_false,Int.toNat_natCast,Xn hi]
 refine Xy ?_
 first|refine Xy (wpAny_typeNameOfWhole_keyiter hit.typeIs (Xz ?_))|refine Xy (wpAny_typeNameOf_keyiter hit.typeIs (Xz ?_))
 refine Xy (wpAny_isOneOf_keyiter hit.typeIs ?_)
 show wpAny _ _ (setField (.ref it) 1 (rawInt ((i:Int)+1))>>=_) _ _ s
 refine Xy (wpAny_setField hio hd (by simp) ?_)
 have hit':(s.heap.update it (Obj.mapFields (·.setIfInBounds 1 (rawInt ((i:Int)+1))))).IsKeyIter it d (i+1) es.size ep :=
  ⟨_,Heap.get?_update_self _ hio (Obj.isFreed_of_fields (Obj.data_mapFields hd _)),(Obj.cls_mapFields ..).trans hc,by rw [Obj.data_mapFields hd];simp [rawInt]⟩
 refine Xy (W1 (Xy (wpAny_isOneOf_keyiter (s:={s with heap:=s.heap.update it (Obj.mapFields (·.setIfInBounds 1 (rawInt ((i:Int)+1))))}) hit'.typeIs ?_)))
 show wpAny _ _ (pure es[i].key) _ _ _
 exact Xz (Xz ⟨_,rfl,Xz (hQ _ hit' (Xw.update ..))⟩)
theorem key_end{Q:Option Value→Shared→Prop}(hh:A.handled=none)(hit:s.heap.IsKeyIter it d es.size es.size ep)(ho:s.heap.get? d=some (dctO es ep))
  (hQ : ∀ h',Heap.ExtBut it s.heap h'→Q none {s with heap:=h'}):wpAny (model prog w) A (pyNext (.ref it)) Q E s:=by
 refine byC fun hG=>?_
 obtain⟨o,hio,hc,hd⟩:=id hit
 refine hG ?_
 clear hG
 unfold pyNext
 refine Xy (wpAny_attempt (wpAny_callSpecial?_slot (name:=Xx "__next__") hit.typeIs PySem.F.slot_dict_keyiterator_next
  (W2 PySem.F.slot_dict_keyiterator_next hit.typeIs PySem.F.entry_dict_keyiterator_next ?_ (PySem.F.args_dict_keyiterator_next_1 _))))
 refine Xy (Xz (Xy (Xy ?_)))
 first|refine Xy (wpAny_typeNameOfWhole_keyiter hit.typeIs (Xz ?_))|refine Xy (wpAny_typeNameOf_keyiter hit.typeIs (Xz ?_))
 refine Xy (wpAny_fieldsOf hio hd ?_)
 rw [show Builtin.Dict_items.ownsTuple "dict_keyiterator" =false by decide,if_neg Bool.false_ne_true]
 show wpAny _ _ (if (Value.ref d==Value.none)=true then _ else _) _ _ s
 rw [if_neg (show ¬ ((Value.ref d==Value.none)=true) from Bool.false_ne_true)]
 refine Xy (Xz (Xy (wpAny_dictEntries ho rfl ?_)))
 rw [if_neg (by simp)]
 refine Xy (Xz (Xy (wpAny_dictEpoch ho rfl ?_)))
 rw [if_neg (by simp)]
 refine Xz ?_
 simp only [show ¬ ((es.size:Int)<0) from by exact ar118,if_false,Int.toNat_natCast,Array.getElem?_eq_none (Yy es.size)]
 refine Xy ?_
 first|refine Xy (wpAny_typeNameOfWhole_keyiter hit.typeIs (Xz ?_))|refine Xy (wpAny_typeNameOf_keyiter hit.typeIs (Xz ?_))
 show wpAny _ _ (setField (.ref it) 0 .none>>=_) _ _ s
 refine Xy (wpAny_setField hio hd (by simp) ?_)
 show wpAny _ _ (newExc (.type "StopIteration") []>>=_) _ _ _
 refine Xy ?_
 simp only [newExc,newTuple]
 refine Xy (wpAny_newObj_type ?_ (by size_fits))
 refine Xy (m:=firstArgMember _ _) (W0 (a:=Value.none) (by first|rfl|(simp only [firstArgMember];rfl)) ?_)
 refine wpAny_newObj_type ?_ (by size_fits)
 unfold raiseNew
 dsimp only
 refine Xy (wpAny_handled ?_)
 rw [show A.in1.handled=none from hh]
 refine Xy (Xz (wpAny_throw ?_))
 refine Xy (wpAny_isInstance (T := "StopIteration") (b:=true) ⟨_,Xs _ rfl,rfl⟩ isSubtype_stop ?_)
 exact Xz (hQ _ (((Xw.update ..).extBut.push _).push _))
theorem dict_src(lo:(d==sysModules)=false):KdlSrc prog w "dict" d d es.size (fun i v => ∃ e,es[i]?=some e∧v=e.key) (fun h=>h.get? d=some (dctO es ep)) where
 type:=fun _ ho=>⟨_,ho,rfl⟩
 there:=fun _ ho=>⟨Xv ho,Xv ho⟩
 keep:=fun _ _ ho hk=>hk d (.inl rfl) _ ho
 notList:=by decide
 notTuple:=by decide
 hint:=fun _ _ _ _ ho hq=>kdl_hint_dict ⟨_,ho,rfl⟩ hq
 iter:=fun A s hh ho=>⟨_,fun i h=>h.IsKeyIter s.heap.objs.size d i es.size ep∧h.get? d=some (dctO es ep),(fun _ _ hq=>key_iter lo ho hq),{
   sub:=fun b hb=>by simp at hb;simp [hb]
   frame:=fun _ _ _ st hk=>⟨st.1.at fun o e=>hk _ (by simp) o e,hk d (by simp) _ st.2⟩
   item:=fun i s' Q E hi st hQ=>by
    refine key_next st.1 st.2 hi fun h' hit' hs'=>?_
    have hne:d≠s.heap.objs.size:=Yu (Xv ho)
    exact hQ _ h' s'.toks ⟨_,Xn hi,rfl⟩ ⟨hit',(hs'.2 d hne).trans st.2⟩ fun b o hb e=>hs'.extBut b o (fun h=>hb (by simp [h])) e
   done:=fun s' Q E st hQ=>key_end hh st.1 st.2 fun h' he'=>hQ h' s'.toks fun b o hb e=>he' b o (fun h=>hb (by simp [h])) e
   self:=fun _ _ _ _ st hQ=>wpAny_pyIter_keyiter st.1 hQ},⟨⟨_,Xs _ rfl,rfl,rfl⟩,Xu _ ho⟩⟩
theorem collect_src{T:String}{r:Addr}{n:Nat}{P:Nat→Value→Prop}{OK:Heap→Prop}{Q:List Value→Shared→Prop}(K:KdlSrc prog w T r d n P OK)(hh:A.handled=none)(hok:OK s.heap)(hn:n≤sizeLine)
  (hQ : ∀ h' tk acc,(∀ b o,s.heap.get? b=some o→h'.get? b=some o)→ItemsOf P acc n→Q acc.toList {s with heap:=h',toks:=tk}):wpAny (model prog w) A (collect (.ref r)) Q E s:=by
 obtain⟨hr,hd⟩:=K.there _ hok
 unfold collect
 refine Xy (wpAny_runValue (codeAny_builtin PySem.F.entry_proto_collect ?_))
 rw [Around.under_plainId PySem.F.plain_proto_collect _]
 show wpAny _ A.in1 (newList []>>=fun l=>again (.builtin "list.__iadd__" ⟨[l,.ref r],[]⟩)) _ _ s
 refine Xy (wpAny_newObj_type (Xz ⟨plainId_quiet PySem.F.plain_list_iadd _,codeAny_builtin PySem.F.entry_list_iadd ?_⟩))
 rw [Around.under_plainId PySem.F.plain_list_iadd _]
 have hS:(s.heap.push {cls:=.type "list",data:=.seq ([]:List Value).toArray}).get? s.heap.objs.size=some {cls:=.type "list",data:=.seq #[] 0}:=Xs _ rfl
 have ext:=kdl_extend (A:=A) (s:={s with heap:=s.heap.push {cls:=.type "list",data:=.seq ([]:List Value).toArray}})
  (R:=fun r s' => ∃ h' tk acc c',r = .ok (.ret (.ref s.heap.objs.size))∧s'={s with heap:=h',toks:=tk}∧(∀ b o,s.heap.get? b=some o→h'.get? b=some o)∧
   h'.get? s.heap.objs.size=some {cls:=.type "list",dict:=none,data:=.seq acc c',slots := #[]}∧ItemsOf P acc n)
  K hh (K.keep _ _ hok fun b _ o e=>Xu _ e) s.heap.objs.size (Yv hr) (Yv hd) (.ref s.heap.objs.size) 0 hS
  (fun h' tk acc c' hk hS' hit=>⟨h',tk,acc,c',rfl,rfl,fun b o e=>hk b o (Yu (Xv e)) (Xu _ e),hS',hit⟩) hn
 refine wpAny_mono ext (fun fin s' hf=>?_) fun e s' he=>by obtain⟨_,_,_,_,he,_⟩:=he;injection he
 cases fin with
 |done f =>
  refine byC fun hG=>?_
  obtain⟨h',tk,acc,c',e,rfl,hk,hS',hit⟩:=hf
  injection e
  refine hG ?_
  clear hG
  show wpAny _ A (load s.heap.objs.size>>=_) _ _ _
  exact Xy (wpAny_load hS' (Xz (hQ h' tk acc hk hit)))
 |again c =>
  refine⟨hf.1,codeAny_mono hf.2 fun r s' hr=>?_⟩
  refine byC fun hG=>?_
  obtain⟨h',tk,acc,c',rfl,rfl,hk,hS',hit⟩:=hr
  refine hG ?_
  clear hG
  show wpAny _ A (load s.heap.objs.size>>=_) _ _ _
  exact Xy (wpAny_load hS' (Xz (hQ h' tk acc hk hit)))
end
end Lay
set_option maxRecDepth 100000
namespace Lay
variable{C:Cx}
noncomputable def collItems(v:V)(st:St):Option (List V):=(un V.tup v).or ((lView v st).or (((dView v st).bind fun kvs=>some (kvs.map fun kv=>V.int kv.1)).or ((tView v st).bind fun kvs=>some (kvs.map fun kv=>V.tup (kv.1.map .int)))))
theorem VRs.of_get{W:Wd}{ζ:HM}{ρ:RM}{v:List V} : ∀ {x:List Value},v.length=x.length→(∀ (i:Nat) u y,v[i]?=some u→x[i]?=some y→u.low=true∧VR W ζ ρ u y)→VRs W ζ ρ v x:=by
 induction v with
 |nil =>
  intro x hl h
  cases x with
  |nil=>rfl
  |cons y ys=>exact absurd hl.symm (Nat.succ_ne_zero _)
 |cons a r ih =>
  intro x hl h
  cases x with
  |nil=>exact absurd hl (Nat.succ_ne_zero _)
  |cons y ys =>
   obtain⟨h1,h2⟩:=h 0 a y rfl rfl
   exact⟨y,ys,rfl,h1,h2,ih (Nat.succ.inj hl) fun i u z e1 e2=>h (i+1) u z e1 e2⟩
theorem isInt_inv{W:Wd}{k:Int}{v:Value}(h:(intKind W.prog W.w).is k v=true) : ∃ t,v = .int k t:=by
 cases v with
 |int i t =>
  have e:i=k:=by simpa [intKind,Value.isInt] using h
  exact⟨t,by rw [e]⟩
 |_=>simp [intKind,Value.isInt] at h
theorem items_back{W:Wd}{ζ:HM}{ρ:RM}{k:List Int}{ys:List Value}(h:ItemsAre (intKind W.prog W.w) k ys):VRs W ζ ρ (k.map .int) ys:=by
 induction h with
 |nil=>rfl
 |cons h1 _ ih =>
  obtain⟨t,rfl⟩:=isInt_inv h1
  exact⟨_,_,rfl,rfl,⟨t,rfl⟩,ih⟩
theorem ent_keys{W:Wd}{ζ:HM}{ρ:RM}{es:Array DictEntry}{kys:List (Int×Value)}{kvs:List (Int×V)}(h:Ent W (intKind W.prog W.w) es kys)(hk:VRk W ζ ρ kvs kys):VRs W ζ ρ (kvs.map fun kv=>.int kv.1) (es.toList.map (·.key)):=by
 have hlen:es.toList.length=kys.length:=h.2.1.length
 refine VRs.of_get (by simp only [X4];rw [hlen,hk.length]) fun i u y e1 e2=>?_
 rw [X8] at e1 e2
 refine byC fun hG=>?_
 obtain⟨kv,e3,rfl⟩:=Xl.mp e1
 obtain⟨en,e4,rfl⟩:=Xl.mp e2
 refine hG ?_
 clear hG
 have hi:i<kys.length:=by rw [←hlen];exact(X5.mp e4).1
 have e5:kys[i]?=some kys[i]:=X3 hi
 have h1:=(h.2.1.get? e4 (by rw [e5])).1
 have h2:kys[i].1=kv.1:=by
  have:=congrArg (·[i]?) hk.keys
  simp only [X8,e5,e3,Option.map_some,Option.some.injEq] at this
  exact this
 rw [h2] at h1
 obtain⟨t,ht⟩:=isInt_inv h1
 exact⟨rfl,by refine(?_:Exists _);exact⟨t,ht⟩⟩
theorem tkeys_keys{W:Wd}{ζ:HM}{ρ:RM} : ∀ {kvs:List (List Int×V)} {kys:List (List Int×Addr×Value)},TKeys W ζ ρ kvs kys→VRs W ζ ρ (kvs.map fun kv=>.tup (kv.1.map .int)) ((kys.map (entryOfKey (tupleKind (intKind W.prog W.w)))).map (·.key))
 | [],_,h=>by change _=_ at h;subst h;rfl
 |(k,v)::r,_,hH=>by
  refine byC fun hG=>?_
  obtain⟨a,y,r',ks,o,e,h0,ht,h1,hl,h2,h3⟩:=hH
  subst e
  refine hG ?_
  clear hG
  refine(?_:Exists _)
  exact⟨_,_,rfl,rfl,by refine(?_:Exists _);exact⟨a,o,ks,rfl,h0,ht,items_back h1⟩,tkeys_keys h3⟩
theorem coll_at{h₀ ζ:HM}{ρ:RM}{st:St}{h:Heap}(rel:Rel C h₀ ζ ρ st h){v:V}{x:Value}{xs:List V}(e:collItems v st=some xs)(r:VR C.W ζ ρ v x) :
  (∃ a T o ys n,x = .ref a∧(T = "list" ∨T = "tuple")∧h.get? a=some o∧o.cls = .type T∧o.data = .seq ys n∧VRs C.W ζ ρ xs ys.toList)∨
  (∃ a es n,x = .ref a∧(a==sysModules)=false∧h.get? a=some (dctO es n)∧VRs C.W ζ ρ xs (es.toList.map (·.key))):=by
 have nsys : ∀ {n:Nat} {a:Addr},ρ n=some a→(a==sysModules)=false:=fun h1=>beq_eq_false_iff_ne.mpr fun q=>rel.sysr _ (q▸h1)
 refine byC fun hG=>?_
 rcases oro e with e|e
 ·rw [Zk e] at r
  obtain⟨a,o,ys',rfl,h1,⟨hc,n,hd⟩,h2⟩:=r
  exact hG (.inl ⟨a,"tuple",o,ys',n,rfl,.inr rfl,rel.frozen _ _ h1,hc,hd,h2⟩)
 rcases oro e with e|e
 ·obtain⟨a,ys,n,rfl,h1,h2⟩:=lView_obj rel e r
  exact hG (.inl ⟨a,"list",_,ys,n,rfl,.inl rfl,h1,rfl,rfl,h2⟩)
 rcases oro e with e|e
 ·obtain⟨kvs,e1,q⟩:=ob e
  injection q with q
  subst q
  rcases oro e1 with e|e
  ·rw [Zk e] at r
   obtain⟨a,es,n,kys,rfl,h1,h2,h3⟩:=r
   exact hG (.inr ⟨a,es,n,rfl,beq_eq_false_iff_ne.mpr fun q=>by rw [q,rel.sysz] at h1;injection h1,rel.frozen _ _ h1,ent_keys h2 (VRk_p.mpr h3)⟩)
  ·obtain⟨n,rfl,q⟩:=slot_some e
   obtain⟨a',h1',rfl⟩:=r
   obtain⟨a,o,h1,h2,es,n',kys,rfl,h3,h4⟩:=rel.slot n _ q
   obtain rfl:a=a':=Xm (h1.symm.trans h1')
   exact hG (.inr ⟨a,es,n',rfl,nsys h1,h2,ent_keys h3 h4⟩)
 ·obtain⟨kvs,e1,q⟩:=ob e
  injection q with q
  subst q
  obtain⟨n,rfl,q⟩:=slot_some e1
  obtain⟨a',h1',rfl⟩:=r
  obtain⟨a,o,h1,h2,es,n',kys,rfl,h3,h4,h5⟩:=rel.slot n _ q
  obtain rfl:a=a':=Xm (h1.symm.trans h1')
  exact hG (.inr ⟨a,es,n',rfl,nsys h1,h2,by rw [h3];exact tkeys_keys h5⟩)
theorem items_of{es:Array DictEntry}{acc:Array Value}(h:ItemsOf (fun i v => ∃ e,es[i]?=some e∧v=e.key) acc es.size):acc.toList=es.toList.map (·.key):=by
 apply List.ext_getElem?
 intro i
 rw [X8,Xo,Xo]
 cases q:acc[i]? with
 |none =>
  rw [Array.getElem?_eq_none_iff] at q
  rw [Array.getElem?_eq_none (by rw [←h.1];exact q)];rfl
 |some v =>
  obtain⟨e,h1,h2⟩:=h.2 i v q
  rw [h1,h2];rfl
theorem coll_collect{h₀ ζ:HM}{ρ:RM}{st:St}{s:Shared}{A:Around}(rel:Rel C h₀ ζ ρ st s.heap){v:V}{x:Value}{xs:List V}(hh:A.handled=none)(e:collItems v st=some xs)(r:VR C.W ζ ρ v x)(hl:xs.length≤lim){Q:List Value→Shared→Prop}{E:Value→Shared→Prop}
  (hQ : ∀ h' tk vs,(∀ b o,s.heap.get? b=some o→h'.get? b=some o)→VRs C.W ζ ρ xs vs→Q vs {s with heap:=h',toks:=tk}):wpAny (model C.W.prog C.W.w) A (collect x) Q E s:=by
 rcases coll_at rel e r with⟨a,T,o,ys,n,rfl,hT,ho,hc,hd,hr⟩|⟨a,es,n,rfl,lo,ho,hr⟩
 ·have hz:ys.size=xs.length:=by rw [←hr.length];simp
  exact wpAny_collect_seq a hT ho hc hd (fun h' hk=>hQ h' s.toks _ hk hr) (hz▸lim_le hl)
 ·have hz:es.size=xs.length:=by rw [←hr.length];simp
  exact collect_src (OK:=fun h=>h.get? a=some (dctO es n)) (dict_src lo) hh ho (hz▸lim_le hl) fun h' tk acc hk hi=>by rw [items_of hi];exact hQ h' tk _ hk hr
noncomputable def one(g:V→M V)(vs:List V):M V:=fun s=>(un (fun v => [v]) vs).bind fun v=>g v s
theorem un_one{v:V}:un (fun v => [v]) [v]=some v:=un_self (f:=fun v => [v]) fun _ _ e=>List.head_eq_of_cons_eq e
theorem one_C{f:Value}{g:V→M V}(h:SimK C C.T (VR C.W) (fun x=>call f [x]) g (VR C.W)):SimC C f (one g):=by
 intro h₀ ζ ρ st s P E vs xs ok rel ra v st' e k
 refine byC fun hG=>?_
 obtain⟨u,q,e⟩:=ob e
 rw [Zk (f:=fun v => [v]) q] at ra
 obtain⟨x,_,rfl,r,rfl⟩:=ra
 exact hG (h h₀ ζ ρ st s P E u x ok rel r v st' e k)
noncomputable def lenOf(v:V)(st:St):Option Nat:=((un V.tup v).bind fun xs=>some xs.length).or (((lView v st).bind fun xs=>some xs.length).or ((dView v st).bind fun kvs=>some kvs.length))
noncomputable def bLen:List V→M V:=one fun v s=>(lenOf v s).bind fun n=>if n≤lim then some (.int n,s) else none
theorem bLen_C:SimC C (.builtin "len") bLen:=one_C <|by
 intro h₀ ζ ρ st s P E u x ok rel r v st' e k
 refine byC fun hG=>?_
 obtain⟨n,hn,e⟩:=ob e
 obtain⟨hl,e⟩:=io e
 injection e
 have hb:lim<2^63:=by decide
 have done : ∀ (m:Nat) (t:Tok) (tk:Nat),m=n→P (.int (m:Int) t) {s with toks:=tk}:=fun m t tk hm=>by
  rw [hm];exact k ζ ρ s.heap _ _ (Gr.refl _ _ _ _) rel (Exists.intro _ rfl)
 rcases oro hn with q|hn
 ·obtain⟨l,h1,q⟩:=ob q
  injection q with q
  subst q
  rw [Zk h1] at r
  obtain⟨a,ys,rfl,ht,hr⟩:=tup_at rel r
  have hz:ys.size=l.length:=by rw [←hr.length];simp
  exact hG (PyProof.Rows.len_tuple ht (by rw [hz];exact ar119 hb hl hz) (done _ _ _ hz))
 rcases oro hn with q|hn
 ·obtain⟨l,h1,q⟩:=ob q
  injection q with q
  subst q
  obtain⟨a,ys,rfl,ht,hr⟩:=lView_at rel h1 r
  have hz:ys.size=l.length:=by rw [←hr.length];simp
  exact hG (Calls.call_len_list ht (by rw [hz];exact ar119 hb hl hz) (done _ _ _ hz))
 ·obtain⟨l,h1,q⟩:=ob hn
  injection q with q
  subst q
  obtain⟨a,kys,rfl,hsys,hdict,hk⟩:=dView_at rel h1 r
  exact hG (call_len_dict hsys hdict (by rw [hk.length];exact ar120 hb hl) (done _ _ _ hk.length))
noncomputable def bAbs:List V→M V:=one fun v s=>(un V.int v).bind fun i=>some (.int (if i<0 then -i else i),s)
theorem bAbs_C:SimC C (.builtin "abs") bAbs:=one_C <|by
 intro h₀ ζ ρ st s P E u x ok rel r v st' e k
 refine byC fun hG=>?_
 obtain⟨i,h,e⟩:=ob e
 rw [Zk h] at r
 obtain⟨t,rfl⟩:=r
 injection e
 exact hG (call_abs_int fun u tk=>k ζ ρ s.heap _ _ (Gr.refl _ _ _ _) rel (Exists.intro _ rfl))
noncomputable def bRange(vs:List V):M V:=fun s=>(un (fun n:Int => [V.int n]) vs).elim ((un (fun p:Int×Int => [V.int p.1,V.int p.2]) vs).bind fun p=>some (.rng p.1 p.2 1,s)) fun n=>some (.rng 0 n 1,s)
theorem bRange_C:SimC C (.type "range") bRange:=by
 intro h₀ ζ ρ st s P E vs xs ok rel ra v st' e k
 unfold bRange at e
 refine byC fun hG=>?_
 cases w:un (fun n:Int => [V.int n]) vs with
 |some n =>
  rw [w] at e
  injection e
  rw [Zk (f:=fun n:Int => [V.int n]) w] at ra
  obtain⟨x,_,rfl,r,rfl⟩:=ra
  obtain⟨t,rfl⟩:=r
  obtain⟨R',G'⟩:=rel.pushZ {cls:=.type "range",data:=.fields #[.int 0 s.toks,.int n t,.int 1 (s.toks+1)]} rfl
  exact hG (call_range_1 (k _ _ _ _ _ G' R' (by refine(?_:Exists _);exact⟨_,_,_,_,rfl,Zc _ _ _⟩)))
 |none =>
  rw [w] at e
  obtain⟨⟨a,b⟩,w,e⟩:=ob e
  injection e
  rw [Zk (f:=fun p:Int×Int => [V.int p.1,V.int p.2]) w] at ra
  obtain⟨x,_,rfl,r,y,_,rfl,r2,rfl⟩:=ra
  obtain⟨t,rfl⟩:=r
  obtain⟨u,rfl⟩:=r2
  obtain⟨R',G'⟩:=rel.pushZ {cls:=.type "range",data:=.fields #[.int a t,.int b u,.int 1 s.toks]} rfl
  exact hG (call_range_2 (k _ _ _ _ _ G' R' (by refine(?_:Exists _);exact⟨_,_,_,_,rfl,Zc _ _ _⟩)))
end Lay
set_option maxRecDepth 100000
namespace Lay
variable{C:Cx}
theorem Rel.keepAll{h₀ ζ:HM}{ρ:RM}{st:St}{h h':Heap}(R:Rel C h₀ ζ ρ st h)(keep : ∀ b o,h.get? b=some o→h'.get? b=some o):Rel C h₀ ζ ρ st h'∧Gr C.T h ζ ρ h' ζ ρ:=by
 refine⟨R.off (fun _=>False) (fun b o _ e=>keep b o e) (fun _ x=>x.elim) (fun _ _ _ x=>x),Gr.heap fun a e=>?_⟩
 cases q:h.get? a with
 |none=>exact absurd q e
 |some o=>rw [keep a o q];exact Xk _
noncomputable def bTuple:List V→M V:=one fun v s=>(lView v s).bind fun xs=>mkTup xs s
theorem bTuple_C:SimC C (.type "tuple") bTuple:=one_C <|by
 intro h₀ ζ ρ st s P E u x ok rel r v st' e k
 refine byC fun hG=>?_
 obtain⟨l,hl,e⟩:=ob e
 obtain⟨_,s2,e3,e4⟩:=W6 e
 injection e4
 obtain⟨hg,hs⟩:=W7 e3
 injection hs
 simp only [W4,decide_eq_true_eq] at hg
 obtain⟨a,ys,rfl,ht,hr⟩:=lView_at rel hl r
 have hz:ys.size=l.length:=by rw [←hr.length];simp
 refine hG (call_tuple_list ht (fun h' hk=>?_) (hz▸lim_le hg.2))
 obtain⟨R1,G1⟩:=rel.keepAll hk
 obtain⟨R2,G2⟩:=R1.pushZ {cls:=.type "tuple",data:=.seq ys} rfl
 refine k _ _ _ _ _ (G1.trans G2) R2 ?_
 refine(?_:Exists _)
 exact⟨_,_,ys,rfl,Zc _ _ _,⟨rfl,0,rfl⟩,VRs.mono G2.zl (fun _ _ _ q=>q) _ _ hr⟩
theorem list_beside{h₀ ζ:HM}{ρ:RM}{st st':St}{h h':Heap}{c:Option Nat}{vs:List V}{ys:Array Value}{n:Nat}{v:V}(rel:Rel C h₀ ζ ρ st h)(hc:okSlot C c)(e:mkList c vs st=some (v,st'))(r:VRs C.W ζ ρ vs ys.toList)
  {D:Addr} (hD:h.objs.size≤D) (keep : ∀ b o,h.get? b=some o→h'.get? b=some o) (ho:h'.get? D=some {cls:=.type "list",dict:=none,data:=.seq ys n,slots := #[]}) : ∃ ζ' ρ',Gr C.T h ζ ρ h' ζ' ρ'∧Rel C h₀ ζ' ρ' st' h'∧VR C.W ζ' ρ' v (.ref D):=by
 have hn:h.get? D=none:=by
  cases q:h.get? D with
  |none=>rfl
  |some o=>exact absurd (Xv q) (Nat.not_lt.mpr hD)
 have off:=rel.offNew hn
 have sys:=rel.not_sys hD
 obtain⟨R1,G1⟩:=rel.keepAll keep
 exact list_adopt R1 hc e r ho ⟨n,by simp⟩ ⟨off.z,off.k,off.r,off.p⟩ sys hn G1.dm
noncomputable def bList(c:Option Nat):List V→M V:=one fun v s=>(collItems v s).bind fun xs=>mkList c xs s
theorem mkList_len{c:Option Nat}{xs:List V}{st:St}{r}(e:mkList c xs st=some r):xs.length≤lim:=by
 refine byC fun hG=>?_
 obtain⟨_,s2,e3,e4⟩:=W6 e
 obtain⟨hg,_⟩:=W7 e3
 refine hG ?_
 clear hG
 simp only [W4,decide_eq_true_eq] at hg
 exact hg.2
theorem bList_C{c:Option Nat}(hc:okSlot C c):SimC C (.type "list") (bList c):=one_C <|by
 intro h₀ ζ ρ st s P E u x ok rel r v st' e k
 refine byC fun hG=>?_
 obtain⟨l,hl,e⟩:=ob e
 have hlen:=mkList_len e
 rcases coll_at rel hl r with⟨a,T,o,ys,n,rfl,hT,ho,hcl,hdt,hr⟩|⟨a,es,n,rfl,lo,ho,hr⟩
 ·have hz:ys.size=l.length:=by rw [←hr.length];simp
  refine hG (call_list_seq a hT ho hcl hdt (fun h' c' hk ho'=>?_) (hz▸lim_le hlen))
  obtain⟨ζ',ρ',G',R',V'⟩:=list_beside rel hc e hr (Yy _) hk ho'
  exact k _ _ _ _ _ G' R' V'
 ·have hz:es.size=l.length:=by rw [←hr.length];simp
  refine hG (kdl_call (OK:=fun h=>h.get? a=some (dctO es n)) (dict_src lo) ok.room.handled ho (hz▸lim_le hlen) fun h' tk acc c' hk ho' hit=>?_)
  rw [←items_of hit] at hr
  obtain⟨ζ',ρ',G',R',V'⟩:=list_beside rel hc e hr (Yy _) hk ho'
  exact k _ _ _ _ _ G' R' V'
noncomputable def sortI(l:List Int):List Int:=l.mergeSort (fun a b=>decide (a≤b))
theorem sortI_perm(l:List Int):(sortI l).Perm l:=List.mergeSort_perm ..
theorem sortI_sorted(l:List Int):(sortI l).Pairwise (· ≤ ·):=by
 have:=List.pairwise_mergeSort (le:=fun a b:Int=>decide (a≤b)) (fun a b c h1 h2=>by simp only [decide_eq_true_eq] at *;exact ar123 h1 h2) (fun a b=>by simp only [Bool.or_eq_true,decide_eq_true_eq];exact ar124) l
 exact this.imp fun h=>by simpa using h
theorem sortI_unique{a l:List Int}(hp:a.Perm l)(hs:a.Pairwise (· ≤ ·)):a=sortI l:=ksm_same (hp.trans (sortI_perm l).symm) hs (sortI_sorted l)
theorem ints_are2{W:Wd}{ζ:HM}{ρ:RM}{vs:List V}{l:List Int}{ys:List Value}(e:intsOf vs=some l)(h:VRs W ζ ρ vs ys):IntsAre ys l:=by
 rw [Zk e] at h
 clear e
 induction l generalizing ys with
 |nil=>change _=_ at h;subst h;exact .nil
 |cons i r ih =>
  refine byC fun hG=>?_
  obtain⟨y,r',rfl,_,⟨t,rfl⟩,h2⟩:=h
  exact hG (.cons i t (ih h2))
theorem ints_back2{W:Wd}{ζ:HM}{ρ:RM}{l:List Int}{ys:List Value}(h:IntsAre ys l):VRs W ζ ρ (l.map .int) ys:=by
 induction h with
 |nil=>rfl
 |cons i t h ih=>refine(?_:Exists _);exact⟨_,_,rfl,rfl,⟨t,rfl⟩,ih⟩
theorem intsOf_length{vs:List V}{l:List Int}(e:intsOf vs=some l):l.length=vs.length:=by rw [Zk e,X4]
noncomputable def bSorted(c:Option Nat):List V→M V:=one fun v s=>(collItems v s).bind fun xs=>(intsOf xs).bind fun l=>if l.length<64 then mkList c ((sortI l).map .int) s else none
theorem sortedHeap_at{h:Heap}{a:Addr}{vs:List Value}{out:Array Value}{xs:Array Value}{n:Nat}(ho:h.get? a=some (seqObj "list" xs n)) :
  (∃ n',(sortedHeap h a vs out).get? a=some (seqObj "list" out n'))∧∀ b o,b≠a→h.get? b=some o→(sortedHeap h a vs out).get? b=some o:=by
 unfold sortedHeap
 have h1:=get?_update_seq ho (fun _ => #[])
 have h2:=Zo _ (seqObj "list" #[] 0) _ _ (Zo _ (seqObj "tuple" vs.toArray 0) _ _ h1)
 exact⟨⟨_,get?_update_seq h2 fun _=>out⟩,fun b o hb e=>(Heap.get?_update_other _ _ (Ne.symm hb)).trans (Zo _ _ _ _ (Zo _ _ _ _ ((Heap.get?_update_other _ _ (Ne.symm hb)).trans e)))⟩
theorem bSorted_C{c:Option Nat}(hc:okSlot C c):SimC C (.builtin "sorted") (bSorted c):=one_C <|by
 intro h₀ ζ ρ st s P E u x ok rel r v st' e k
 refine byC fun hG=>?_
 obtain⟨l,hl,e⟩:=ob e
 obtain⟨ns,hns,e⟩:=ob e
 obtain⟨h64,e⟩:=io e
 refine hG ?_
 clear hG
 have hlen:l.length=ns.length:=(intsOf_length hns).symm
 refine Calls.call_function_entry kind_sorted plain_sorted entry_sorted (args_sorted1 _) ?_
 unfold Builtin.«sorted»
 refine Xy (m:=checkCount "sorted" 1 1 _) (Xz ?_)
 refine Xy (coll_collect (A:=C.A.in1) rel ok.room.handled hl r (by rw [hlen];exact Ys (Yw h64) (by decide)) fun h1 tk1 vs hk hr=>?_)
 have hI:=ints_are2 hns hr
 have hvl:vs.length=ns.length:=by rw [hr.length,hlen]
 refine Xy (wpAny_newList ?_ (by rw [hvl,sizeLine_eq];exact ar125 h64 hlen hvl))
 have hoL:(h1.push (seqObj "list" vs.toArray 0)).get? h1.objs.size=some (seqObj "list" vs.toArray 0):=Xs _ rfl
 refine Xy (W1 (W2 slot_list_sort ⟨_,hoL,rfl⟩ entry_list_sort (list_sort_tree hoL hI (by rw [hvl];exact h64) fun out ns' a1 a2 a3=>⟨_,rfl,?_⟩) (args_list_sort _)))
 refine Xz ⟨_,rfl,?_⟩
 obtain rfl:=sortI_unique a2 a3
 refine byC fun hG=>?_
 obtain⟨⟨n',ho'⟩,hk'⟩:=sortedHeap_at (vs:=vs) (out:=out) hoL
 obtain⟨R1,G1⟩:=rel.keepAll hk
 obtain⟨ζ',ρ',G',R',V'⟩:=list_beside (ys:=out) R1 hc e (ints_back2 a1) (Yy _) (fun b o q=>hk' b o (Yu (Xv q)) (Zo _ _ _ _ q)) ho'
 refine hG ?_
 clear hG
 exact k _ _ _ _ _ (G1.trans G') R' V'
end Lay
set_option maxRecDepth 100000
namespace Lay
variable{C:Cx}
noncomputable def lexLt(p q:Int×Int):Bool:=decide (p.1<q.1)||(decide (p.1=q.1)&&decide (p.2<q.2))
theorem lexLt_iff{p q:Int×Int}:lexLt p q=true↔p.1<q.1∨(p.1=q.1∧p.2<q.2):=by simp [lexLt]
theorem lexLt_ff{p q:Int×Int}:lexLt p q=false↔q.1<p.1∨(p.1=q.1∧q.2≤p.2):=by
 rw [←Bool.not_eq_true,lexLt_iff];exact ar126
noncomputable def pk(p:Int×Int):V:=.tup [.int p.1,.int p.2]
noncomputable def pairKeys:List V→Option (List (Int×Int)):=un (List.map pk)
theorem pk_inj(p q:Int×Int)(h:pk p=pk q):p=q:=by
 have h:=List.cons.inj (V.tup.inj h)
 exact Prod.ext (V.int.inj h.1) (V.int.inj (List.cons.inj h.2).1)
theorem pairKeys_self(l:List (Int×Int)):pairKeys (l.map pk)=some l:=un_self (map_inj pk_inj)
theorem pairKeys_length{vs:List V}{ks:List (Int×Int)}(e:pairKeys vs=some ks):ks.length=vs.length:=by rw [Zk e,X4]
theorem pairKeys_get{vs:List V}{ks:List (Int×Int)}(e:pairKeys vs=some ks)(i:Nat)(k:Int×Int)(h:ks[i]?=some k):vs[i]?=some (.tup [.int k.1,.int k.2]):=by rw [Zk e,X8,h];rfl
noncomputable def sortP(l:List ((Int×Int)×V)):List V:=(l.mergeSort (fun a b => !lexLt b.1 a.1)).map (·.2)
noncomputable def callEach(fm:FM):List V→M (List V)
 | []=>pure []
 |v::r=>do let k←callM fm [v];let ks←callEach fm r;pure (k::ks)
noncomputable def bSortedK(c:Option Nat)(fm:FM)(v:V):M V:=fun s=>(collItems v s).bind fun xs=>if xs.length<6 then (callEach fm xs s).bind fun r=>(pairKeys r.1).bind fun ps=>if ps.Nodup then mkList c (sortP (ps.zip xs)) r.2 else none else none
theorem callEach_length{fm:FM} : ∀ {xs:List V} {st:St} {ks:List V} {st':St},callEach fm xs st=some (ks,st')→ks.length=xs.length
 | [],_,_,_,e=>by injection e;rfl
 |v::r,_,_,_,e=>by
  refine byC fun hG=>?_
  obtain⟨k,s1,_,e2⟩:=W6 e
  obtain⟨ks,s2,e3,e4⟩:=W6 e2
  injection e4
  refine hG ?_
  clear hG
  simp [callEach_length e3]
structure Beside(C:Cx)(h₀ ζ:HM)(ρ:RM)(st:St)(g:Heap)(D kS:Addr)(e1:Nat)(keys:Array Value):Prop where
 rel:Rel C h₀ ζ ρ st g
 d:g.get? D=some (seqObj "list" #[] e1)
 k : ∃ e,g.get? kS=some (seqObj "list" keys e)
 offD:Off C h₀ ζ ρ D
 offK:Off C h₀ ζ ρ kS
 ne:D≠kS
theorem Beside.push{h₀ ζ:HM}{ρ:RM}{st:St}{g g':Heap}{D kS:Addr}{e1:Nat}{keys keys':Array Value}(b:Beside C h₀ ζ ρ st g D kS e1 keys)(hs:Xw kS g g'){e:Nat}(hk:g'.get? kS=some (seqObj "list" keys' e)):Beside C h₀ ζ ρ st g' D kS e1 keys'∧Gr C.T g ζ ρ g' ζ ρ :=
 ⟨⟨b.rel.swapObj b.offK hs,(hs.2 D b.ne).trans b.d,⟨e,hk⟩,b.offD,b.offK,b.ne⟩,Gr.heap fun x q=>by
  by_cases q':x=kS
  ·subst q';rw [hk];exact Xk _
  ·rw [hs.2 x q'];exact q⟩
theorem key_fold{f:Value}{B k:Nat}{fm:FM}(hf:FnSim C.W f B k fm)(hB:C.T≤B){A':Around}(room:Room A' k)(ok:C.Ok){h₀:HM}{D kS:Addr}{e1:Nat}{E:Value→Shared→Prop}
  {body:Value→PUnit→Sem (ForInStep PUnit)}
  (hb : ∀ x (s:Shared) (R':ForInStep PUnit→Shared→Prop),wpAny (model C.W.prog C.W.w) A' (call f [x]) (fun key s'=>wpAny (model C.W.prog C.W.w) A' (Builtin.List.listUpdate (.ref kS) (·.push key)) (fun _ s''=>R' (.yield ⟨⟩) s'') E s') (fun _ _=>False) s→wpAny (model C.W.prog C.W.w) A' (body x ⟨⟩) R' E s) :
  ∀ (xs:List V) (vs:List Value) (ζ:HM) (ρ:RM) (st:St) (s:Shared) (keys:Array Value) (kvs:List V) (Q:PUnit→Shared→Prop),Beside C h₀ ζ ρ st s.heap D kS e1 keys→VRs C.W ζ ρ xs vs→VRs C.W ζ ρ kvs keys.toList→keys.size+xs.length<64→
   ∀ ks st',callEach fm xs st=some (ks,st')→ks.all V.low=true→
   (∀ ζ' ρ' g tk keys',Gr C.T s.heap ζ ρ g ζ' ρ'→Beside C h₀ ζ' ρ' st' g D kS e1 keys'→VRs C.W ζ' ρ' (kvs++ks) keys'.toList→Q ⟨⟩ {s with heap:=g,toks:=tk})→
   wpAny (model C.W.prog C.W.w) A' (forIn vs PUnit.unit body) Q E s
 | [],vs,ζ,ρ,st,s,keys,kvs,Q,b,r,rk,hz,ks,st',e,hlow,kk=>by
  change _=_ at r
  subst r
  injection e
  rw [List.forIn_nil]
  exact Xz (kk ζ ρ s.heap s.toks keys (Gr.refl _ _ _ _) b (by simpa using rk))
 |x::xs,vs,ζ,ρ,st,s,keys,kvs,Q,b,r,rk,hz,ks,st',e,hlow,kk=>by
  refine byC fun hG=>?_
  obtain⟨y,ys,rfl,hxl,r1,r2⟩:=r
  obtain⟨key,s1,e2,e3⟩:=W6 e
  obtain⟨ks',s2,e4,e5⟩:=W6 e3
  injection e5
  refine hG ?_
  clear hG
  simp only [List.all_cons,W4] at hlow
  rw [List.forIn_cons]
  obtain⟨eK,hK⟩:=b.k
  have relK:=(b.rel.addK b.d ⟨b.offD.z,b.offD.k,b.offD.r⟩ b.offD.p).addK hK ⟨b.offK.z,by rw [upd_ne _ _ (Ne.symm b.ne)];exact b.offK.k,b.offK.r⟩ b.offK.p
  have le:Le h₀ (upd (upd h₀ D (some (seqObj "list" #[] e1))) kS (some (seqObj "list" keys eK))):=(upd_le b.offD.k).trans (upd_le (by rw [upd_ne _ _ (Ne.symm b.ne)];exact b.offK.k))
  refine Xy (hb y s _ ?_)
  refine wpAny_call (codeAny_mono (fn_code (E:=fun _ _=>False) hf hB room ok relK (vs := [x]) (xs := [y]) ⟨y,[],rfl,r1,rfl⟩ e2 fun ζ1 ρ1 g1 tk1 key' G1 rel1 rkey=>?_) fun r s' z=>z)
  have b1:Beside C h₀ ζ1 ρ1 s1 g1 D kS e1 keys:=⟨rel1.dropK le b.rel.good,rel1.kept _ _ (by rw [upd_ne _ _ b.ne];exact Zc _ _ _),⟨eK,rel1.kept _ _ (Zc _ _ _)⟩,Off.gr b.offD G1 (by rw [b.d];exact Xk _),Off.gr b.offK G1 (by rw [hK];exact Xk _),b.ne⟩
  obtain⟨eK1,hK1⟩:=b1.k
  simp only [Xg] at hz
  refine listUpdate_at hK1 rfl ?_ (by rw [sizeLine_eq];exact ar127 hz) (Ys (Yz (Array.size_push ..)) (by rw [sizeLine_eq];exact ar128 hz))
  have s1:=Xw.update g1 kS (Obj.mapSeq (·.push key'))
  have hK2:=get?_update_seq hK1 (·.push key')
  obtain⟨b2,G2⟩:=b1.push s1 hK2
  have G12:=G1.trans G2
  show wpAny _ _ (forIn ys PUnit.unit body) _ _ _
  refine key_fold hf hB room ok hb xs ys ζ1 ρ1 _ _ (keys.push key') (kvs ++ [key]) Q b2 (VRs.mono G1.zl (Gr.le b.rel G1).low _ _ r2) ?_ (by rw [Array.size_push];exact ar129 hz) ks' st' e4 hlow.2 fun ζ' ρ' g tk keys' G b' rr=>kk ζ' ρ' g tk keys' (G12.trans G) b' (by simpa using rr)
  have:=(VRs.mono G1.zl (Gr.le b.rel G1).low _ _ rk).snoc hlow.1 rkey
  simpa using this
theorem key_tuple{h₀ ζ:HM}{ρ:RM}{st:St}{h:Heap}(rel:Rel C h₀ ζ ρ st h){a b:Int}{y:Value}(r:VR C.W ζ ρ (.tup [.int a,.int b]) y) : ∃ ad o n t u,y = .ref ad∧h.get? ad=some o∧o.cls = .type "tuple" ∧o.data = .seq #[.int a t,.int b u] n:=by
 refine byC fun hG=>?_
 obtain⟨ad,ys,rfl,⟨o,ho,hc,n,hd⟩,h2⟩:=tup_at rel r
 refine hG ?_
 clear hG
 refine byC fun hG=>?_
 obtain⟨y1,r1,e1,_,⟨t,rfl⟩,y2,r2,e2,_,⟨u,rfl⟩,e3⟩:=h2
 subst e3 e2
 refine hG ?_
 clear hG
 have:ys = #[.int a t,.int b u]:=Array.toList_inj.mp (by rw [e1])
 subst this
 exact⟨ad,o,n,t,u,rfl,ho,hc,hd⟩
theorem eqBool_ints{W:Wd}{A:Around}{E:Value→Shared→Prop}{s:Shared}{a b:Int}{t u:Tok}{Q:Bool→Shared→Prop}(h:Q (decide (a=b)) s):wpAny (model W.prog W.w) A (eqBool (.int a t) (.int b u)) Q E s :=
 (intKind W.prog W.w).eqBool (isInt_self (W:=W) a t) (isInt_self (W:=W) b u) h
theorem key_lt{A:Around}{h₀ ζ:HM}{ρ:RM}{st:St}{s:Shared}(rel:Rel C h₀ ζ ρ st s.heap){p q:Int×Int}{x y:Value}(rx:VR C.W ζ ρ (.tup [.int p.1,.int p.2]) x)(ry:VR C.W ζ ρ (.tup [.int q.1,.int q.2]) y){Q:Bool→Shared→Prop}{E:Value→Shared→Prop}
  (h:Q (lexLt p q) s):wpAny (model C.W.prog C.W.w) A (keyLt' (tuples' true) x y) Q E s:=by
 refine byC fun hG=>?_
 obtain⟨ax,ox,nx,t1,u1,rfl,h1,_,d1⟩:=key_tuple rel rx
 obtain⟨ay,oy,ny,t2,u2,rfl,h2,_,d2⟩:=key_tuple rel ry
 refine hG ?_
 clear hG
 refine kat_lt h1 d1 h2 d2 ?_
 show KatLex _ _ _ _ _ _ [(.int p.1 t1,.int q.1 t2),(.int p.2 u1,.int q.2 u2)] 0 s
 refine kat_cons (eqBool_ints (W:=C.W) ?_)
 by_cases e1:p.1=q.1
 ·rw [decide_eq_true e1]
  refine kat_yes (kat_cons (eqBool_ints (W:=C.W) ?_))
  by_cases e2:p.2=q.2
  ·rw [decide_eq_true e2]
   refine kat_yes (kat_nil ?_)
   have:lexLt p q=false:=by rw [lexLt_ff];exact ar130 e1 e2
   rw [this] at h;exact h
  ·rw [decide_eq_false e2]
   refine kat_no (kat_one _ _ (lt_int ?_))
   have:lexLt p q=decide (p.2<q.2):=by simp [lexLt,e1]
   rw [this] at h
   exact h
 ·rw [decide_eq_false e1]
  refine kat_no (oneLt_int ?_)
  have:lexLt p q=decide (p.1<q.1):=by simp [lexLt,e1]
  rw [this] at h;exact h
end Lay
set_option maxRecDepth 100000
namespace Lay
variable{C:Cx}
theorem getD_eq{α:Type}(l:List α)(i:Nat)(d:α):l.getD i d=(l[i]?).getD d:=by simp [List.getD_eq_getElem?_getD]
theorem ask_ord{ps:List (Int×Int)}(hnd:ps.Nodup):Ord ps.length (fun i j=>lexLt (ps.getD i (0,0)) (ps.getD j (0,0))) where
 irr:=fun i=>by rw [lexLt_ff];exact ar131
 tr:=fun i j k h1 h2=>by rw [lexLt_iff] at *;exact ar132 h1 h2
 tot:=fun i j hi hj hne=>by
  rw [lexLt_iff,lexLt_iff]
  have hq:ps.getD i (0,0)≠ps.getD j (0,0):=fun q=>hne (by
   rw [getD_eq,getD_eq,X3 hi,X3 hj] at q
   exact(List.getElem?_inj hi hnd).mp (by rw [X3 hi,X3 hj];simpa using q))
  generalize ps.getD i (0,0)=a at *
  generalize ps.getD j (0,0)=b at *
  obtain⟨a1,a2⟩:=a
  obtain⟨b1,b2⟩:=b
  have : ¬ (a1=b1∧a2=b2):=fun⟨e1,e2⟩=>hq (by rw [e1,e2])
  simp only
  exact ar133 this
theorem sort_same{ps:List (Int×Int)}{xs:List V}(hl:ps.length=xs.length){p:Array Nat}(hp:PermOf ps.length p)(hs:StrictTo (fun i j=>lexLt (ps.getD i (0,0)) (ps.getD j (0,0))) p ps.length)(hnd:ps.Nodup) :
  sortP (ps.zip xs)=p.toList.map (fun i=>xs.getD i .none):=by
 have hz:(ps.zip xs).length=ps.length:=by simp [hl]
 have item : ∀ i,i<ps.length→(ps.zip xs).getD i ((0,0),.none)=(ps.getD i (0,0),xs.getD i .none):=fun i hi=>by
  have hi2:i<xs.length:=by exact ar134 hl hz hi
  rw [getD_eq,getD_eq,getD_eq,X3 (by rw [hz];exact hi),X3 hi,X3 hi2]
  simp
 have pm : ∀ i∈p.toList,i<ps.length:=fun i hi=>List.mem_range.mp (hp.perm.mem_iff.mp hi)
 have e1:(ps.zip xs).mergeSort (fun a b => !lexLt b.1 a.1)=p.toList.map (fun i=>(ps.zip xs).getD i ((0,0),.none)):=by
  refine List.Perm.eq_of_pairwise (le:=fun a b=>lexLt b.1 a.1=false) (fun a b ha hb h1 h2=>?_) ?_ ?_ ?_
  ·have ha:=(List.mergeSort_perm _ _).mem_iff.mp ha
   refine byC fun hG=>?_
   obtain⟨k,hk,rfl⟩:=List.mem_map.mp hb
   refine hG ?_
   clear hG
   have hk:=pm k hk
   refine byC fun hG=>?_
   obtain⟨i,hi,rfl⟩:=List.mem_iff_getElem.mp ha
   refine hG ?_
   clear hG
   rw [item k hk] at h1 h2 ⊢
   have hi':i<ps.length:=by rw [hz] at hi;exact hi
   have hg:(ps.zip xs)[i]=(ps.getD i (0,0),xs.getD i .none):=by
    rw [←item i hi',getD_eq,X3 hi];rfl
   rw [hg] at h1 h2 ⊢
   simp only at h1 h2
   have hki:i=k:=by
    refine Xr fun hne=>?_
    rcases(ask_ord hnd).tot i k hi' hk hne with q|q
    ·rw [q] at h2;injection h2
    ·rw [q] at h1;injection h1
   rw [hki]
  ·have:=List.pairwise_mergeSort (le:=fun a b:(Int×Int)×V => !lexLt b.1 a.1) (fun a b c h1 h2=>by
    simp only [Bool.not_eq_true',lexLt_ff] at *;exact ar135 h1 h2) (fun a b=>by
    cases h1:lexLt b.1 a.1 with
    |false=>rfl
    |true =>
      rw [lexLt_iff] at h1;have:lexLt a.1 b.1=false:=by rw [lexLt_ff];exact ar136 h1
      rw [this];rfl) (ps.zip xs)
   exact this.imp fun h=>by simpa using h
  ·rw [List.pairwise_map,List.pairwise_iff_getElem]
   intro i j hi hj hij
   have hpi:i<ps.length:=by have:=hp.size;simp at hi;exact ar137 hl hz hi this
   have hpj:j<ps.length:=by have:=hp.size;simp at hj;exact ar137 hl hz hj this
   have ei:p.toList[i]=gd p i:=by rw [gd_eq,←Xo,X3 hi];rfl
   have ej:p.toList[j]=gd p j:=by rw [gd_eq,←Xo,X3 hj];rfl
   rw [item _ (pm _ (List.getElem_mem hi)),item _ (pm _ (List.getElem_mem hj)),ei,ej]
   have h:=hs i j hij hpj
   simp only at h ⊢
   rw [lexLt_iff] at h
   rw [lexLt_ff];(exact ar138 hi hj h)
  ·refine(List.mergeSort_perm _ _).trans ?_
   refine List.Perm.trans ?_ (hp.perm.map _).symm
   have:(List.range ps.length).map (fun i=>(ps.zip xs).getD i ((0,0),V.none))=ps.zip xs:=by
    apply List.ext_getElem
    ·simp [hl]
    ·intro i h1 h2
     rw [List.getElem_map,List.getElem_range,getD_eq,X3 h2];rfl
   rw [this]
 unfold sortP
 rw [e1,List.map_map]
 refine List.map_congr_left fun i hi=>?_
 simp only [Function.comp,item i (pm i hi)]
theorem sort_tail{A:Around}{h₀ ζ:HM}{ρ:RM}{st:St}{s:Shared}{D kS:Addr}{e1:Nat}{keys:Array Value}{sst:SortSt}{out:List Value}{P:PySem.Fin→Shared→Prop}{E:Value→Shared→Prop}(b:Beside C h₀ ζ ρ st s.heap D kS e1 keys)(hz:keys.size<64)
  (ho:(arrOf sst).map (·.2)=out.toArray) (hlen:out.length<64) (hf:failedOf sst=none)
  (h : ∀ g n,(∀ x o,x≠D→x≠kS→s.heap.get? x=some o→g.get? x=some o)→g.get? D=some (seqObj "list" out.toArray n)→P (.done (.ret .none)) {s with heap:=g}):wpAny (model C.W.prog C.W.w) A (ksk_tail D false e1 (.ref kS) sst) P E s:=by
 obtain⟨eK,hK⟩:=b.k
 unfold ksk_tail
 dsimp only
 refine Xy (listUpdate_at hK rfl ?_ (by rw [sizeLine_eq];exact ar139 hz) (Yx _))
 have s1:=Xw.update s.heap kS (Obj.mapSeq fun _=>(#[]:Array Value))
 have hD:=(s1.2 D b.ne).trans b.d
 refine Xy (wpAny_letGo (Xy (seqEpoch_at hD rfl ?_)))
 have hsz:((arrOf sst).map (·.2)).size=out.length:=by rw [ho,List.size_toArray]
 refine Xy (listUpdate_at hD rfl ?_ (Yx _) (by simp only [Bool.false_eq_true,if_false];rw [hsz,sizeLine_eq];exact ar140 hlen hsz))
 have s2:=Xw.update (s.heap.update kS (Obj.mapSeq fun _=>(#[]:Array Value))) D (Obj.mapSeq fun _=>if false=true then ((arrOf sst).map (·.2)).reverse else (arrOf sst).map (·.2))
 have hD2:=get?_update_seq hD fun _=>if false=true then ((arrOf sst).map (·.2)).reverse else (arrOf sst).map (·.2)
 rw [hf]
 simp only [bne_self_eq_false,Bool.false_eq_true,if_false] at hD2 s2 ⊢
 rw [ho] at hD2 s2 ⊢
 exact Xz (h _ _ (fun x o h1 h2 e=>(s2.2 x h1).trans ((s1.2 x h2).trans e)) hD2)
theorem bSortedK_K{c:Option Nat}(hc:okSlot C c){q:Addr}{B k:Nat}{fm:FM}(hf:FnSim C.W (.ref q) B k fm)(hB:C.T≤B)(hk:k+1≤C.k) :
  SimK C C.T (VR C.W) (fun x=>call (.builtin "sorted") [x] [(Xx "key",.ref q)]) (bSortedK c fm) (VR C.W):=by
 intro h₀ ζ ρ st s P E v x ok rel r u st' e kk
 refine byC fun hG=>?_
 obtain⟨xs,hxs,e⟩:=ob e
 obtain⟨h6,e⟩:=io e
 obtain⟨⟨ks,s1⟩,e1,e⟩:=ob e
 obtain⟨ps,hps,e⟩:=ob e
 obtain⟨hnd,e4⟩:=io e
 refine hG ?_
 clear hG
 have hps:pairKeys ks=some ps:=hps
 have e4:mkList c (sortP (ps.zip xs)) s1=some (u,st'):=e4
 have h64:xs.length<64:=Yq h6 (by decide)
 have hkl:=callEach_length e1
 have hpl:=pairKeys_length hps
 have hd:=ok.room.depth
 have hu:=ok.room.units
 refine call_function_entry_kw kind_sorted plain_sorted entry_sorted (ksk_s1 _ _) ?_
 unfold Builtin.«sorted»
 refine Xy (m:=checkCount "sorted" 1 1 _) (Xz ?_)
 refine Xy (coll_collect (A:=C.A.in1) rel ok.room.handled hxs r (Ys (Yw h64) (by decide)) fun h1 tk1 vs hkeep hr=>?_)
 have hvl:vs.length=xs.length:=hr.length
 refine Xy (wpAny_newList ?_ (by rw [hvl,sizeLine_eq];exact ar141 h64 hkl hpl hvl))
 obtain⟨R1,G1⟩:=rel.keepAll hkeep
 have hoL:(h1.push (seqObj "list" vs.toArray 0)).get? h1.objs.size=some (seqObj "list" vs.toArray 0):=Xs _ rfl
 have offD:=R1.offNew (get_size h1)
 have hDn:h1.get? h1.objs.size=none:=get_size h1
 have R2:=R1.push (seqObj "list" vs.toArray 0)
 have G2:Gr C.T h1 ζ ρ (h1.push (seqObj "list" vs.toArray 0)) ζ ρ:=Gr.push _ _
 have sysD:h1.objs.size≠sysModules:=R1.not_sys (Yy _)
 show wpAny _ _ _ _ _ {s with heap:=h1.push (seqObj "list" vs.toArray 0),toks:=tk1}
 generalize hDq:h1.objs.size=D at *
 generalize hgq:h1.push (seqObj "list" vs.toArray 0)=g1 at *
 refine Xy (W1 (wpAny_call_entry_kw slot_list_sort ⟨_,hoL,rfl⟩ entry_list_sort ?body (ksk_l1 _ _)))
 case body =>
 rw [ksk_t1]
 unfold ksk_tree
 refine Xy (listItems_at hoL rfl (Xy (listUpdate_at hoL rfl ?_ (by rw [List.size_toArray,hvl,sizeLine_eq];exact ar141 h64 hkl hpl hvl) (Yx _))))
 have sb:=Xw.update g1 D (Obj.mapSeq fun _=>(#[]:Array Value))
 have hD1:=get?_update_seq hoL fun _=>(#[]:Array Value)
 have R3:Rel C h₀ ζ ρ st (g1.update D (Obj.mapSeq fun _=>(#[]:Array Value))):=R2.swapObj offD sb
 have dm3 : ∀ b,g1.get? b≠none→(g1.update D (Obj.mapSeq fun _=>(#[]:Array Value))).get? b≠none:=fun b q=>by
  by_cases q':b=D
  ·subst q';rw [hD1];exact Xk _
  ·rw [sb.2 b q'];exact q
 generalize hg2q:g1.update D (Obj.mapSeq fun _=>(#[]:Array Value))=g2 at *
 generalize hes:(if (#[]:Array Value).size==vs.toArray.size then 0 else 0+1)=ep at *
 refine Xy (seqEpoch_at hD1 rfl (Xy (wpAny_newTuple ?_ (by show vs.length≤_;rw [hvl,sizeLine_eq];exact ar141 h64 hkl hpl hvl))))
 refine Xy (wpAny_newList ?_ (Yx _))
 refine W1 ?_
 have R4:=R3.push (seqObj "tuple" vs.toArray 0)
 have offK:=R4.offNew (get_size _)
 have R5:=R4.push (seqObj "list" #[] 0)
 have hK0:((g2.push (seqObj "tuple" vs.toArray 0)).push (seqObj "list" #[] 0)).get? (g2.push (seqObj "tuple" vs.toArray 0)).objs.size=some (seqObj "list" #[] 0):=Xs _ rfl
 have hD2:((g2.push (seqObj "tuple" vs.toArray 0)).push (seqObj "list" #[] 0)).get? D=some (seqObj "list" #[] ep):=Zo _ _ _ _ (Zo _ _ _ _ hD1)
 have hne:D≠(g2.push (seqObj "tuple" vs.toArray 0)).objs.size:=Yu (Xv (Zo _ (seqObj "tuple" vs.toArray 0) _ _ hD1))
 have hsys:(g2.push (seqObj "tuple" vs.toArray 0)).get? (g2.push (seqObj "tuple" vs.toArray 0)).objs.size=none:=get_size _
 have G15:Gr C.T h1 ζ ρ ((g2.push (seqObj "tuple" vs.toArray 0)).push (seqObj "list" #[] 0)) ζ ρ:=Gr.heap fun b q=>(Gr.push (B:=0) (ζ:=ζ) (ρ:=ρ) _ _).dm b ((Gr.push (B:=0) (ζ:=ζ) (ρ:=ρ) _ _).dm b (dm3 b (G2.dm b q)))
 have keep5 : ∀ b o,b≠D→g1.get? b=some o→((g2.push (seqObj "tuple" vs.toArray 0)).push (seqObj "list" #[] 0)).get? b=some o:=fun b o hb q=>Zo _ _ _ _ (Zo _ _ _ _ ((sb.2 b hb).trans q))
 show wpAny _ _ _ _ _ {s with heap:=(g2.push (seqObj "tuple" vs.toArray 0)).push (seqObj "list" #[] 0),toks:=tk1}
 have hKn1:h1.get? (g2.push (seqObj "tuple" vs.toArray 0)).objs.size=none:=by
  cases q:h1.get? (g2.push (seqObj "tuple" vs.toArray 0)).objs.size with
  |none=>rfl
  |some o =>
   have h2:g1.get? (g2.push (seqObj "tuple" vs.toArray 0)).objs.size=some o:=by rw [←hgq];exact Zo _ _ _ _ q
   have h3:=Zo _ (seqObj "tuple" vs.toArray 0) _ _ ((sb.2 _ (Ne.symm hne)).trans h2)
   rw [hsys] at h3;injection h3
 generalize hkq:(g2.push (seqObj "tuple" vs.toArray 0)).objs.size=kS at *
 generalize hg5:(g2.push (seqObj "tuple" vs.toArray 0)).push (seqObj "list" #[] 0)=g5 at *
 have b5:Beside C h₀ ζ ρ st g5 D kS ep #[]:=⟨R5,hD2,⟨0,hK0⟩,offD,offK,hne⟩
 have hkslow:ks.all V.low=true:=by
  rw [List.all_eq_true]
  intro w hw
  obtain⟨i,hi⟩:=List.mem_iff_getElem?.mp hw
  have hi':i<ps.length:=by rw [hpl];exact(X5.mp hi).1
  have:=pairKeys_get hps i ps[i] (X3 hi')
  rw [hi] at this
  injection this;rfl
 unfold ksk_rest
 refine Xy (wpAny_rule ?_)
 first
  |rw [List.forIn_toArray]
  |(rw [←Array.forIn_toList];simp only [List.toList_toArray])
 refine Xy (key_fold (E:=E) hf hB (A':=C.A.in1.in1) ⟨by show C.A.depth+k<_;exact ar142 hk hd,by show C.A.units+1+1+8*k+100<_;exact ar143 hk hu,ok.room.handled⟩ ok (fun y s' R' hy=>?_) xs vs ζ ρ st _ #[] [] _ b5 hr rfl (by simpa using h64) ks s1 e1 hkslow fun ζ6 ρ6 g6 tk6 keys G6 b6 rk=>?_)
 ·exact Xy (wpAny_attempt (wpAny_mono hy (fun key s'' hkey=>Xy (wpAny_mono hkey (fun _ s3 h3=>Xz h3) fun _ _ x=>x)) fun _ _ x=>x.elim))
 ·simp only [List.nil_append] at rk
  obtain⟨eK,hK6⟩:=b6.k
  dsimp only
  refine Xy (listItems_at hK6 rfl ?_)
  have hksz:keys.size=xs.length:=by rw [←hkl,←rk.length];simp
  have G16:=G15.trans G6
  have hr6:VRs C.W ζ6 ρ6 xs vs:=VRs.mono G6.zl (Gr.le R5 G6).low _ _ hr
  have finish : ∀ (sst:SortSt) (p:Array Nat),(arrOf sst).map (·.2)=(p.toList.map fun i=>vs.getD i Value.none).toArray→failedOf sst=none→(p.toList.map fun i=>xs.getD i .none)=sortP (ps.zip xs)→PermOf xs.length p→
    wpAny (model C.W.prog C.W.w) C.A.in1.in1 (ksk_tail D false ep (.ref kS) sst) (fun fin s' => ∃ v,fin = .done (.ret v)∧wpAny (model C.W.prog C.W.w) C.A.in1 (ret (.ref D)) (fun fin s' => ∃ v,fin = .done (.ret v)∧P v s') E s') E {s with heap:=g6,toks:=tk6}:=by
   intro sst p ho hf' hsame hp
   have hpl':(p.toList.map fun i=>vs.getD i Value.none).length=xs.length:=by rw [X4,Xp,hp.size]
   refine sort_tail b6 (by rw [hksz];exact h64) ho (by rw [hpl'];exact h64) hf' fun g n hkg hDg=>⟨_,rfl,Xz ⟨_,rfl,?_⟩⟩
   have rout:VRs C.W ζ6 ρ6 (sortP (ps.zip xs)) (p.toList.map fun i=>vs.getD i Value.none):=by
    rw [←hsame]
    refine VRs.of_get (by simp) fun i a y h1 h2=>?_
    rw [X8] at h1 h2
    refine byC fun hG=>?_
    obtain⟨j,e5,rfl⟩:=Xl.mp h1
    refine hG ?_
    clear hG
    rw [e5] at h2
    injection h2
    have hj:j<xs.length:=List.mem_range.mp (hp.perm.mem_iff.mp (Xa e5))
    refine byC fun hG=>?_
    obtain⟨y,e6,e7,e8⟩:=hr6.get j xs[j] (X3 hj)
    refine hG ?_
    clear hG
    show (xs.getD j .none).low=true∧VR _ _ _ (xs.getD j .none) (vs.getD j Value.none)
    rw [getD_eq,getD_eq,X3 hj,e6]
    exact⟨e7,e8⟩
   have R7:Rel C h₀ ζ6 ρ6 s1 g:=b6.rel.off (fun x=>x=D∨x=kS) (fun x o hx q=>hkg x o (fun q'=>hx (.inl q')) (fun q'=>hx (.inr q')) q) (fun x hx=>hx.elim (fun q=>q▸⟨b6.offD.z,b6.offD.k,b6.offD.r⟩) fun q=>q▸⟨b6.offK.z,b6.offK.k,b6.offK.r⟩)
    (fun i pl q hx=>hx.elim (b6.offD.p i pl q) (b6.offK.p i pl q))
   have dm7 : ∀ b,h1.get? b≠none→g.get? b≠none:=fun b q=>by
    have q6:=G16.dm b q
    have hbD:b≠D:=fun q'=>q (by rw [q'];exact hDn)
    have hbK:b≠kS:=fun q'=>q (by rw [q'];exact hKn1)
    cases q7:g6.get? b with
    |none=>exact absurd q7 q6
    |some o=>rw [hkg b o hbD hbK q7];exact Xk _
   refine byC fun hG=>?_
   obtain⟨ζ',ρ',G',R',V'⟩:=list_adopt (hs:=h1) R7 hc e4 rout hDg ⟨n,rfl⟩ b6.offD sysD hDn dm7
   refine hG ?_
   clear hG
   have G17:Gr C.T h1 ζ ρ g ζ' ρ':=⟨G16.zl.trans G'.zl,fun m a hm q=>G'.rl m a hm (G16.rl m a hm q),fun a o q=>(G'.zn a o q).elim (G16.zn a o) .inr,fun m a q=>(G'.rn m a q).elim (G16.rn m a) .inr,dm7⟩
   exact kk ζ' ρ' g tk6 _ (G1.trans G17) R' V'
  unfold ksk_end
  dsimp only
  simp only [Bool.false_eq_true,if_false]
  by_cases h2:vs.toArray.size<2
  ·rw [if_pos h2,if_pos h2]
   refine Xy (Xz ?_)
   rw [StateT.run_pure]
   refine Xy (Xz ?_)
   dsimp only
   have hx2:xs.length<2:=by rw [List.size_toArray] at h2;exact ar144 h64 hkl hpl hvl hksz h2
   have hP:PermOf xs.length (List.toArray (List.range xs.length)):=.of (List.Perm.refl _)
   refine finish _ (List.toArray (List.range xs.length)) ?_ rfl ?_ hP
   ·show (keys.zip vs.toArray).map (·.2)=_
    apply Array.toList_inj.mp
    rw [Array.toList_map,ksk_zip,List.map_snd_zip (by simp;exact ar145 hkl hpl hvl hksz)]
    show vs=(List.range xs.length).map fun i=>vs.getD i Value.none
    apply List.ext_getElem
    ·simp [hvl]
    ·intro i h1 h2
     rw [List.getElem_map,List.getElem_range,getD_eq,X3 h1];rfl
   ·rw [sort_same (by exact ar45 hkl hpl) (p:=List.toArray (List.range xs.length)) (by rw [hpl,hkl];exact hP) (fun i j hij hj=>absurd (Yr (Nat.succ_le_of_lt hij) hj) (by rw [hpl,hkl];exact Nat.not_lt.mpr (Ys (Nat.le_of_lt_succ (by assumption)) (Nat.succ_le_succ (Yx i))))) hnd]
  ·rw [if_neg h2,if_neg h2]
   have hx2:2≤xs.length:=by rw [List.size_toArray] at h2;exact ar146 h64 hkl hpl hvl hksz h2
   have hn2:ps.length=xs.length:=hpl.trans hkl
   obtain⟨q1,q2,q3⟩:=sort_run (ask_ord hnd) (by rw [hn2];exact hx2) (by rw [hn2];exact h6)
   have kget : ∀ i,i<ps.length→∃ y,keys.toList[i]?=some y∧VR C.W ζ6 ρ6 (.tup [.int (ps.getD i (0,0)).1,.int (ps.getD i (0,0)).2]) y:=fun i hi=>by
    have e6:=pairKeys_get hps i (ps.getD i (0,0)) (by rw [getD_eq,X3 hi];rfl)
    refine byC fun hG=>?_
    obtain⟨y,e7,_,e8⟩:=rk.get i _ e6
    refine hG ?_
    clear hG
    exact⟨y,e7,e8⟩
   have tups : ∀ (l:List (Int×Int)) (ys:List Value),l.length=ys.length→(∀ i,i<l.length→∃ y,ys[i]?=some y∧VR C.W ζ6 ρ6 (.tup [.int (l.getD i (0,0)).1,.int (l.getD i (0,0)).2]) y)→∃ fs:List Value,KatTups g6 ys fs∧fs.length=l.length∧∀ f∈fs,∃ n t,f = .int n t:=by
    intro l
    induction l with
    |nil =>
     intro ys hl _
     cases ys with
     |nil=>exact⟨[],KatTups.nil,rfl,nofun⟩
     |cons _ _=>simp at hl
    |cons a l ih =>
     intro ys hl h
     cases ys with
     |nil=>simp at hl
     |cons y ys =>
      obtain⟨y',e6,e7⟩:=h 0 (by simp)
      simp only [List.getElem?_cons_zero,Option.some.injEq] at e6
      subst e6
      refine byC fun hG=>?_
      obtain⟨ad,o,n,t,u,rfl,f1,f2,f3⟩:=key_tuple b6.rel e7
      refine hG ?_
      clear hG
      obtain⟨fs,i1,i2,i3⟩:=ih ys (by simpa using hl) fun i hi=>by
       have:=h (i+1) (by simpa using hi)
       simpa using this
      exact⟨_::fs,KatTups.cons f1 f2 f3 rfl i1,by simp [i2],fun f hf=>(Xd.mp hf).elim (fun e=>⟨_,_,e⟩) (i3 f)⟩
   refine byC fun hG=>?_
   obtain⟨fs,t1,t2,t3⟩:=tups ps keys.toList (hn2.trans (hksz.symm.trans (Xp).symm)) kget
   refine hG ?_
   clear hG
   have hkeys:keys=keys.toList.toArray:=by simp
   refine Xy ?_
   rw [hkeys]
   refine kat_kind (T:=.type "int") (vs:=keys.toList) t1 (by rw [t2,hn2];exact ar147 h64 hkl hpl hvl hksz hx2 t2) (fun f hf=>?_) (by decide) ?_
   ·obtain⟨n,t,rfl⟩:=t3 f hf
    exact .now
   ·have run:=kat_run (prog:=C.W.prog) (w:=C.W.w) (A:=C.A.in1.in1) (E:=E) (s:={s with heap:=g6,toks:=tk6}) (vs:=vs) (ks:=keys.toList) (κ:=tuples' (Value.type "int" !=Value.type "tuple"))
     (Q:=fun sst s'=>s'={s with heap:=g6,toks:=tk6}∧∃ p:Array Nat,p=runK (fun i j=>lexLt (ps.getD i (0,0)) (ps.getD j (0,0))) (kas_sort ps.length)∧arrOf sst=p.map (kas_item (keys.toList.toArray.zip vs.toArray))∧failedOf sst=none)
     (G:=fun p s'=>s'={s with heap:=g6,toks:=tk6}∧p=runK (fun i j=>lexLt (ps.getD i (0,0)) (ps.getD j (0,0))) (kas_sort ps.length))
     (by rw [Xp,hksz,hvl]) (by rw [hvl];exact hx2) (by rw [hvl];exact h64) (fun p sst s' a1 a2 a3 a4=>⟨a4.1,p,a4.2,a2,a3⟩) (by
      rw [hvl,←hn2]
      refine kasWp_run (I:=fun s'=>s'={s with heap:=g6,toks:=tk6}) (fun i j K s' hi hj hI hK=>?_) q1 rfl fun s' hI=>⟨hI,rfl⟩
      subst hI
      refine byC fun hG=>?_
      obtain⟨y1,a1,a2⟩:=kget i hi
      obtain⟨y2,a3,a4⟩:=kget j hj
      refine hG ?_
      clear hG
      unfold kas_ask
      rw [getD_eq,getD_eq,a1,a3]
      exact key_lt b6.rel a2 a4 (hK _ rfl))
    refine Xy (wpAny_mono run ?_ fun _ _ x=>x)
    rintro⟨⟨⟩,sst⟩ s' ⟨rfl,p,hp,ha,hf'⟩
    have hP:PermOf xs.length p:=by rw [hp,←hn2];exact q2
    refine finish sst p ?_ hf' ?_ hP
    ·rw [kat_snds (by rw [Xp,hksz,hvl]) ha]
    ·rw [sort_same hn2 (p:=p) (by rw [hp];exact q2) (by rw [hp];exact q3) hnd]
end Lay
open Sem (wp)
set_option maxRecDepth 100000
namespace Lay
theorem keys_none{prog:Program}{w:World}{A:Around}{E:Value→Shared→Prop}{s:Shared}{a:Addr}{xs:Array Value}{k:Nat}{Q:Option Value→Shared→Prop}(hx:s.heap.get? a=some ⟨.type "list",none,.seq xs k,#[]⟩)(hA:A.handled=none)
  (h : ∀ h' tk,(∀ b o,s.heap.get? b=some o→h'.get? b=some o)→Q none {s with heap:=h',toks:=tk}):wpAny (model prog w) A (getAttr? (.ref a) "keys") Q E s:=by
 have hmiss:typeLookup (.type "list") "keys" =pure none:=am_miss_of_fast (by decide +kernel)
 refine byC fun hG=>?_
 obtain⟨hp,g,d,tk,os⟩:=s
 refine hG ?_
 clear hG
 have hT : ∀ tk',(⟨hp,g,d,tk',os⟩:Shared).TypeIs (.ref a) "list" :=fun _=>⟨_,hx,rfl⟩
 have f1:=sub_AttributeError
 have f3:=PySem.F.slot_list_getattribute.lookup
 have f4:=PySem.F.slot_list_getattribute.bind (.ref a)
 have f5:=am_list_getattr_none
 unfold getAttr? getAttrBy? getAttrBy
 repeat (any_goals (first|assumption|exact hT _|((with_reducible show wpAny _ _ (call (Value.builtin "list.__getattribute__") _ _) _ _ _);refine call_meets PySem.F.slot_list_getattribute (hT _) am_entry_list_getattribute (PySem.F.args_list_getattribute_2 _ _) (meets_getattribute_miss_list a xs k #[] "keys" _ hmiss (by decide +kernel) (by decide +kernel)) ⟨hx,hA,fun h' tk' e hx'=>?_⟩)|wp_step))
 obtain⟨t',u',he⟩:=hx'.there
 show wpAny _ _ (getattributeRaised _ _ _ _ _ _ _) _ _ _
 unfold getattributeRaised
 repeat (any_goals (first|assumption|wp_step))
 exact h _ _ hx'.keeps
variable{C:Cx}
theorem entry_duloop:entryFor table "dict.update.loop" =some Builtin.«dict.update.loop»:=entryFor_of_tree (by kernel_rfl)
theorem plain_duloop:plainId "dict.update.loop" =true:=by decide +kernel
noncomputable def PairAt(h:Heap)(y k v:Value):Prop := ∃ a o n,y = .ref a∧h.get? a=some o∧o.cls = .type "tuple" ∧o.data = .seq #[k,v] n
theorem pair_items{M:Model}{A:Around}{E:Value→Shared→Prop}{s:Shared}{y k v:Value}{Q:List Value→Shared→Prop}(hp:PairAt s.heap y k v)(h:Q [k,v] s):wpAny M A (Builtin.Dict.pairItems y) Q E s:=by
 refine byC fun hG=>?_
 obtain⟨a,o,n,rfl,ho,hc,hd⟩:=hp
 refine hG ?_
 clear hG
 unfold Builtin.Dict.pairItems
 refine Xy (wpAny_typeOf (T := "tuple") ⟨o,ho,hc⟩ ?_)
 rw [if_pos (by decide)]
 refine Xy ?_
 unfold seqItems?
 refine Xy (wpAny_load ho ?_)
 rw [hd]
 exact Xz (Xz h)
theorem update_loop{prog:Program}{w:World}{A:Around}{R:Result→Shared→Prop}{d I l:Addr}{ys:Array Value}(hA:A.handled=none)(hIl:I≠l)(hId:I≠d)(hld:l≠d)(St:Nat→Heap→Prop)
  (frame : ∀ i h h',St i h→(∀ b o,b≠I→h.get? b=some o→h'.get? b=some o)→St i h')
  (step : ∀ (i:Nat) (y:Value) (s:Shared) (Q:Unit→Shared→Prop) (E:Value→Shared→Prop),ys[i]?=some y→St i s.heap→∃ k v,PairAt s.heap y k v∧
   ((∀ h' tk,St (i+1) h'→Xw d s.heap h'→Q () {s with heap:=h',toks:=tk})→wpAny (model prog w) A.in1 (dictSet d k v) Q E s)) :
  ∀ (n i:Nat) (s:Shared),ys.size-i=n→i≤ys.size→s.heap.IsListIter I l i→s.heap.IsList l ys→St i s.heap→
   (∀ h' tk,St ys.size h'→(∀ b o,b≠I→b≠d→s.heap.get? b=some o→h'.get? b=some o)→R (.ok (.ret .none)) {s with heap:=h',toks:=tk})→
   codeAny (model prog w) A (.builtin "dict.update.loop" ⟨[.ref d,.ref I,rawInt i,.none],[]⟩) R s:=by
 intro n
 induction n with
 |zero =>
  intro i s hn hi hit hl hst hR
  have e:i=ys.size:=by exact ar148 hn hi
  subst e
  refine codeAny_builtin entry_duloop ?_
  rw [Around.under_plainId plain_duloop _]
  show wpAny _ A.in1 (pyNext (.ref I)>>=_) _ _ s
  refine Xy (wpAny_pyNext_list_end hA hit hl (by simp) fun h' he=>?_)
  show wpAny _ _ (Builtin.Dict.addKeywords d []>>=_) _ _ _
  refine Xy (Xz (Xz ?_))
  exact hR h' s.toks (frame _ _ _ hst fun b o hb e=>he b o hb e) fun b o hb _ e=>he b o hb e
 |succ n ih =>
  intro i s hn hi hit hl hst hR
  have hlt:i<ys.size:=by exact ar149 hn hi
  refine codeAny_builtin entry_duloop ?_
  rw [Around.under_plainId plain_duloop _]
  show wpAny _ A.in1 (pyNext (.ref I)>>=_) _ _ s
  refine Xy (wpAny_pyNext_list_item hit hl (Xn hlt) fun h1 hit1 hs1=>?_)
  have hst1:=frame _ _ _ hst fun b o hb e=>(hs1.2 b hb).trans e
  have hl1:h1.IsList l ys:=hl.at fun o e=>(hs1.2 l (Ne.symm hIl)).trans e
  refine byC fun hG=>?_
  obtain⟨k,v,hp,hset⟩:=step i ys[i] {s with heap:=h1} (fun _ s'=>wpAny (model prog w) A.in1 (again (.builtin "dict.update.loop" ⟨[.ref d,.ref I,rawInt ((i:Int)+1),.none],[]⟩)) (fun fin s'=>match fin with|.done f=>R (.ok f) s'|.again c'=>c'.quiet=true∧codeAny (model prog w) A c' R s') (fun e s'=>R (.error e) s') s') (fun e s'=>R (.error e) s') (Xn hlt) hst1
  refine hG ?_
  clear hG
  dsimp only
  refine Xy (W1 (Xy (wpAny_tryCatch (pair_items hp ?_))))
  dsimp only
  refine W1 (hset fun h2 tk2 hst2 hs2=>?_)
  refine Xz ⟨plainId_quiet plain_duloop _,?_⟩
  have hit2:h2.IsListIter I l (i+1):=hit1.at fun o e=>(hs2.2 I hId).trans e
  have hl2:h2.IsList l ys:=hl1.at fun o e=>(hs2.2 l hld).trans e
  exact ih (i+1) _ (by exact ar150 hn hlt) hlt hit2 hl2 hst2 fun h' tk hst' hk=>hR h' tk hst' fun b o hb hb' e=>hk b o hb hb' ((hs2.2 b hb').trans ((hs1.2 b hb).trans e))
end Lay
set_option maxRecDepth 100000
namespace Lay
variable{C:Cx}
noncomputable def ip(p:Int×V):V:=.tup [.int p.1,p.2]
theorem ip_inj(p q:Int×V)(h:ip p=ip q):p=q:=by
 have h:=List.cons.inj (V.tup.inj h)
 exact Prod.ext (V.int.inj h.1) (List.cons.inj h.2).1
noncomputable def foldSet{K:Type} [DecidableEq K](ps:List (K×V)):List (K×V):=ps.foldl (fun d kv=>kvSet d kv.1 kv.2) []
theorem foldSet_take{K:Type} [DecidableEq K](ps:List (K×V)){i:Nat}{p:K×V}(h:ps[i]?=some p):foldSet (ps.take (i+1))=kvSet (foldSet (ps.take i)) p.1 p.2:=by
 unfold foldSet
 rw [List.take_add_one,h,List.foldl_append];rfl
noncomputable def bDictI(n:Nat):List V→M V:=one fun v s=>(lView v s).bind fun xs=>(un (List.map ip) xs).bind fun ps=>if ps.length≤lim then M.new n (.idict (foldSet ps)) s else none
inductive DicI(W:Wd)(ζ:HM)(ρ:RM)(D:Addr)(ps:List (Int×V))(i:Nat)(h:Heap):Prop
 |mk (es:Array DictEntry) (ep:Nat) (kys:List (Int×Value)) (a1:h.get? D=some (dctO es ep)) (a2:Ent W (intKind W.prog W.w) es kys) (a3:VRk W ζ ρ (foldSet (ps.take i)) kys) (a4:Le ζ h.get?)
theorem tup_frozen{W:Wd}{ζ:HM}{ρ:RM}{vs:List V}{x:Value}(r:VR W ζ ρ (.tup vs) x) : ∃ a o ys n,x = .ref a∧ζ a=some o∧o.cls = .type "tuple" ∧o.data = .seq ys n∧VRs W ζ ρ vs ys.toList:=by
 refine byC fun hG=>?_
 obtain⟨a,o,ys,rfl,h1,⟨hc,n,hd⟩,h2⟩:=r
 refine hG ?_
 clear hG
 exact⟨a,o,ys,n,rfl,h1,hc,hd,h2⟩
theorem pair_frozen{W:Wd}{ζ:HM}{ρ:RM}{u v:V}{x:Value}(r:VR W ζ ρ (.tup [u,v]) x) : ∃ k y,v.low=true∧VR W ζ ρ u k∧VR W ζ ρ v y∧∀ h:Heap,Le ζ h.get?→PairAt h x k y:=by
 refine byC fun hG=>?_
 obtain⟨a,o,ys,n,rfl,h1,hc,hd,h2⟩:=tup_frozen r
 refine hG ?_
 clear hG
 refine byC fun hG=>?_
 obtain⟨y1,r1,e1,_,q1,y2,r2,e2,hl,q2,e3⟩:=h2
 subst e3 e2
 refine hG ?_
 clear hG
 have:ys = #[y1,y2]:=Array.toList_inj.mp (by rw [e1])
 subst this
 exact⟨y1,y2,hl,q1,q2,fun h hz=>⟨a,o,n,rfl,hz _ _ h1,hc,hd⟩⟩
theorem dict_of_list{A:Around}{E:Value→Shared→Prop}{s:Shared}{W:Wd}{l:Addr}{ys:Array Value}{m:Nat}{Q:Value→Shared→Prop}(hA:A.handled=none)(hl:s.heap.get? l=some ⟨.type "list",none,.seq ys m,#[]⟩)(St:Nat→Heap→Prop)
  (frame : ∀ I i h h',s.heap.get? I=none→I≠s.heap.objs.size→St i h→(∀ b o,b≠I→h.get? b=some o→h'.get? b=some o)→St i h') (first : ∀ h,(∀ b o,s.heap.get? b=some o→h.get? b=some o)→h.get? s.heap.objs.size=some (dctO #[] 0)→St 0 h)
  (step : ∀ (i:Nat) (y:Value) (s':Shared) (Q:Unit→Shared→Prop) (E:Value→Shared→Prop),ys[i]?=some y→St i s'.heap→∃ k v,PairAt s'.heap y k v∧
   ((∀ h' tk,St (i+1) h'→Xw s.heap.objs.size s'.heap h'→Q () {s' with heap:=h',toks:=tk})→wpAny (model W.prog W.w) A.in1.in1 (dictSet s.heap.objs.size k v) Q E s'))
  (h : ∀ h' tk,St ys.size h'→(∀ b o,s.heap.get? b=some o→h'.get? b=some o)→Q (.ref s.heap.objs.size) {s with heap:=h',toks:=tk}):wpAny (model W.prog W.w) A (call (.type "dict") [.ref l]) Q E s:=by
 refine callType_codes (Q₁:=fun obj s₁=>obj = .ref s.heap.objs.size∧s₁={s with heap:=s.heap.push {cls:=.type "dict",data:=.dict #[]}}) PySem.F.kt_called_dict (PySem.F.kt_typeCall_dict_1 _) PySem.F.entry_dict_init (kt_code_dict_new _ ⟨rfl,rfl⟩) ?_
 rintro obj s₁ ⟨rfl,rfl⟩
 have hD:(s.heap.push {cls:=.type "dict",data:=.dict #[]}).get? s.heap.objs.size=some (dctO #[] 0):=Xs _ rfl
 have hT:({s with heap:=s.heap.push {cls:=.type "dict",data:=.dict #[]}}:Shared).TypeIs (.ref s.heap.objs.size) "dict" :=⟨_,hD,rfl⟩
 have hl1:=Zo s.heap {cls:=.type "dict",data:=.dict #[]} _ _ hl
 have hlt:l<s.heap.objs.size:=Xv hl
 refine⟨hT,PySem.F.args_dict_init_2 _ _,?_⟩
 unfold Builtin.«dict.__init__»
 refine Xy ?_
 unfold Builtin.Dict.selfAndRest
 refine Xy (wpAny_notOrdered_dict hT ?_)
 show wpAny _ _ (pure (s.heap.objs.size,[Value.ref l])) _ _ _
 refine Xz ?_
 show wpAny _ _ (Builtin.Dict.updateFrom "dict.__init__" s.heap.objs.size (.ref l) [] .none) _ _ _
 unfold Builtin.Dict.updateFrom
 refine Xy (wpAny_typeOf (T := "list") ⟨_,hl1,rfl⟩ ?_)
 rw [if_pos (by decide)]
 refine Xy (keys_none hl1 hA fun h2 tk2 hk2=>?_)
 rw [if_pos (by rfl)]
 refine Xy (wpAny_rule (Xy ?_))
 have hl2:=hk2 _ _ hl1
 have hD2:=hk2 _ _ hD
 refine wpAny_pyIter_list (l:=l) (items:=ys) ⟨_,hl2,rfl,_,rfl⟩ ?_
 have hI:(h2.push {cls:=.type "list_iterator",data:=.fields #[.ref l,.int 0 0]}).get? h2.objs.size=some {cls:=.type "list_iterator",data:=.fields #[.ref l,.int 0 0]}:=Xs _ rfl
 have hk3 : ∀ b o,s.heap.get? b=some o→(h2.push {cls:=.type "list_iterator",data:=.fields #[.ref l,.int 0 0]}).get? b=some o:=fun b o e=>Zo _ _ _ _ (hk2 _ _ (Zo _ _ _ _ e))
 have hDI:s.heap.objs.size≠h2.objs.size:=Yu (Xv hD2)
 have hlI:l≠h2.objs.size:=Yu (Xv hl2)
 have hIn:s.heap.get? h2.objs.size=none:=by
  cases q:s.heap.get? h2.objs.size with
  |none=>rfl
  |some o=>have:=Xv (hk2 _ _ (Zo _ {cls:=.type "dict",data:=.dict #[]} _ _ q));exact absurd this (Nat.lt_irrefl _)
 refine Xz ⟨plainId_quiet plain_duloop _,?_⟩
 refine update_loop (d:=s.heap.objs.size) (I:=h2.objs.size) (l:=l) (ys:=ys) (A:=A.in1) hA (Ne.symm hlI) (Ne.symm hDI) (Yu hlt) St (fun i h h' st hk=>frame _ i h h' hIn (Ne.symm hDI) st hk) step ys.size 0 _ rfl (Yx _) ⟨_,hI,rfl,rfl⟩ ⟨_,Zo _ _ _ _ hl2,rfl,_,rfl⟩ (first _ hk3 (Zo _ _ _ _ hD2)) fun h' tk hst hk=>?_
 refine⟨rfl,h h' tk hst fun b o e=>hk b o (fun q=>by rw [q,hIn] at e;injection e) (fun q=>by rw [q,get_size] at e;injection e) (hk3 b o e)⟩
theorem adopt_new{h₀ ζ:HM}{ρ:RM}{st:St}{h h':Heap}(rel:Rel C h₀ ζ ρ st h)(keep : ∀ b o,h.get? b=some o→h'.get? b=some o){n:Nat}(hn:st.hp n=none)(hT:n<C.T)(hB:n<100∨C.B≤n){O:O}{o:Obj}(ho:h'.get? h.objs.size=some o)
  (hO:OR C.W ζ (upd ρ n (some h.objs.size)) O o):Rel C h₀ ζ (upd ρ n (some h.objs.size)) {st with hp:=upd st.hp n (some O)} h'∧Gr C.T h ζ ρ h' ζ (upd ρ n (some h.objs.size)):=by
 have off:=rel.offNew (get_size h)
 obtain⟨R1,G1⟩:=rel.keepAll keep
 have le:Le ρ (upd ρ n (some h.objs.size)):=upd_le (rel.dom n hn)
 refine⟨R1.adoptS ho ⟨off.z,off.k,off.r,off.p⟩ (rel.not_sys (Yy _)) n hn hT hB O hO,⟨Le.refl _,fun m a _ e=>le m a e,fun _ _ e=>.inl e,fun m a e=>?_,G1.dm⟩⟩
 by_cases q:m=n
 ·subst q;rw [Zc] at e;injection e;exact .inr (get_size h)
 ·rw [upd_ne _ _ q] at e;exact .inl e
theorem foldSet_length{K:Type} [DecidableEq K](ps:List (K×V))(i:Nat):(foldSet (ps.take i)).length≤i:=by
 have key : ∀ (l:List (K×V)) (acc:List (K×V)),(l.foldl (fun d kv=>kvSet d kv.1 kv.2) acc).length≤acc.length+l.length:=by
  intro l
  induction l with
  |nil=>intro acc;simp
  |cons a l ih =>
   intro acc
   have:=ih (kvSet acc a.1 a.2)
   have h2:=kvSet_length acc a.1 a.2
   simp only [List.foldl_cons,Xg];exact ar151 this h2
 have:=key (ps.take i) []
 simp only [List.length_nil,Nat.zero_add,List.length_take] at this
 unfold foldSet;exact ar152 this
theorem bDictI_C{n:Nat}(hT:n<C.T)(hB:n<100∨C.B≤n):SimC C (.type "dict") (bDictI n):=one_C <|by
 intro h₀ ζ ρ st s P E u x ok rel r v st' e k
 refine byC fun hG=>?_
 obtain⟨l,hl,e⟩:=ob e
 obtain⟨ps,hps,e⟩:=ob e
 obtain⟨hlen,e⟩:=io e
 obtain⟨hn,e3⟩:=M.new_some e
 injection e3
 have hps:=Zk hps
 obtain⟨a,ys,m,rfl,ho,hr⟩:=lView_obj rel hl r
 have hp1:ps.length=l.length:=by rw [hps,X4]
 have hz:ys.size=ps.length:=by rw [hp1,←hr.length];simp
 refine hG (dict_of_list (W:=C.W) ok.room.handled ho (DicI C.W ζ ρ s.heap.objs.size ps)
  (fun I i h h' hI hne w hk=>?_) (fun h hk hd=>⟨#[],0,[],hd,Ent.none _,rfl,fun b o q=>hk b o (rel.frozen b o q)⟩)
  (fun i y s' Q' E' hy w=>byC fun hG=>?_) (fun h' tk w hk=>?_))
 ·obtain⟨es,ep,kys,a1,a2,a3,a4⟩:=w
  exact⟨es,ep,kys,hk _ _ (Ne.symm hne) a1,a2,a3,fun b o q=>hk b o (fun q'=>by rw [q'] at q;rw [rel.frozen _ _ q] at hI;injection hI) (a4 b o q)⟩
 ·obtain⟨es,ep,kys,a1,a2,a3,a4⟩:=w
  have hi:i<ps.length:=by rw [←hz];exact(Xq.mp hy).1
  have hp3:=X3 hi
  obtain⟨y',hy',_,ry⟩:=hr.get i (ip ps[i]) (by rw [hps,X8,hp3];rfl)
  rw [Xo,hy] at hy'
  injection hy'
  generalize ps[i]=p at *
  obtain⟨ky,vy,hl2,r1,r2,hpair⟩:=pair_frozen ry
  obtain⟨t,rfl⟩:=r1
  refine hG ⟨_,_,hpair _ a4,fun hq=>wpAny_dictSet_pairs (isInt_self (W:=C.W) p.1 t) (a2.dictOf a1) (fun h' hd' hs'=>?_) ?_⟩
  ·obtain⟨es',ep',ho',he'⟩:=Ent.back hd'
   exact hq h' _ ⟨es',ep',_,ho',he',by rw [foldSet_take ps hp3];exact a3.stored p.1 hl2 r2,fun b o q=>(hs'.2 b (fun q'=>by rw [q'] at q;have:=rel.frozen _ _ q;rw [get_size] at this;injection this)).trans (a4 b o q)⟩ hs'
  ·have:=a3.length
   have h2:=foldSet_length ps i
   have h3:=lim_le (n:=kys.length+1) (by exact ar153 hlen hp1 hz hi this h2)
   exact ar154 this h3
 ·obtain⟨es,ep,kys,a1,a2,a3,a4⟩:=w
  have hle:Le ρ (upd ρ n (some s.heap.objs.size)):=upd_le (rel.dom n hn)
  rw [show ps.take ys.size=ps from List.take_of_length_le (by exact ar155 hp1 hz)] at a3
  obtain⟨R',G'⟩:=adopt_new rel hk hn hT hB (O:=.idict (foldSet ps)) a1 ⟨es,ep,kys,rfl,a2,a3.mono (Le.refl _) hle.low⟩
  exact k _ _ _ _ _ G' R' (by refine(?_:Exists _);exact⟨_,Zc _ _ _,rfl⟩)
end Lay
set_option maxRecDepth 100000
namespace Lay
variable{C:Cx}
noncomputable def isLst(v:V)(s:St):Bool:=(lView v s).isSome
theorem MethAt.list{name:Str}{id:String}(slot:Slot "list" name id)(hty:typeOf (.builtin id)=pure (.type "method_descriptor")):MethAt C name (.builtin id) (fun v s=>isLst v s=true):=by
 intro h₀ ζ ρ st s pl P E v x ok rel r hv k
 refine byC fun hG=>?_
 obtain⟨xs,hxs⟩:=Option.isSome_iff_exists.mp hv
 obtain⟨a,ys,n,rfl,ho,_⟩:=lView_obj rel hxs r
 refine hG ?_
 clear hG
 exact getMethod_builtin ⟨_,ho,rfl⟩ PySem.F.plainAttrs_list slot hty (fun b e=>by injection e;exact⟨_,ho,rfl⟩) k
noncomputable def v2(p:V×V):List V := [p.1,p.2]
noncomputable def mApp(vs:List V):M V:=fun s=>(un v2 vs).bind fun p=>(un V.ref p.1).bind fun n=>((s.hp n).bind (un O.list)).bind fun xs =>
 if p.2.low=true∧xs.length<lim then some (.none,{s with hp:=upd s.hp n (some (.list (xs ++ [p.2])))}) else none
theorem mApp_C:SimC C (.builtin "list.append") mApp:=by
 intro h₀ ζ ρ st s P E vs xs ok rel ra v st' e k
 refine byC fun hG=>?_
 obtain⟨⟨w,u⟩,q1,e⟩:=ob e
 obtain⟨n,q2,e⟩:=ob e
 obtain⟨l,hl,e⟩:=ob e
 obtain⟨hg,e⟩:=io e
 injection e
 obtain⟨O,hl,q3⟩:=ob hl
 rw [Zk q3] at hl
 rw [Zk (f:=v2) q1] at ra
 obtain⟨x,_,rfl,r,y,_,rfl,r2,rfl⟩:=ra
 rw [show w = .ref n from Zk q2] at r
 obtain⟨a,hn,rfl⟩:=r
 obtain⟨a',o,h1,h2,ys,⟨m,rfl⟩,h4⟩:=rel.slot n _ hl
 obtain rfl:a'=a:=Xm (h1.symm.trans hn)
 have hz:ys.size=l.length:=by rw [←h4.length];simp
 refine hG (wpAny_list_append_plain ⟨m,h2⟩ (fun h' ⟨m',ho'⟩ hs=>?_) (by rw [hz];exact lim_le (Yw hg.2)))
 obtain⟨R',G'⟩:=rel.set hn hs ho' (O:=.list (l ++ [u])) ⟨_,⟨m',rfl⟩,by simpa using h4.snoc hg.1 r2⟩
 exact k _ _ _ _ _ G' R' rfl
noncomputable def mPop:List V→M V:=one fun v s=>(un V.ref v).bind fun n=>((s.hp n).bind (un O.list)).bind fun xs=>(xs.getLast?).bind fun u =>
 if xs.length≤lim then some (u,{s with hp:=upd s.hp n (some (.list xs.dropLast))}) else none
theorem VRs.dropLast{W:Wd}{ζ:HM}{ρ:RM}{v:List V}{x:List Value}(h:VRs W ζ ρ v x):VRs W ζ ρ v.dropLast x.dropLast:=by
 rw [List.dropLast_eq_take,List.dropLast_eq_take,h.length];exact h.take _
theorem mPop_C:SimC C (.builtin "list.pop") mPop:=one_C <|by
 intro h₀ ζ ρ st s P E u x ok rel r v st' e k
 refine byC fun hG=>?_
 obtain⟨n,q2,e⟩:=ob e
 obtain⟨l,hl,e⟩:=ob e
 obtain⟨u',hu,e⟩:=ob e
 obtain⟨hlen,e⟩:=io e
 injection e
 obtain⟨O,hl,q3⟩:=ob hl
 rw [Zk q3] at hl
 rw [Zk q2] at r
 obtain⟨a,hn,rfl⟩:=r
 obtain⟨a',o,h1,h2,ys,⟨m,rfl⟩,h4⟩:=rel.slot n _ hl
 obtain rfl:a'=a:=Xm (h1.symm.trans hn)
 have hz:ys.size=l.length:=by rw [←h4.length];simp
 have hpos:0<l.length:=by cases l with|nil=>cases hu|cons _ _=>simp
 rw [List.getLast?_eq_getElem?] at hu
 obtain⟨y,hy,_,ry⟩:=h4.get (l.length-1) v hu
 rw [Xo,←hz] at hy
 have s1:=Xw.update s.heap a' (Obj.mapSeq fun xs=>xs.eraseIdxIfInBounds (ys.size-1))
 have ho:=get?_update_seq h2 fun xs=>xs.eraseIdxIfInBounds (ys.size-1)
 have he:(ys.eraseIdxIfInBounds (ys.size-1)).toList=ys.toList.dropLast:=by
  have hlt:ys.size-1<ys.size:=by exact ar157 hz hpos
  rw [Array.eraseIdxIfInBounds,dif_pos hlt,Array.toList_eraseIdx,List.dropLast_eq_take,Xp]
  rw [List.eraseIdx_eq_take_drop_succ]
  have:ys.size-1+1=ys.size:=by exact ar158 hz hpos hlt
  rw [this,List.drop_of_length_le (by simp),Xe]
 obtain⟨R',G'⟩:=rel.set hn s1 ho (O:=.list l.dropLast) ⟨_,⟨_,rfl⟩,by rw [he];exact h4.dropLast⟩
 refine hG ?_
 refine call_meets PySem.F.slot_list_pop ⟨_,h2,rfl⟩ PySem.F.entry_list_pop (PySem.F.args_list_pop_1 _) (PySem.MeetsSeq.list_pop_last a' ys m y hy (by rw [hz];exact lim_le hlen)) ⟨h2,?_⟩
 exact k ζ ρ _ s.toks y G' R' (VR.gr rel G' ry)
theorem Sim_CallSortedK{x:Str}{p pos kp:Pos}{arg kv:PySem.Expr}{q:Addr}{m:M V}{c:Option Nat}{fm:FM}{B k:Nat}(hf:SimE C (eval (.Name x p) C.env) (pure (.val (.builtin "sorted"))))(ha:SimE C (eval arg C.env) m)(hkey:SimE C (eval kv C.env) (pure (.val (.ref q))))
  (hc:okSlot C c) (hq:FnSim C.W (.ref q) B k fm) (hB:C.T≤B) (hk:k+1≤C.k) (hs:starEach [arg] C.env=(false,eval arg C.env)::starEach [] C.env:=by rfl) :
  SimE C (eval (.Call (.Name x p) [arg] [⟨some (Xx "key"),kv,kp⟩] pos) C.env) (do let v←m;bSortedK c fm v):=by
 intro h₀ ζ ρ st s P E ok rel v st' e kk
 refine byC fun hG=>?_
 obtain⟨u,s1,e1,e2⟩:=W6 e
 refine hG ?_
 clear hG
 show wpAny _ _ (eval (.Name x p) C.env>>=fun f=>callWith pos f [] (backTo pos (starEach [arg] C.env)) (backToKw pos (keywordEach [⟨some (Xx "key"),kv,kp⟩] C.env))) _ _ _
 refine Xy (hf h₀ ζ ρ st s _ E ok rel _ _ rfl fun ζ1 ρ1 h1 tk1 y G1 rel1 r1=>?_)
 change _=_ at r1
 subst r1
 refine callWith_kw ?_ (by rw [hs];rfl) (by rw [hs];rfl)
 refine spliced_more (ha h₀ ζ1 ρ1 st _ _ E ok rel1 u s1 e1 fun ζ2 ρ2 h2 tk2 z G2 rel2 r2=>spliced_none ?_) hs
 refine kws_cons (hkey h₀ ζ2 ρ2 s1 _ _ E ok rel2 _ _ rfl fun ζ3 ρ3 h3 tk3 w G3 rel3 r3=>kws_nil ?_)
 change _=_ at r3
 subst r3
 exact bSortedK_K hc hq hB hk h₀ ζ3 ρ3 s1 _ P E u z ok rel3 (VR.gr rel2 G3 r2) v st' e2 fun ζ4 ρ4 h4 tk4 b G4 rel4 r4=>kk ζ4 ρ4 h4 tk4 b (((G1.trans G2).trans G3).trans G4) rel4 r4
end Lay
namespace Lay
noncomputable def X.nil:M (List V):=pure []
noncomputable def X.cons(m1:M V)(m2:M (List V)):M (List V):=do let v←m1;let vs←m2;pure (v::vs)
noncomputable def X.tup(m:M (List V)):M V:=do let vs←m;mkTup vs
noncomputable def X.list(c:Option Nat)(m:M (List V)):M V:=do let vs←m;mkList c vs
noncomputable def X.op1(g:V→M V)(m:M V):M V:=m>>=g
noncomputable def X.op2(g:V→V→M V)(m1 m2:M V):M V:=do let a←m1;let b←m2;g a b
noncomputable def X.call(g:List V→M V)(ma:M (List V)):M V:=do let vs←ma;g vs
noncomputable def X.meth(okp:V→St→Bool)(g:List V→M V)(mo:M V)(ma:M (List V)):M V:=do let v←mo;(fun s=>M.guard (okp v s) s);let vs←ma;g (v::vs)
noncomputable def X.ife(mt:M Bool)(m1 m2:M V):M V:=do let b←mt;if b then m1 else m2
noncomputable def X.truth(m:M V):M Bool:=do let v←m;asBool v
noncomputable def X.tcmp(g:V→V→M V)(m1 m2:M V):M Bool:=do let a←m1;let b←m2;let c←g a b;asBool c
noncomputable def X.tnot(m:M Bool):M Bool:=do let b←m;pure (!b)
noncomputable def X.and0:M Bool:=pure true
noncomputable def X.or0:M Bool:=pure false
noncomputable def X.and1(m1 m2:M Bool):M Bool:=do let b←m1;if b then m2 else pure false
noncomputable def X.or1(m1 m2:M Bool):M Bool:=do let b←m1;if b then pure true else m2
noncomputable def X.comp(c:Option Nat)(T j:Nat)(mi:M V)(mt:M Bool)(me:M V):M V:=do let v←mi;M.guard (v.stays T);M.comp c v j mt me
noncomputable def X.dnil:M (List (V×V)):=pure []
noncomputable def X.dcons(m1 m2:M V)(m3:M (List (V×V))):M (List (V×V)):=do let a←m1;let b←m2;let r←m3;pure ((a,b)::r)
noncomputable def X.dictS(n:Nat)(m:M (List (V×V))):M V:=do let vs←m;mkDict strKey .sdict n vs
noncomputable def X.dictI(n:Nat)(m:M (List (V×V))):M V:=do let vs←m;mkDict intKey .idict n vs
noncomputable def X.sortedK(c:Option Nat)(fm:FM)(m:M V):M V:=do let v←m;bSortedK c fm v
noncomputable def Y.end:M Fl:=pure .next
noncomputable def Y.assign(i:Nat)(m:M V):M Fl:=do let v←m;M.setL i v;pure .next
noncomputable def Y.assignDisp(is:List Nat)(m:M (List V)):M Fl:=do let vs←m;M.guard (decide (vs.length≤100));M.sets is vs;pure .next
noncomputable def Y.assignSwap(is:List Nat)(m:M (List V)):M Fl:=do let vs←m;M.guard (decide (vs.length≤100));M.sets is vs.reverse;pure .next
noncomputable def Y.assignSub(m mo mi:M V):M Fl:=do let u←m;let v←mo;let k←mi;setI v k u;pure .next
noncomputable def Y.assignAttr(Cl:Addr)(name:Str)(m mo:M V):M Fl:=do let u←m;let v←mo;setA Cl name v u;pure .next
noncomputable def Y.ret(m:M V):M Fl:=do let v←m;pure (.ret v)
noncomputable def Y.expr(m:M V):M Fl:=do let _←m;pure .next
noncomputable def Y.ite(mt:M Bool)(m1 m2:M Fl):M Fl:=do let b←mt;if b then m1 else m2
noncomputable def Y.for(B:Nat)(mi:M V)(bind:V→M Unit)(mb:M Fl):M Fl:=do let v←mi;M.guard (v.stays B);M.forS v bind mb
noncomputable def instOk(Cl:Addr)(name:Str):V→St→Bool:=fun v s=>(instOf v s).any fun p=>decide (p.1=Cl)&&(kvGet p.2 name).isNone
theorem len0{α:Type}{xs:List α}(h:xs.length=0):xs = []:=List.eq_nil_of_length_eq_zero h
theorem lenS{α:Type}{n:Nat}{xs:List α}(h:xs.length=n+1) : ∃ a r,xs=a::r∧r.length=n:=by
 cases xs with
 |nil=>injection h
 |cons a r=>exact⟨a,r,rfl,Nat.succ.inj h⟩
theorem len1{α:Type}{xs:List α}(h:xs.length=1) : ∃ a,xs = [a]:=by
 obtain⟨a,r,rfl,h2⟩:=lenS h;rw [len0 h2];exact⟨a,rfl⟩
theorem len2{α:Type}{xs:List α}(h:xs.length=2) : ∃ a b,xs = [a,b]:=by
 obtain⟨a,r,rfl,h2⟩:=lenS h;obtain⟨b,rfl⟩:=len1 h2;exact⟨a,b,rfl⟩
theorem len3{α:Type}{xs:List α}(h:xs.length=3) : ∃ a b c,xs = [a,b,c]:=by
 obtain⟨a,r,rfl,h2⟩:=lenS h;obtain⟨b,c,rfl⟩:=len2 h2;exact⟨a,b,c,rfl⟩
theorem bind1{s:Shared}{fd:FuncData}{names:List Str}{xs:List Value}(hl:xs.length=1)(h : ∀ a,bindArgs fd ⟨[a],[]⟩=pure (names.zip [a])):BindsTo s fd ⟨xs,[]⟩ (names.zip xs):=by
 obtain⟨a,rfl⟩:=len1 hl
 exact .of_eq (h a)
theorem bind2{s:Shared}{fd:FuncData}{names:List Str}{xs:List Value}(hl:xs.length=2)(h : ∀ a b,bindArgs fd ⟨[a,b],[]⟩=pure (names.zip [a,b])):BindsTo s fd ⟨xs,[]⟩ (names.zip xs):=by
 refine byC fun hG=>?_
 obtain⟨a,b,rfl⟩:=len2 hl
 refine hG ?_
 clear hG
 exact .of_eq (h a b)
theorem bind3{s:Shared}{fd:FuncData}{names:List Str}{xs:List Value}(hl:xs.length=3)(h : ∀ a b c,bindArgs fd ⟨[a,b,c],[]⟩=pure (names.zip [a,b,c])):BindsTo s fd ⟨xs,[]⟩ (names.zip xs):=by
 refine byC fun hG=>?_
 obtain⟨a,b,c,rfl⟩:=len3 hl
 refine hG ?_
 clear hG
 exact .of_eq (h a b c)
theorem bind4{s:Shared}{fd:FuncData}{names:List Str}{xs:List Value}(hl:xs.length=4)(h : ∀ a b c d,bindArgs fd ⟨[a,b,c,d],[]⟩=pure (names.zip [a,b,c,d])):BindsTo s fd ⟨xs,[]⟩ (names.zip xs):=by
 refine byC fun hG=>?_
 obtain⟨a,r,rfl,h2⟩:=lenS hl
 obtain⟨b,c,d,rfl⟩:=len3 h2
 refine hG ?_
 clear hG
 exact .of_eq (h a b c d)
theorem bind5{s:Shared}{fd:FuncData}{names:List Str}{xs:List Value}(hl:xs.length=5)(h : ∀ a b c d e,bindArgs fd ⟨[a,b,c,d,e],[]⟩=pure (names.zip [a,b,c,d,e])):BindsTo s fd ⟨xs,[]⟩ (names.zip xs):=by
 refine byC fun hG=>?_
 obtain⟨a,r,rfl,h2⟩:=lenS hl
 obtain⟨b,r,rfl,h3⟩:=lenS h2
 obtain⟨c,d,e,rfl⟩:=len3 h3
 refine hG ?_
 clear hG
 exact .of_eq (h a b c d e)
theorem bindD3{s:Shared}{fd:FuncData}{names:List Str}{xs:List Value}(hl:xs.length=3)(h : ∀ a b c,BindsTo s fd ⟨[a,b,c],[]⟩ (names.zip [a,b,c])):BindsTo s fd ⟨xs,[]⟩ (names.zip xs):=by
 refine byC fun hG=>?_
 obtain⟨a,b,c,rfl⟩:=len3 hl
 refine hG ?_
 clear hG
 exact h a b c
end Lay
set_option maxRecDepth 100000
namespace Lay
variable{C:Cx}
noncomputable def X.bAnd(m1 m2:M V):M V:=do let v←m1;let b←asBool v;if b then m2 else pure (.bool false)
noncomputable def X.bOr(m1 m2:M V):M V:=do let v←m1;let b←asBool v;if b then pure (.bool true) else m2
theorem asBool_some{v:V}{s:St}{r:Bool×St}(e:asBool v s=some r):v = .bool r.1∧r.2=s:=by
 cases v<;>first|(injection e;exact⟨rfl,rfl⟩)|injection e
theorem Sim_BOne{op:BoolOp}{e:PySem.Expr}{pos:Pos}{m:M V}(h:SimE C (eval e C.env) m):SimE C (eval (.BoolOp op [e] pos) C.env) m :=
 fun h₀ ζ ρ st s P E ok rel a st' e k=>BoolOp_one (h h₀ ζ ρ st s P E ok rel a st' e k)
theorem Sim_BAnd{e1 e2:PySem.Expr}{rest:List PySem.Expr}{pos:Pos}{m1 m2:M V}(h1:SimE C (eval e1 C.env) m1)(h2:SimE C (eval (.BoolOp .And (e2::rest) pos) C.env) m2):SimE C (eval (.BoolOp .And (e1::e2::rest) pos) C.env) (X.bAnd m1 m2):=by
 intro h₀ ζ ρ st s P E ok rel a st' e k
 refine byC fun hG=>?_
 obtain⟨v,s1,e1,e⟩:=W6 e
 obtain⟨b,s2,e2,e3⟩:=W6 e
 obtain⟨rfl,rfl⟩:=asBool_some e2
 refine hG ?_
 clear hG
 refine BoolOp_and (h1 h₀ ζ ρ st s _ E ok rel _ _ e1 fun ζ1 ρ1 h1' tk1 x G1 rel1 r1=>?_)
 change _=_ at r1
 subst r1
 refine wpAny_truthy_bool ?_
 cases b with
 |true=>exact h2 h₀ ζ1 ρ1 s2 _ P E ok rel1 a st' e3 fun ζ2 ρ2 h2' tk2 y G2 rel2 r2=>k ζ2 ρ2 h2' tk2 y (G1.trans G2) rel2 r2
 |false=>injection e3;exact k ζ1 ρ1 h1' tk1 _ G1 rel1 rfl
theorem Sim_BOr{e1 e2:PySem.Expr}{rest:List PySem.Expr}{pos:Pos}{m1 m2:M V}(h1:SimE C (eval e1 C.env) m1)(h2:SimE C (eval (.BoolOp .Or (e2::rest) pos) C.env) m2):SimE C (eval (.BoolOp .Or (e1::e2::rest) pos) C.env) (X.bOr m1 m2):=by
 intro h₀ ζ ρ st s P E ok rel a st' e k
 refine byC fun hG=>?_
 obtain⟨v,s1,e1,e⟩:=W6 e
 obtain⟨b,s2,e2,e3⟩:=W6 e
 obtain⟨rfl,rfl⟩:=asBool_some e2
 refine hG ?_
 clear hG
 refine BoolOp_or (h1 h₀ ζ ρ st s _ E ok rel _ _ e1 fun ζ1 ρ1 h1' tk1 x G1 rel1 r1=>?_)
 change _=_ at r1
 subst r1
 refine wpAny_truthy_bool ?_
 cases b with
 |false=>exact h2 h₀ ζ1 ρ1 s2 _ P E ok rel1 a st' e3 fun ζ2 ρ2 h2' tk2 y G2 rel2 r2=>k ζ2 ρ2 h2' tk2 y (G1.trans G2) rel2 r2
 |true=>injection e3;exact k ζ1 ρ1 h1' tk1 _ G1 rel1 rfl
noncomputable def bInt:List V→M V:=one fun v s=>(un V.int v).bind fun _=>some (v,s)
theorem bInt_C:SimC C (.type "int") bInt:=one_C <|by
 intro h₀ ζ ρ st s P E u x ok rel r v st' e k
 refine byC fun hG=>?_
 obtain⟨i,h,e⟩:=ob e
 injection e
 have r':=r
 rw [Zk h] at r
 obtain⟨t,rfl⟩:=r
 exact hG (call_int_int (k ζ ρ s.heap _ _ (Gr.refl _ _ _ _) rel r'))
noncomputable def bSum:List V→M V:=one fun v s=>(lView v s).bind fun xs=>(intsOf xs).bind fun l=>some (.int l.sum,s)
theorem IntsAre.all{ys:Array Value}{l:List Int}(h:IntsAre ys.toList l):AllInts ys∧numsOf ys.toList=l:=by
 have:=h.allInts
 rw [Array.toArray_toList] at this
 exact⟨this,h.numsOf⟩
theorem bSum_C:SimC C (.builtin "sum") bSum:=one_C <|by
 intro h₀ ζ ρ st s P E u x ok rel r v st' e k
 refine byC fun hG=>?_
 obtain⟨ws,hw,e⟩:=ob e
 obtain⟨l,hl,e⟩:=ob e
 injection e
 obtain⟨a,ys,rfl,h1,hr⟩:=lView_at rel hw r
 obtain⟨hall,hn⟩:=IntsAre.all (ints_are2 hl hr)
 obtain⟨ps,rfl⟩:=hall.items
 rw [nums_intItems] at hn
 refine hG (sum_intListG ok.room.handled h1 fun h' tk t' hk=>?_)
 rw [preSum_eq,List.take_of_length_le (by simp),hn]
 obtain⟨R',G'⟩:=rel.keepAll hk
 exact k ζ ρ h' tk _ G' R' (Exists.intro _ rfl)
noncomputable def bDictD(n:Nat):List V→M V:=one fun v s=>(dView v s).bind fun kvs=>if kvs.length≤lim then M.new n (.idict kvs) s else none
theorem bDictD_C{n:Nat}(hT:n<C.T)(hB:n<100∨C.B≤n):SimC C (.type "dict") (bDictD n):=one_C <|by
 intro h₀ ζ ρ st s P E u x ok rel r v st' e k
 refine byC fun hG=>?_
 obtain⟨kvs,hv,e⟩:=ob e
 obtain⟨hlen,e⟩:=io e
 obtain⟨hn,e3⟩:=M.new_some e
 injection e3
 obtain⟨a,kys,rfl,hsys,hd,hk⟩:=dView_at rel hv r
 refine hG (kt_call_dict hsys hd (by rw [hk.length];exact lim_le hlen) fun h' hd' hs=>byC fun hG=>?_)
 have keep : ∀ b o,s.heap.get? b=some o→h'.get? b=some o:=fun b o q=>(hs.2 b (fun q'=>by rw [q',get_size] at q;injection q)).trans (Zo _ _ _ _ q)
 obtain⟨es,ep,ho,he⟩:=Ent.back hd'
 have hle:Le ρ (upd ρ n (some s.heap.objs.size)):=upd_le (rel.dom n hn)
 obtain⟨R',G'⟩:=adopt_new rel keep hn hT hB (O:=.idict kvs) ho ⟨es,ep,kys,rfl,he,hk.mono (Le.refl _) hle.low⟩
 exact hG (k _ _ _ _ _ G' R' (by refine(?_:Exists _);exact⟨_,Zc _ _ _,rfl⟩))
end Lay
set_option maxRecDepth 100000
namespace Lay
theorem rev_no_own:typeLookup (.type "tuple") "__reversed__" =pure none:=by rw [typeLookup_type,builtinLookup_eq_fast];kernel_rfl
theorem rev_sub_dict:isSubtype (.type "tuple") (.type "dict")=pure false:=by rw [isSubtype_type];kernel_rfl
theorem rev_init:Slot "reversed" "__init__" "object.__init__" :=
 .of (owner := "object") (n := "__init__") (by rw [typeLookup_type,builtinLookup_eq_fast];kernel_rfl) (by decide +kernel) (by decide +kernel) (by decide +kernel)
  (by first|exact .inl (by decide +kernel)|exact .inr (by decide +kernel)) (by rw [isSubtype_type];kernel_rfl)
theorem rev_next:Slot "reversed" "__next__" "reversed.__next__" :=
 .of (owner := "reversed") (n := "__next__") (by rw [typeLookup_type,builtinLookup_eq_fast];kernel_rfl) (by decide +kernel) (by decide +kernel) (by decide +kernel)
  (by first|exact .inl (by decide +kernel)|exact .inr (by decide +kernel)) (by rw [isSubtype_type];kernel_rfl)
theorem rev_iter:Slot "reversed" "__iter__" "reversed.__iter__" :=
 .of (owner := "reversed") (n := "__iter__") (by rw [typeLookup_type,builtinLookup_eq_fast];kernel_rfl) (by decide +kernel) (by decide +kernel) (by decide +kernel)
  (by first|exact .inl (by decide +kernel)|exact .inr (by decide +kernel)) (by rw [isSubtype_type];kernel_rfl)
theorem rev_hint:Slot "reversed" "__length_hint__" "reversed.__length_hint__" :=
 .of (owner := "reversed") (n := "__length_hint__") (by rw [typeLookup_type,builtinLookup_eq_fast];kernel_rfl) (by decide +kernel) (by decide +kernel) (by decide +kernel)
  (by first|exact .inl (by decide +kernel)|exact .inr (by decide +kernel)) (by rw [isSubtype_type];kernel_rfl)
theorem rev_called:TypeCalled "reversed" "reversed.__new__" "object.__init__" :=
 ⟨by decide +kernel,F.create_reversed,⟨_,_,F.mro_reversed⟩,F.made_reversed,F.plain_reversed_new,F.sub_reversed_self,rev_init⟩
end Lay
namespace Lay
noncomputable def revT(t:Addr)(i:Int):Obj:={cls:=.type "reversed",data:=.fields #[.ref t,rawInt i]}
section
variable{prog:Program}{w:World}{A:Around}{E:Value→Shared→Prop}{s:Shared}
theorem owner_rev:Manifest.owners.lookup (String.ofList ['d','e','s','r','e','v','e','r'].reverse)=some Manifest.sig_reversed:=by kernel_rfl
theorem args_rev_next(a:Value):argsOk "reversed.__next__" ⟨[a],[]⟩:=by
 unfold argsOk;rw [signature?_of (id := "reversed.__next__") (n := ['_','_','t','x','e','n','_','_']) (o := ['d','e','s','r','e','v','e','r']) (by kernel_rfl) owner_rev];kernel_rfl
theorem args_rev_iter(a:Value):argsOk "reversed.__iter__" ⟨[a],[]⟩:=by
 unfold argsOk;rw [signature?_of (id := "reversed.__iter__") (n := ['_','_','r','e','t','i','_','_']) (o := ['d','e','s','r','e','v','e','r']) (by kernel_rfl) owner_rev];kernel_rfl
theorem args_rev_hint(a:Value):argsOk "reversed.__length_hint__" ⟨[a],[]⟩:=by
 unfold argsOk;rw [signature?_of (id := "reversed.__length_hint__") (n := ['_','_','t','n','i','h','_','h','t','g','n','e','l','_','_']) (o := ['d','e','s','r','e','v','e','r']) (by kernel_rfl) owner_rev];kernel_rfl
theorem entry_rev_next:entryFor table "reversed.__next__" =some Builtin.«reversed.__next__»:=entryFor_of_tree (by kernel_rfl)
theorem entry_rev_hint:entryFor table "reversed.__length_hint__" =some Builtin.«reversed.__length_hint__»:=entryFor_of_tree (by kernel_rfl)
theorem entry_rev_iter:entryFor table "reversed.__iter__" =some Builtin.«dict_keyiterator.__iter__» :=
 entryFor_alias (id' := "dict_keyiterator.__iter__") (by kernel_rfl) (by first|rfl|decide +kernel|(unfold String.splitOn;simp +decide [String.splitOnAux])) (by decide +kernel) (by kernel_rfl)
theorem rev_typeIs{I t:Addr}{i:Int}(h:s.heap.get? I=some (revT t i)):s.TypeIs (.ref I) "reversed" :=⟨_,h,rfl⟩
theorem meets_rev_new(t:Addr)(ys:Array Value)(hz:(ys.size:Int)<2^63) :
  Meets (Builtin.«reversed.__new__» ⟨[.type "reversed",.ref t],[]⟩) (fun _ R s=>IsTup s.heap t ys∧∀ tk,R (.ok (.ret (.ref s.heap.objs.size))) {s with heap:=s.heap.push (revT t ((ys.size:Int)-1)),toks:=tk}) :=
 .of_wp fun prog w A R s h=>by
  obtain⟨ht,h⟩:=h
  have hT:s.TypeIs (.ref t) "tuple" :=by obtain⟨o,ho,hc,_⟩:=ht;exact⟨o,ho,hc⟩
  unfold Builtin.«reversed.__new__»
  refine Xy (W0 (newClass_reversed _) ?_)
  try dsimp only
  refine Xy (W0 (a:=()) (by first|rfl|kernel_rfl) ?_)
  refine Xy (W0 (a:=()) (by first|rfl|kernel_rfl) ?_)
  try dsimp only
  refine Xy (wpAny_specialOf hT rev_no_own ?_)
  try dsimp only
  refine Xy ?_
  show wpAny _ _ (isInstance (.ref t) (.type "dict")>>=_) _ _ _
  refine Xy (wpAny_isInstance hT rev_sub_dict ?_)
  rw [if_neg (by decide)]
  refine Xy (wpAny_specialOf hT PyProof.Rows.slot_tuple_getitem.lookup ?_)
  dsimp only
  rw [if_pos (by decide +kernel)]
  refine Xz ?_
  rw [if_neg (by decide)]
  refine Xy (PyProof.Rows.len_tuple ht hz ?_)
  refine Xy (W0 (a:=some (ys.size:Int)) rfl ?_)
  try dsimp only
  refine Xy ?_
  unfold Builtin.SmallTypes.newRecord
  dsimp only
  refine wpAny_newObj_type ?_
  exact Xz ⟨_,rfl,h _⟩
theorem call_rev_tuple{t:Addr}{ys:Array Value}{Q:Value→Shared→Prop}(ht:IsTup s.heap t ys)(hz:(ys.size:Int)<2^63)
  (h : ∀ tk,Q (.ref s.heap.objs.size) {s with heap:=s.heap.push (revT t ((ys.size:Int)-1)),toks:=tk}):wpAny (model prog w) A (call (.type "reversed") [.ref t]) Q E s :=
 callType_new rev_called (by decide) (F.typeCall_reversed_1 _) (F.newCall_reversed_1 _) (fun obj=>F.args_object_init_2 obj _) F.entry_reversed_new
  (meets_rev_new t ys hz) ⟨ht,fun tk=>⟨⟨_,Xs _ rfl,rfl⟩,h tk⟩⟩
theorem iter_rev{I t:Addr}{i:Int}{Q:Value→Shared→Prop}(hI:s.heap.get? I=some (revT t i))(h:Q (.ref I) s):wpAny (model prog w) A (pyIter (.ref I)) Q E s:=by
 have hT:=rev_typeIs (s:=s) hI
 refine wpAny_pyIter_slot hT rev_iter (W2 rev_iter hT entry_rev_iter ?_ (args_rev_iter _))
 show wpAny _ _ (ret (.ref I)) _ _ s
 exact Xz ⟨_,rfl,"reversed",_,hT,rev_next.lookup,h⟩
theorem next_rev{I t:Addr}{i:Nat}{ys:Array Value}{y:Value}{Q:Option Value→Shared→Prop}(hI:s.heap.get? I=some (revT t (i:Int)))(ht:IsTup s.heap t ys)(hb:(i:Int)<2^63)(hy:ys[i]?=some y)
  (h : ∀ h' tk,h'.get? I=some (revT t ((i:Int)-1))→Xw I s.heap h'→Q (some y) {s with heap:=h',toks:=tk}):wpAny (model prog w) A (pyNext (.ref I)) Q E s:=by
 have hT:=rev_typeIs (s:=s) hI
 have hTt:s.TypeIs (.ref t) "tuple" :=by obtain⟨o,ho,hc,_⟩:=ht;exact⟨o,ho,hc⟩
 unfold pyNext
 refine Xy (wpAny_attempt (wpAny_callSpecial?_slot (name:=Xx "__next__") hT rev_next (W2 rev_next hT entry_rev_next ?_ (args_rev_next _))))
 unfold Builtin.«reversed.__next__»
 refine Xy (W0 (a:=(Value.ref I,[])) rfl ?_)
 try dsimp only
 refine Xy (wpAny_field hI rfl (x:=.ref t) rfl ?_)
 refine Xy (wpAny_field hI rfl (x:=rawInt (i:Int)) rfl ?_)
 show wpAny _ _ (if (i:Int)<0 then _ else _) _ _ s
 rw [if_neg (by exact ar161 hb)]
 refine Xy (wpAny_specialOf hTt PyProof.Rows.slot_tuple_getitem.lookup ?_)
 rw [if_neg (by decide)]
 refine Xy (wpAny_mkInt ?_)
 refine Xy (wpAny_attempt ?_)
 have hlt:=(Xq.mp hy).1
 refine PyProof.Rows.getItem_tuple (j:=i) (x:=y) ht (by exact ar162 hb) hb ?_ hy ?_
 ·unfold seqIndex?
  rw [if_neg (by exact ar161 hb : ¬ ((i:Int)<0)),if_pos (by simp;exact ar163 hlt),Int.toNat_natCast]
 ·dsimp only
  refine Xy (wpAny_field hI rfl (x:=rawInt (i:Int)) rfl ?_)
  show wpAny _ _ (setField (.ref I) 1 (rawInt ((i:Int)-1))>>=_) _ _ _
  refine Xy (wpAny_setField_rec (s:={s with toks:=s.toks+1}) hI (by simp) fun h' h1 h2=>?_)
  exact Xz ⟨y,rfl,Xz (h h' _ h1 h2)⟩
theorem next_rev_end{I t:Addr}{Q:Option Value→Shared→Prop}(hh:A.handled=none)(hI:s.heap.get? I=some (revT t (-1)))
  (h : ∀ h',Heap.ExtBut I s.heap h'→Q none {s with heap:=h'}):wpAny (model prog w) A (pyNext (.ref I)) Q E s:=by
 have hT:=rev_typeIs (s:=s) hI
 unfold pyNext
 refine Xy (wpAny_attempt (wpAny_callSpecial?_slot (name:=Xx "__next__") hT rev_next (W2 rev_next hT entry_rev_next ?_ (args_rev_next _))))
 unfold Builtin.«reversed.__next__»
 refine Xy (W0 (a:=(Value.ref I,[])) rfl ?_)
 try dsimp only
 refine Xy (wpAny_field hI rfl (x:=.ref t) rfl ?_)
 refine Xy (wpAny_field hI rfl (x:=rawInt (-1)) rfl ?_)
 show wpAny _ _ (if (-1:Int)<0 then _ else _) _ _ s
 rw [if_pos (by decide)]
 refine Xy (wpAny_rule ?_)
 refine Xy ?_
 show wpAny _ _ (setField (.ref I) 1 (rawInt (-1))>>=_) _ _ _
 refine Xy (wpAny_setField_rec hI (by simp) fun h1 g1 s1=>?_)
 refine wpAny_setField_rec (s:={s with heap:=h1}) g1 (by simp) fun h2 g2 s2=>?_
 have ext:Heap.ExtBut I s.heap h2:=fun b o hb e=>(s2.2 b hb).trans ((s1.2 b hb).trans e)
 unfold Builtin.SmallTypes.stopIteration
 refine Xy (Xy ?_)
 refine Xy (wpAny_newObj_type ?_)
 refine Xy (m:=firstArgMember _ _) (W0 (a:=Value.none) (by first|rfl|(simp only [firstArgMember];rfl)) ?_)
 refine wpAny_newObj_type ?_
 unfold raiseNew
 dsimp only
 refine Xy (wpAny_handled ?_)
 rw [show A.in1.handled=none from hh]
 refine Xy (Xz (wpAny_throw ?_))
 refine Xy (wpAny_isInstance (T := "StopIteration") (b:=true) ⟨_,Xs _ rfl,rfl⟩ isSubtype_stop ?_)
 exact Xz (h _ ((ext.push _).push _))
theorem rev_no_len:typeLookup (.type "reversed") "__len__" =pure none:=by rw [typeLookup_type,builtinLookup_eq_fast];kernel_rfl
theorem split_rev_hint:splitId "reversed.__length_hint__" =some ("reversed","__length_hint__"):=by kernel_rfl
theorem hint_rev{I t:Addr}{ys:Array Value}{Q:Bool→Shared→Prop}(hI:s.heap.get? I=some (revT t ((ys.size:Int)-1)))(ht:IsTup s.heap t ys)(hz:ys.size≤sizeLine)
  (h : ∀ b tk,Q b {s with toks:=tk}):wpAny (model prog w) A (Builtin.List.listLengthHint (.ref I)) Q E s:=by
 have hT:=rev_typeIs (s:=s) hI
 have hz':(ys.size:Int)<2^62:=by rw [sizeLine_eq] at hz;exact ar164 hz
 unfold Builtin.List.listLengthHint
 refine Xy (wpAny_specialOf hT rev_no_len ?_)
 dsimp only
 rw [if_neg (by show ¬ (false=true);exact Bool.false_ne_true)]
 rw [if_neg (by decide)]
 refine Xy (wpAny_specialOf hT rev_hint.lookup ?_)
 dsimp only
 rw [split_rev_hint]
 dsimp only
 refine Xy (wpAny_isInstance hT F.sub_reversed_self ?_)
 rw [if_neg (by decide)]
 rw [if_neg (by show ¬ (_=true);decide +kernel)]
 refine Xy (wpAny_rule ?_)
 refine Xy (W0 (rev_hint.bind _) ?_)
 dsimp only
 refine Xy (wpAny_attempt (W2 rev_hint hT entry_rev_hint ?_ (args_rev_hint _)))
 unfold Builtin.«reversed.__length_hint__»
 refine Xy (W0 (a:=Value.ref I) rfl ?_)
 refine Xy (wpAny_field hI rfl (x:=.ref t) rfl ?_)
 rw [if_neg (show ¬ ((Value.ref t==Value.none)=true) from Bool.false_ne_true)]
 refine Xy (PyProof.Rows.len_tuple ht (by exact ar165 hz') ?_)
 refine Xy (W0 (a:=some (ys.size:Int)) rfl ?_)
 dsimp only
 refine Xy (wpAny_field (s:={s with toks:=s.toks+1+1}) hI rfl (x:=rawInt ((ys.size:Int)-1)) rfl ?_)
 show wpAny _ _ (if (ys.size:Int)<(ys.size:Int)-1+1 then _ else _) _ _ _
 rw [if_neg (by exact ar166)]
 unfold retInt
 refine Xy (wpAny_mkInt (Xz ⟨_,rfl,?_⟩))
 dsimp only
 refine Xy (W0 (a:=some ((ys.size:Int)-1+1)) rfl ?_)
 dsimp only
 have q1:Builtin.List.listFitsIndex ((ys.size:Int)-1+1)=true:=by
  unfold Builtin.List.listFitsIndex
  simp only [W4,decide_eq_true_eq]
  exact ar167 hz'
 have q2:Builtin.List.listTooLong ((ys.size:Int)-1+1).toNat=false:=by
  unfold Builtin.List.listTooLong
  exact decide_eq_false (by exact ar168 hz hz')
 rw [q1,q2]
 rw [if_neg (by decide),if_neg (by exact ar169 hz'),if_neg (by decide)]
 exact Xz (h _ _)
theorem touch_list{l:Addr}{xs:Array Value}{n:Nat}{Q:Unit→Shared→Prop}(hl:s.heap.get? l=some ⟨.type "list",none,.seq xs n,#[]⟩)(hz:xs.size+1≤sizeLine)
  (h : ∀ h' n',h'.get? l=some ⟨.type "list",none,.seq xs n',#[]⟩→Xw l s.heap h'→Q () {s with heap:=h'}):wpAny (model prog w) A (Builtin.List.listTouch (.ref l)) Q E s:=by
 unfold Builtin.List.listTouch Builtin.List.listUpdate
 refine Xy (wpAny_updateSeq hl rfl ?_ (by exact ar8 hz) (by rw [Array.size_push];exact ar170 hz))
 have g1:=Heap.get?_update_self (Obj.mapSeq (·.push .none)) hl rfl
 refine wpAny_updateSeq (s:={s with heap:=s.heap.update l (Obj.mapSeq (·.push .none))}) g1 rfl ?_ (by rw [Array.size_push];exact hz) (by rw [Array.pop_push];exact ar171 hz)
 have g2:=Heap.get?_update_self (Obj.mapSeq (·.pop)) g1 rfl
 obtain⟨n',e⟩ : ∃ n',Obj.mapSeq (fun x=>x.pop) (Obj.mapSeq (fun x=>x.push Value.none) {cls:=Value.type "list",data:=Data.seq xs n})={cls:=Value.type "list",data:=Data.seq xs n'}:=by
  simp only [Obj.mapSeq,Array.pop_push];exact⟨_,rfl⟩
 rw [e] at g2
 exact h _ n' g2 ((Xw.update ..).trans (Xw.update ..))
end
noncomputable abbrev RevIt(xs ys:Array Value)(j:Nat)(v:Value):Prop:=(j<xs.size→xs[j]?=some v)∧(xs.size≤j→ys[ys.size-1-(j-xs.size)]?=some v)
theorem Walks.revT{prog:Program}{w:World}{A:Around}(hh:A.handled=none)(I t:Addr)(hne:t≠I)(xs ys:Array Value)(hz:ys.size≤sizeLine) :
  Walks prog w A I [I,t] [I] (xs.size+ys.size) (RevIt xs ys) (fun i h=>xs.size≤i∧i≤xs.size+ys.size∧h.get? I=some (revT t ((ys.size:Int)-1-((i-xs.size:Nat):Int)))∧IsTup h t ys) where
 sub:=fun b hb=>by simp at hb;simp [hb]
 frame:=fun _ _ _ x hk=>⟨x.1,x.2.1,hk I (by simp) _ x.2.2.1,let ⟨o,ho,r⟩:=x.2.2.2;⟨o,hk t (by simp) _ ho,r⟩⟩
 item:=fun i s Q E hi x hQ=>by
  refine byC fun hG=>?_
  obtain⟨h1,h2,hI,ht⟩:=x
  refine hG ?_
  clear hG
  rw [sizeLine_eq] at hz
  have e:(ys.size:Int)-1-((i-xs.size:Nat):Int)=((ys.size-1-(i-xs.size):Nat):Int):=by exact ar172 hi h1
  rw [e] at hI
  have hx:ys[ys.size-1-(i-xs.size)]?=some (ys[ys.size-1-(i-xs.size)]'(by exact ar173 e)):=Xn (by exact ar173 e)
  refine next_rev hI ht (by exact ar174 hz hi h1 e) hx fun h' tk a1 a2=>?_
  refine hQ _ h' tk ⟨fun q=>absurd q (Nat.not_lt.mpr h1),fun _=>hx⟩ ⟨by exact ar175 h1,by exact ar176 hi e,?_,?_⟩ fun b o hb eo=>(a2.2 b (fun q=>hb (by simp [q]))).trans eo
  ·rw [a1];congr 2;exact ar177 h1 e
  ·obtain⟨o,ho,r⟩:=ht;exact⟨o,(a2.2 t hne).trans ho,r⟩
 done:=fun s Q E x hQ=>by
  refine byC fun hG=>?_
  obtain⟨h1,h2,hI,ht⟩:=x
  refine hG ?_
  clear hG
  have e:(ys.size:Int)-1-((xs.size+ys.size-xs.size:Nat):Int) = -1:=by exact ar178 h1
  rw [e] at hI
  exact next_rev_end hh hI fun h' he=>hQ h' s.toks fun b o hb eo=>he b o (fun q=>hb (by simp [q])) eo
 self:=fun _ _ _ _ x hQ=>iter_rev x.2.2.1 hQ
theorem list_rev{xs ys acc:Array Value}(h:ItemsOf (RevIt xs ys) acc (xs.size+ys.size)):acc.toList=xs.toList++ys.toList.reverse:=by
 refine List.ext_getElem? fun j=>?_
 have hl:acc.toList.length=xs.size+ys.size:=by simpa using h.1
 by_cases hj:j<xs.size+ys.size
 ·have hj':j<acc.size:=h.1.symm▸hj
  have hv:=h.2 j (acc[j]'hj') (Xn hj')
  rw [Xo,Xn hj']
  by_cases q:j<xs.size
  ·rw [Xj (by simpa using q),Xo,hv.1 q]
  ·have q':xs.size≤j:=X0 q
   rw [List.getElem?_append_right (by simpa using q'),List.getElem?_reverse (by simp;exact ar179 hj q),←hv.2 q']
   simp
 ·rw [List.getElem?_eq_none (by exact ar180 hl hj),List.getElem?_eq_none (by simp;exact ar181 hj)]
theorem extend_rev{prog:Program}{w:World}{A:Around}{E:Value→Shared→Prop}{s:Shared}{l I t:Addr}{xs ys:Array Value}{n:Nat}{Q:Value→Shared→Prop}(hh:A.handled=none)(hl:s.heap.get? l=some ⟨.type "list",none,.seq xs n,#[]⟩)
  (hI:s.heap.get? I=some (revT t ((ys.size:Int)-1))) (ht:IsTup s.heap t ys) (hz:xs.size+ys.size+1≤sizeLine)
  (h : ∀ h' tk zs n',h'.get? l=some ⟨.type "list",none,.seq zs n',#[]⟩→zs.toList=xs.toList++ys.toList.reverse→(∀ b o,b≠l→b≠I→s.heap.get? b=some o→h'.get? b=some o)→Q .none {s with heap:=h',toks:=tk}) :
  wpAny (model prog w) A (call (.builtin "list.extend") [.ref l,.ref I]) Q E s:=by
 have hT:=rev_typeIs (s:=s) hI
 have hlI:l≠I:=fun q=>by subst q;rw [hl] at hI;exact absurd (show Value.type "list" =Value.type "reversed" from congrArg Obj.cls (Xm hI)) (by decide)
 have hlt:l≠t:=fun q=>by subst q;obtain⟨o,ho,hc,_⟩:=ht;rw [hl] at ho;cases ho;exact absurd (show Value.type "list" =Value.type "tuple" from hc) (by decide)
 have htI:t≠I:=fun q=>by subst q;obtain⟨o,ho,hc,_⟩:=ht;rw [hI] at ho;cases ho;exact absurd (show Value.type "reversed" =Value.type "tuple" from hc) (by decide)
 have hTl:s.TypeIs (.ref l) "list" :=⟨_,hl,rfl⟩
 refine wpAny_call (codeAny_call_builtin PySem.F.slot_list_extend.plain PySem.F.entry_list_extend (PySem.F.slot_list_extend.check _ _ _ _ _ _ _ _ hTl (PySem.F.args_list_extend_2 _ _) ?_))
 unfold Builtin.«list.extend»
 refine Xy (W0 (a:=(Value.ref l,Value.ref I)) rfl ?_)
 dsimp only
 unfold Builtin.List.listExtendWith
 refine Xy (wpAny_typeOf hT ?_)
 have hne:Builtin.List.listSameRef (.ref l) (.ref I)=false:=by
  show (l==I)=false
  exact beq_eq_false_iff_ne.mpr hlI
 rw [hne]
 rw [if_neg (by decide)]
 refine Xy (iter_rev hI ?_)
 refine Xy (W1 (hint_rev hI ht (by exact ar182 hz) fun b tk=>?_))
 have loop : ∀ h1 n1 tk1,h1.get? l=some ⟨.type "list",none,.seq xs n1,#[]⟩→Xw l s.heap h1→(Code.builtin "list.extend.loop" ⟨[.ref l,.ref I,.none],[]⟩).quiet=true∧codeAny (model prog w) A (.builtin "list.extend.loop" ⟨[.ref l,.ref I,.none],[]⟩) (wants Q E) {s with heap:=h1,toks:=tk1}:=fun h1 n1 tk1 g1 s1=>by
  refine⟨plainId_quiet F.plain_extend_loop _,?_⟩
  refine codeAny_extend_loopS (Walks.toS (Walks.revT (A:=A.in1) hh I t htI xs ys (by exact ar182 hz))) (by exact ar183 hz) l (by simp [hlI,hlt]) .none (xs.size+ys.size-xs.size) xs.size _ xs n1 rfl (by exact ar184)
   ⟨Yy _,by exact ar184,?_,?_⟩ g1 ⟨rfl,fun j v e=>⟨fun _=>e,fun q=>absurd (Xq.mp e).1 (Nat.not_lt.mpr q)⟩⟩ fun s' acc' c' hm g2 hi=>?_
  ·show h1.get? I=_
   rw [s1.2 I (Ne.symm hlI),hI];simp
  ·obtain⟨o,ho,r⟩:=ht;exact⟨o,(s1.2 t (Ne.symm hlt)).trans ho,r⟩
  ·have e:s'={s with heap:=s'.heap,toks:=s'.toks}:=by
    refine byC fun hG=>?_
    obtain⟨a1,a2,a3,a4,a5⟩:=hm
    obtain⟨b1,b2,b3,b4,b5⟩:=s'
    refine hG ?_
    clear hG
    simp only at a2 a3 a4
    subst a2 a3 a4
    rfl
   rw [e]
   exact h s'.heap s'.toks acc' c' g2 (list_rev hi) fun b o q1 q2 q3=>hm.heap b o (by simp [q1,q2]) ((s1.2 b q1).trans q3)
 cases b with
 |true =>
  refine wt rfl (Xy (wpAny_rule ?_))
  exact Xy (touch_list hl (by exact ar185 hz) fun h1 n1 g1 s1=>Xz (loop h1 n1 _ g1 s1))
 |false=>exact wf rfl (Xz (loop s.heap n _ hl (Xw.refl _ _)))
end Lay
set_option maxRecDepth 100000
namespace Lay
variable{C:Cx}
theorem nest_arg{y:Str}{q pos':Pos}{e:PySem.Expr}{m:M V}{g:Value}(hg:SimE C (eval (.Name y q) C.env) (pure (.val g)))(hok:CallOk C.W g)(he:SimE C (eval e C.env) m)
  (hs:starEach [e] C.env = [(false,eval e C.env)]) {h₀ ζ:HM} {ρ:RM} {st st':St} {s:Shared} {P:Value→Shared→Prop} {E:Value→Shared→Prop} {v:V} (ok:C.Ok) (rel:Rel C h₀ ζ ρ st s.heap) (em:m st=some (v,st'))
  (k : ∀ ζ' ρ' h' tk' x,Gr C.T s.heap ζ ρ h' ζ' ρ'→Rel C h₀ ζ' ρ' st' h'→VR C.W ζ' ρ' v x→wpAny (model C.W.prog C.W.w) C.A (call g [x]) P E {s with heap:=h',toks:=tk'}) :
  wpAny (model C.W.prog C.W.w) C.A (eval (.Call (.Name y q) [e] [] pos') C.env) P E s:=by
 refine wpAny_Call_NameR (hg h₀ ζ ρ st s _ E ok rel _ _ rfl fun ζ1 ρ1 h1 tk1 z G1 rel1 r1=>?_)
 change _=_ at r1
 subst r1
 have ht:backTo pos' (starEach [e] C.env)=(false,(backTo pos' (starEach [e] C.env)).head!.2) :: []:=by rw [hs];rfl
 refine hok _ _ _ _ _ _ _ (by rw [hs];rfl) (evalArgs_any (.inr ⟨_,_,ht⟩) ?_)
 refine spliced_more (rest := []) (he h₀ ζ1 ρ1 st _ _ E ok rel1 v st' em fun ζ2 ρ2 h2 tk2 x G2 rel2 r2=>?_) hs
 exact spliced_none ⟨rel2.ok,k ζ2 ρ2 h2 tk2 x (G1.trans G2) rel2 r2⟩
noncomputable def mExtRev(o v:V):M V:=fun s=>(un V.ref o).bind fun n=>(un V.tup v).bind fun ys=>((s.hp n).bind (un O.list)).bind fun xs =>
 if (xs++ys).length<lim then some (.none,{s with hp:=upd s.hp n (some (.list (xs++ys.reverse)))}) else none
inductive ExtRev(o v:V)(s s':St)(r:V):Prop
 |mk (n:Nat) (xs ys:List V) (ho:o = .ref n) (hv:v = .tup ys) (hn:s.hp n=some (.list xs)) (hl:(xs++ys).length<lim) (hr:r = .none) (hs:s'={s with hp:=upd s.hp n (some (.list (xs++ys.reverse)))})
theorem mExtRev_some{o v r:V}{s s':St}(e:mExtRev o v s=some (r,s')):ExtRev o v s s' r:=by
 refine byC fun hG=>?_
 obtain⟨n,h1,e⟩:=ob e
 obtain⟨ys,h2,e⟩:=ob e
 obtain⟨xs,h3,e⟩:=ob e
 obtain⟨h4,e⟩:=io e
 obtain⟨O,h3,h5⟩:=ob h3
 injection e
 exact hG ⟨n,xs,ys,Zk h1,Zk h2,by rw [h3,Zk h5],h4,rfl,rfl⟩
noncomputable def X.extRev(mo me:M V):M V:=do let o←mo;(fun s=>M.guard (isLst o s) s);let v←me;mExtRev o v
theorem Sim_ExtRev{y:Str}{q apos pos pos':Pos}{o e:PySem.Expr}{mo me:M V}(pl:Sem Bool)(hg:SimE C (eval (.Name y q) C.env) (pure (.val (.type "reversed"))))(ho:SimE C (eval o C.env) mo)(he:SimE C (eval e C.env) me)
  (hs:starEach [e] C.env = [(false,eval e C.env)]:=by rfl) (hs2:starEach [.Call (.Name y q) [e] [] pos'] C.env = [(false,eval (.Call (.Name y q) [e] [] pos') C.env)]:=by rfl)
  (hev:eval (.Call (.Attribute o "extend" apos) [.Call (.Name y q) [e] [] pos'] [] pos) C.env=(do
   let ov←eval o C.env
   standAt apos.atName
   let (f,first)←holding [ov] (getMethod ov "extend" pl)
   callWith pos f first (backTo pos (starEach [.Call (.Name y q) [e] [] pos'] C.env)) []):=by rfl) :
  SimE C (eval (.Call (.Attribute o "extend" apos) [.Call (.Name y q) [e] [] pos'] [] pos) C.env) (X.extRev mo me):=by
 intro h₀ ζ ρ st s P E ok rel r st' em kk
 refine byC fun hG=>?_
 obtain⟨u,s1,e1,em⟩:=W6 em
 obtain⟨_,s2,e2,em⟩:=W6 em
 obtain⟨hl,hs2'⟩:=W7 e2
 injection hs2'
 obtain⟨v,s3,e3,em⟩:=W6 em
 refine hG ?_
 clear hG
 rw [hev]
 refine Xy (ho h₀ ζ ρ st s _ E ok rel u _ e1 fun ζ1 ρ1 h1 tk1 x G1 rel1 r1=>Xy (wpAny_standAt (Xy (W1 ?_))))
 refine MethAt.list PySem.F.slot_list_extend PySem.F.type_list_extend h₀ ζ1 ρ1 s1 _ pl _ E u x ok rel1 r1 hl ?_
 have ht:backTo pos (starEach [.Call (.Name y q) [e] [] pos'] C.env)=(false,(backTo pos (starEach [.Call (.Name y q) [e] [] pos'] C.env)).head!.2) :: []:=by rw [hs2];rfl
 refine(CallOk.builtin (W:=C.W)) _ _ _ _ _ _ _ (by rw [hs2];rfl) (evalArgs_any (.inr ⟨_,_,ht⟩) ?_)
 refine spliced_more (rest := []) (nest_arg hg CallOk.type he hs ok rel1 e3 fun ζ2 ρ2 h2 tk2 z G2 rel2 r2=>?_) hs2
 refine byC fun hG=>?_
 obtain⟨n,xs,ys,rfl,rfl,hn,hlen,rfl,rfl⟩:=mExtRev_some em
 obtain⟨t,zs,rfl,htu,hz⟩:=tup_at rel2 r2
 refine hG ?_
 clear hG
 have hzl:zs.size=ys.length:=by rw [←hz.length];simp
 have hll:=lim_le (n:=xs.length+ys.length+1) (by simp at hlen;exact ar186 hlen)
 have hsl:=sizeLine_eq
 refine call_rev_tuple htu (by exact ar187 hzl hll hsl) fun tk3=>spliced_none ⟨rel2.ok.keeps fun b o e=>Xu _ e,?_⟩
 have r1':=VR.gr rel1 G2 r1
 refine byC fun hG=>?_
 obtain⟨a,ha,rfl⟩:=r1'
 obtain⟨a',ob,h3,h4,xa,⟨c,rfl⟩,h5⟩:=rel2.slot n _ hn
 refine hG ?_
 clear hG
 obtain rfl:a'=a:=Xm (h3.symm.trans ha)
 have hxl:xa.size=xs.length:=by rw [←h5.length];simp
 obtain⟨ot,ho1,ho2⟩:=htu
 refine extend_rev ok.room.handled (Xu _ h4) (Xs _ rfl) ⟨ot,Xu _ ho1,ho2⟩ (by exact ar188 hzl hll hsl hxl) fun h' tk' ws c' g1 g2 g3=>?_
 obtain⟨R',G'⟩:=rel2.setK ha (O:=.list (xs++ys.reverse)) (fun b o q e=>g3 b o q (fun q'=>by rw [q',get_size] at e;injection e) (Xu _ e)) g1 ⟨ws,⟨c',rfl⟩,by rw [g2];exact h5.append hz.reverse⟩
 exact kk ζ2 ρ2 h' tk' _ ((G1.trans G2).trans G') R' rfl
end Lay
set_option maxRecDepth 100000
namespace Lay
noncomputable def itr{α:Type}(f:α→α):Nat→α→α
 |0,x=>x
 |n+1,x=>itr f n (f x)
theorem itr_add{α:Type}(f:α→α) : ∀ (a b:Nat) (x:α),itr f (a+b) x=itr f b (itr f a x)
 |0,b,x=>by rw [Nat.zero_add];rfl
 |a+1,b,x=>by rw [Nat.add_right_comm];exact itr_add f a b (f x)
noncomputable def lcg(m x:Nat):Nat:=(x*5+1)%m
noncomputable def okMask(m:Nat):Prop:=m=7∨m=31∨m=127∨m=511
noncomputable def bitsOf(m:Nat):Nat→Nat→Nat→Nat
 |0,_,acc=>acc
 |n+1,x,acc=>bitsOf m n (lcg m x) (acc|||2^x)
theorem bitsOf_test{m j:Nat} : ∀ (n x acc:Nat),(bitsOf m n x acc).testBit j=true→acc.testBit j=true∨∃ k,k<n∧itr (lcg m) k x=j
 |0,x,acc,h=>.inl h
 |n+1,x,acc,h=>by
  rcases bitsOf_test n (lcg m x) _ h with h|⟨k,h1,h2⟩
  ·rw [Nat.testBit_or,Nat.testBit_two_pow,Bool.or_eq_true,decide_eq_true_eq] at h
   exact h.imp id fun e=>⟨0,Nat.succ_pos _,e⟩
  ·exact .inr ⟨k+1,Nat.succ_lt_succ h1,h2⟩
theorem lcg_all{m:Nat}(hm:okMask m){i j:Nat}(hi:i≤m)(hj:j≤m) : ∃ k,k≤m∧itr (lcg (m+1)) k i=j:=by
 have key:bitsOf (m+1) (m+1) 0 0=2^(m+1)-1∧itr (lcg (m+1)) (m+1) 0=0:=by
  rcases hm with rfl|rfl|rfl|rfl<;>decide +kernel
 have all : ∀ j,j≤m→∃ k,k≤m∧itr (lcg (m+1)) k 0=j:=fun j hj=>by
  have:(bitsOf (m+1) (m+1) 0 0).testBit j=true:=by rw [key.1,Nat.testBit_two_pow_sub_one];exact decide_eq_true (by exact ar189 hj)
  rcases bitsOf_test _ _ _ this with h|⟨k,h1,h2⟩
  ·simp at h
  ·exact⟨k,by exact ar190 h1,h2⟩
 refine byC fun hG=>?_
 obtain⟨a,ha,rfl⟩:=all i hi
 obtain⟨b,hb,rfl⟩:=all j hj
 refine hG ?_
 clear hG
 by_cases q:a≤b
 ·exact⟨b-a,by exact ar191 hb q,by rw [←itr_add];congr 1;exact ar192 q⟩
 ·exact⟨m+1-a+b,by exact ar193 ha q,by rw [←itr_add,show a+(m+1-a+b)=(m+1)+b by exact ar194 ha,itr_add,key.2]⟩
noncomputable abbrev leapP(m:Nat)(p:Nat×Nat):Nat×Nat:=SetTable.leap m p.1 p.2
theorem leap_le{m:Nat}(p:Nat×Nat):(leapP m p).1≤m:=Nat.le_of_lt_succ (Nat.mod_lt _ (Nat.succ_pos _))
theorem leap_fade{m:Nat} : ∀ (n:Nat) (p:Nat×Nat),p.2<32^n→(itr (leapP m) n p).2=0
 |0,p,h=>by simp at h;exact h
 |n+1,p,h=>leap_fade n _ (by show p.2/32<32^n;rw [Nat.pow_succ] at h;exact ar195 h)
theorem leap_zero{m:Nat} : ∀ (n i:Nat),itr (leapP m) n (i,0)=(itr (lcg (m+1)) n i,0)
 |0,_=>rfl
 |n+1,i=>by
  have e:leapP m (i,0)=(lcg (m+1) i,0):=by simp [leapP,SetTable.leap,lcg]
  show itr (leapP m) n (leapP m (i,0))=_
  rw [e];exact leap_zero n _
theorem itr_le{m:Nat} : ∀ (n:Nat) (p:Nat×Nat),p.1≤m→(itr (leapP m) n p).1≤m
 |0,_,h=>h
 |n+1,p,_=>itr_le n _ (leap_le p)
theorem leap_all{m:Nat}(hm:okMask m){p:Nat×Nat}(h1:p.1≤m)(h2:p.2<2^64){j:Nat}(hj:j≤m) : ∃ k,k≤m+13∧(itr (leapP m) k p).1=j:=by
 have h0:(itr (leapP m) 13 p).2=0:=leap_fade 13 p (Yq h2 (by decide))
 obtain⟨k,hk,e⟩:=lcg_all hm (itr_le 13 p h1) hj
 refine⟨13+k,by exact ar196 hk,?_⟩
 rw [itr_add]
 have:itr (leapP m) 13 p=((itr (leapP m) 13 p).1,0):=by rw [←h0]
 rw [this,leap_zero];exact e
structure TabOk(t:SetTable)(n:Nat):Prop where
 mask:okMask t.mask
 size:t.place.size=n
 rise:t.place.toList.Pairwise (· < ·)
 low : ∀ p∈t.place.toList,p≤t.mask
 dum:t.dummies = #[]
 room:n*5<t.mask*3
 plain:t.plain=true
structure GoodP(t:SetTable)(p:SetTable.Probe):Prop where
 dum:p.dummy=none
 lo:p.i≤p.j
 run:p.j+p.more=SetTable.runEnd t.mask p.i
 i:p.i≤t.mask
 pert:p.perturb<2^64
theorem runEnd_le{m i:Nat}(h:i≤m):SetTable.runEnd m i≤m∧SetTable.runEnd m i≤i+9∧i≤SetTable.runEnd m i:=by
 unfold SetTable.runEnd;split<;>(first|exact ar197 (by assumption)|exact ar198 h (by assumption))
theorem GoodP.j{t:SetTable}{p:SetTable.Probe}(g:GoodP t p):p.j≤t.mask:=by
 have:=runEnd_le g.i;have:=g.run;exact ar199 (by assumption) this
theorem GoodP.start{t:SetTable}(h:Int):GoodP t (t.probeStart h):=by
 have hb:SetTable.bits h<2^64:=by
  unfold SetTable.bits
  have:=Int.emod_lt_of_pos h (show (0:Int)<2^64 by decide)
  have:=Int.emod_nonneg h (show (2^64:Int)≠0 by decide)
  exact ar200 (by assumption)
 have hi:SetTable.bits h%(t.mask+1)≤t.mask:=Nat.le_of_lt_succ (Nat.mod_lt _ (Nat.succ_pos _))
 have:=runEnd_le hi
 refine⟨rfl,Yy _,?_,hi,hb⟩
 show SetTable.bits h%(t.mask+1)+(SetTable.runEnd t.mask (SetTable.bits h%(t.mask+1))-SetTable.bits h%(t.mask+1))=SetTable.runEnd t.mask (SetTable.bits h%(t.mask+1))
 exact ar201 this
theorem adv_more{t:SetTable}{p:SetTable.Probe}(h:0<p.more):t.advance p={p with j:=p.j+1,more:=p.more-1}:=by
 unfold SetTable.advance;rw [if_pos h]
theorem adv_leap{t:SetTable}{p:SetTable.Probe}(h:p.more=0):t.advance p={p with j:=(leapP t.mask (p.i,p.perturb)).1,more:=SetTable.runEnd t.mask (leapP t.mask (p.i,p.perturb)).1-(leapP t.mask (p.i,p.perturb)).1,i:=(leapP t.mask (p.i,p.perturb)).1,perturb:=p.perturb/32}:=by
 unfold SetTable.advance;rw [if_neg (by exact ar202 h)];rfl
theorem GoodP.next{t:SetTable}{p:SetTable.Probe}(g:GoodP t p):GoodP t (t.advance p):=by
 have:=g.run
 have:=g.lo
 by_cases q:0<p.more
 ·rw [adv_more q]
  exact⟨g.dum,by show p.i≤p.j+1;exact ar203 (by assumption) this,by show p.j+1+(p.more-1)=SetTable.runEnd t.mask p.i;exact ar204 (by assumption) q,g.i,g.pert⟩
 ·rw [adv_leap (by exact ar205 q)]
  have hi:=leap_le (m:=t.mask) (p.i,p.perturb)
  have:=runEnd_le hi
  refine⟨g.dum,Yy _,?_,hi,Yr (Nat.div_le_self _ _) g.pert⟩
  show (leapP t.mask (p.i,p.perturb)).1+(SetTable.runEnd t.mask (leapP t.mask (p.i,p.perturb)).1-(leapP t.mask (p.i,p.perturb)).1)=SetTable.runEnd t.mask (leapP t.mask (p.i,p.perturb)).1
  exact ar201 this
theorem run_out{t:SetTable} : ∀ (n:Nat) (p:SetTable.Probe),p.more=n→GoodP t p→∃ p',itr t.advance (n+1) p=p'∧GoodP t p'∧p'.j=p'.i∧(p'.i,p'.perturb)=leapP t.mask (p.i,p.perturb)
 |0,p,h,g=>by
  refine⟨_,rfl,g.next,?_,?_⟩
  ·show (t.advance p).j=(t.advance p).i;rw [adv_leap h]
  ·show ((t.advance p).i,(t.advance p).perturb)=_;rw [adv_leap h];rfl
 |n+1,p,h,g=>by
  have e:=adv_more (t:=t) (p:=p) (by exact ar206 h)
  obtain⟨p',h1,h2,h3,h4⟩:=run_out n (t.advance p) (by rw [e];show p.more-1=n;exact ar207 h) g.next
  exact⟨p',h1,h2,h3,by rw [h4,e]⟩
theorem leaps_out{t:SetTable} : ∀ (k:Nat) (p:SetTable.Probe),GoodP t p→∃ d p',d≤10*(k+1)∧itr t.advance d p=p'∧GoodP t p'∧p'.j=p'.i∧(p'.i,p'.perturb)=itr (leapP t.mask) (k+1) (p.i,p.perturb)
 |0,p,g=>by
  refine byC fun hG=>?_
  obtain⟨p',h1,h2,h3,h4⟩:=run_out p.more p rfl g
  refine hG ?_
  clear hG
  have:=runEnd_le g.i;have:=g.run;have:=g.lo
  exact⟨_,p',by exact ar208 (by assumption) (by assumption) this,h1,h2,h3,h4⟩
 |k+1,p,g=>by
  refine byC fun hG=>?_
  obtain⟨d,p',h0,h1,h2,h3,h4⟩:=leaps_out k p g
  obtain⟨p2,g1,g2,g3,g4⟩:=run_out p'.more p' rfl h2
  refine hG ?_
  clear hG
  have:=runEnd_le h2.i;have:=h2.run;have:=h2.lo
  refine⟨d+(p'.more+1),p2,by exact ar209 h0 h3 (by assumption) (by assumption),by rw [itr_add,h1,g1],g2,g3,?_⟩
  rw [g4,h4]
  exact(itr_add (leapP t.mask) (k+1) 1 (p.i,p.perturb)).symm
theorem slot_not{t:SetTable}{n j:Nat}(ok:TabOk t n)(h:j∉t.place.toList):t.slot j = .empty:=by
 unfold SetTable.slot
 have h1:(t.place[SetTable.below t.place j]?==some j)=false:=by
  rw [beq_eq_false_iff_ne];intro e
  exact h (Array.mem_toList_iff.mpr (Array.mem_of_getElem? e))
 have h2:SetTable.has t.dummies j=false:=by rw [ok.dum];unfold SetTable.has;simp
 simp only [h1,h2,Bool.false_eq_true,if_false]
theorem free_place{l:List Nat}{m:Nat}(h:l.length≤m) : ∃ j,j≤m∧j∉l:=by
 refine Xr fun q=>?_
 have hs : ∀ j∈List.range (m+1),j∈l:=fun j hj=>Xr fun q'=>q ⟨j,by have:=List.mem_range.mp hj;exact ar190 this,q'⟩
 have:=List.nodup_range (n:=m+1)
 have:=length_of_sub this hs
 simp at this
 exact ar210 h this
theorem empty_met{t:SetTable}{n:Nat}(ok:TabOk t n){p:SetTable.Probe}(g:GoodP t p) : ∃ d,d<10*SetTable.turns t.mask∧t.slot (itr t.advance d p).j = .empty:=by
 obtain⟨j,hj,hn⟩:=free_place (l:=t.place.toList) (m:=t.mask) (by have:=ok.size;have:=ok.room;simp;exact ar211 (by assumption) this)
 have h1:=leap_le (m:=t.mask) (p.i,p.perturb)
 refine byC fun hG=>?_
 obtain⟨k,hk,e⟩:=leap_all ok.mask h1 (Yr (Nat.div_le_self _ _) g.pert) hj
 obtain⟨d,p',h0,h2,h3,h4,h5⟩:=leaps_out k p g
 refine hG ?_
 clear hG
 refine⟨d,by unfold SetTable.turns;exact ar212 hk h0,?_⟩
 rw [h2,h4]
 have:p'.i=j:=by rw [←e];exact congrArg Prod.fst h5
 rw [this];exact slot_not ok hn
inductive Met(t:SetTable)(f:Nat→Int)(h:Int)(d:Nat):Option SetTable.Met→Prop
 |empty (j:Nat) (hj:j≤t.mask) (hs:t.slot j = .empty):Met t f h d (some (.empty j none))
 |cand (j i d':Nat) (nx:SetTable.Probe) (hs:t.slot j = .live i) (hh:f i=h) (g:GoodP t nx) (hd:d'<d) (he:t.slot (itr t.advance d' nx).j = .empty):Met t f h d (some (.candidate j i nx))
theorem probe_met{t:SetTable}{n:Nat}(ok:TabOk t n)(f:Nat→Int)(h:Int) : ∀ (d fuel:Nat) (p:SetTable.Probe),d<fuel→GoodP t p→t.slot (itr t.advance d p).j = .empty→Met t f h d (SetTable.probe.go t f h fuel p)
 |0,fuel+1,p,_,g,he=>by
  refine(?_:Met t f h _ (SetTable.instReprSlot.repr.match_1 (fun _=>Option SetTable.Met) (t.slot p.j) _ _ _))
  have he:t.slot p.j = .empty:=he
  rw [he,g.dum]
  exact .empty _ g.j he
 |d+1,fuel+1,p,hf,g,he=>by
  refine(?_:Met t f h _ (SetTable.instReprSlot.repr.match_1 (fun _=>Option SetTable.Met) (t.slot p.j) _ _ _))
  have ih:=probe_met ok f h d fuel (t.advance p) (by exact ar159 hf) g.next he
  have up : ∀ o,Met t f h d o→Met t f h (d+1) o:=fun o m=>by
   cases m with
   |empty j a b=>exact .empty j a b
   |cand j i d' nx a b c e f=>exact .cand j i d' nx a b c (by exact ar213 e) f
  cases q:t.slot p.j with
  |empty=>dsimp only;rw [g.dum];exact .empty _ g.j q
  |dummy =>
   exfalso
   unfold SetTable.slot at q
   have h2:SetTable.has t.dummies p.j=false:=by rw [ok.dum];unfold SetTable.has;simp
   rw [h2] at q
   dsimp only at q
   split at q<;>injection q
  |live i =>
   dsimp only
   by_cases hh:(f i==h)=true
   ·rw [if_pos hh];exact .cand _ i d _ q (eq_of_beq hh) g.next (X2 d) he
   ·rw [if_neg hh];exact up _ ih
end Lay
set_option maxRecDepth 100000
namespace Lay
theorem rise_get{xs:Array Nat}(hr:xs.toList.Pairwise (· < ·)){a b x y:Nat}(h:a<b)(ha:xs[a]?=some x)(hb:xs[b]?=some y):x<y:=by
 rw [←Xo] at ha hb
 refine byC fun hG=>?_
 obtain⟨h1,rfl⟩:=X5.mp ha
 obtain⟨h2,rfl⟩:=X5.mp hb
 refine hG ?_
 clear hG
 exact List.pairwise_iff_getElem.mp hr a b h1 h2 h
theorem below_go{xs:Array Nat}{j:Nat}(hr:xs.toList.Pairwise (· < ·)) : ∀ (fuel lo hi:Nat),hi-lo≤fuel→lo≤hi→hi≤xs.size→(∀ i y,i<lo→xs[i]?=some y→y<j)→(∀ i y,hi≤i→xs[i]?=some y→j≤y)→
  ∃ r,SetTable.below.go xs j fuel lo hi=r∧r≤xs.size∧(∀ i y,i<r→xs[i]?=some y→y<j)∧(∀ i y,r≤i→xs[i]?=some y→j≤y)
 |0,lo,hi,h,h1,h2,h3,h4=>by
  have:lo=hi:=by exact ar214 h h1
  subst this
  exact⟨lo,rfl,h2,h3,h4⟩
 |fuel+1,lo,hi,h,h1,h2,h3,h4=>by
  refine(?_ : ∃ r,ite (lo<hi) _ _=r∧_)
  by_cases q:lo<hi
  ·rw [if_pos q]
   dsimp only
   obtain⟨z,hz⟩ : ∃ z,xs[(lo+hi)/2]?=some z:=⟨_,Xn (by exact ar215 h2 q)⟩
   have e:xs.getD ((lo+hi)/2) j=z:=by rw [Array.getD_eq_getD_getElem?,hz];rfl
   rw [e]
   by_cases c:z<j
   ·rw [if_pos c]
    refine below_go hr fuel _ hi (by exact ar216 h q) (by exact ar217 q) h2 (fun i y hi' hy=>?_) h4
    by_cases e:i=(lo+hi)/2
    ·subst e;rw [hz] at hy;injection hy;exact c
    ·exact Yt (rise_get hr (by exact ar94 hi' e) hy hz) c
   ·rw [if_neg c]
    refine below_go hr fuel lo _ (by exact ar218 h q) (by exact ar219 q) (by exact ar220 h2 q) h3 fun i y hi1 hy=>?_
    by_cases e:i=(lo+hi)/2
    ·subst e;rw [hz] at hy;injection hy;exact X0 c
    ·have:=rise_get hr (by exact ar89 hi1 e:(lo+hi)/2<i) hz hy
     exact ar221 c this
  ·rw [if_neg q]
   have:lo=hi:=by exact ar117 h1 q
   subst this
   exact⟨lo,rfl,h2,h3,h4⟩
theorem below_at{xs:Array Nat}(hr:xs.toList.Pairwise (· < ·))(j:Nat):SetTable.below xs j≤xs.size∧(∀ i y,i<SetTable.below xs j→xs[i]?=some y→y<j)∧(∀ i y,SetTable.below xs j≤i→xs[i]?=some y→j≤y):=by
 unfold SetTable.below
 refine byC fun hG=>?_
 obtain⟨r,h1,h2,h3,h4⟩:=below_go (j:=j) hr xs.size 0 xs.size (by exact ar222) (Yx _) (Yy _) (fun _ _ h=>absurd h (Nat.not_lt_zero _)) (fun i y h1 h2=>absurd (Xq.mp h2).1 (Nat.not_lt.mpr h1))
 refine hG ?_
 clear hG
 rw [h1];exact⟨h2,h3,h4⟩
theorem below_mem{xs:Array Nat}(hr:xs.toList.Pairwise (· < ·)){i j:Nat}(h:xs[i]?=some j):SetTable.below xs j=i:=by
 obtain⟨h1,h2,h3⟩:=below_at hr j
 rcases Nat.lt_trichotomy (SetTable.below xs j) i with q|q|q
 ·have hl:=(Xq.mp h).1
  have hb:xs[SetTable.below xs j]?=some (xs[SetTable.below xs j]'(by exact ar223 h1 q hl)):=Xn (by exact ar223 h1 q hl)
  have:=h3 _ _ (Yy _) hb
  have:=rise_get hr q hb h
  exact ar224 h1 q hl (by assumption) this
 ·exact q
 ·have:=h2 i j q h;exact ar225 this
theorem slot_empty{t:SetTable}{n j:Nat}(ok:TabOk t n)(h:t.slot j = .empty):j∉t.place.toList:=by
 intro hm
 obtain⟨i,hi⟩:=List.getElem?_of_mem hm
 rw [Xo] at hi
 unfold SetTable.slot at h
 rw [below_mem ok.rise hi] at h
 simp [hi] at h
theorem rise_insert{l:List Nat}{p j:Nat}(hr:l.Pairwise (· < ·))(h1 : ∀ x∈l.take p,x<j)(h2 : ∀ x∈l.drop p,j<x):(l.take p++j::l.drop p).Pairwise (· < ·):=by
 have hd:=hr
 rw [←List.take_append_drop p l,List.pairwise_append] at hd
 rw [List.pairwise_append]
 refine⟨hd.1,List.pairwise_cons.mpr ⟨h2,hd.2.1⟩,fun a ha b hb=>?_⟩
 rcases Xd.mp hb with rfl|hb
 ·exact h1 a ha
 ·exact hd.2.2 a ha b hb
theorem put_ok{t:SetTable}{n j:Nat}(ok:TabOk t n)(hj:j≤t.mask)(hs:t.slot j = .empty) : ∃ t' p,t.put j=(t',p)∧t'.mask=t.mask∧t'.place.size=n+1∧t'.place.toList.Pairwise (· < ·)∧(∀ q∈t'.place.toList,q≤t.mask)∧t'.dummies = #[]∧t'.plain=t.plain∧t'.led=t.led∧p≤n:=by
 have hn:=slot_empty ok hs
 have hd:SetTable.has t.dummies j=false:=by rw [ok.dum];unfold SetTable.has;simp
 obtain⟨b1,b2,b3⟩:=below_at ok.rise j
 refine⟨_,_,rfl,rfl,?_,?_,?_,?_,rfl,rfl,by rw [←ok.size];exact b1⟩
 ·have:=(SetTable.insertAt_perm t.place (SetTable.below t.place j) j).length_eq
  simpa [ok.size] using this
 ·rw [show (SetTable.insertAt t.place (SetTable.below t.place j) j).toList=_ from SetTable.toList_insertAt ..]
  refine rise_insert ok.rise (fun x hx=>?_) fun x hx=>?_
  ·obtain⟨i,hi⟩:=List.getElem?_of_mem hx
   rw [List.getElem?_take] at hi
   split at hi
   ·exact b2 i x (by assumption) (by rw [←Xo];exact hi)
   ·injection hi
  ·obtain⟨i,hi⟩:=List.getElem?_of_mem hx
   rw [List.getElem?_drop,Xo] at hi
   have:=b3 _ x (X1 _ _) hi
   have hne:x≠j:=fun q=>hn (q▸List.mem_of_mem_drop hx)
   exact ar226 this hne
 ·intro q hq
  have:=(SetTable.insertAt_perm t.place (SetTable.below t.place j) j).mem_iff.mp hq
  rw [Array.toList_push] at this
  rcases X9.mp this with h|h
  ·exact ok.low q h
  ·rw [X7.mp h];exact hj
 ·show (if SetTable.has t.dummies j=true then _ else t.dummies) = #[]
  rw [hd];exact ok.dum
end Lay
set_option maxRecDepth 100000
namespace Lay
theorem free_some{m:Nat}{owner:Array (Option Nat)}{j:Nat}(hj:owner[j]?=some none) : ∀ (k fuel i p:Nat),k<fuel→i≤m→(itr (leapP m) k (i,p)).1=j→∃ j',SetTable.layClean.free m owner fuel i p=some j'∧owner[j']?=some none
 |k,fuel+1,i,p,hk,hi,he=>by
  refine(?_ : ∃ j',SetTable.drop.match_1 (fun _=>Option Nat) ((List.range (SetTable.runEnd m i+1-i)).find? (fun k=>(owner.getD (i+k) (some 0)).isNone)) _ _=some j'∧_)
  cases q:(List.range (SetTable.runEnd m i+1-i)).find? (fun k=>(owner.getD (i+k) (some 0)).isNone) with
  |some kk =>
   refine⟨i+kk,rfl,?_⟩
   have:=List.find?_some q
   rw [Array.getD_eq_getD_getElem?] at this
   cases e:owner[i+kk]? with
   |none=>rw [e] at this;simp at this
   |some o=>rw [e] at this;cases o with
    |none=>rfl
    |some x=>simp at this
  |none =>
   cases k with
   |zero =>
    exfalso
    have he:i=j:=he
    subst he
    have h0:=List.find?_eq_none.mp q 0 (List.mem_range.mpr (by have:=runEnd_le hi;exact ar227 he this))
    rw [Array.getD_eq_getD_getElem?,Nat.add_zero,hj] at h0
    exact h0 rfl
   |succ k=>exact free_some hj k fuel _ _ (by exact ar159 hk) (leap_le (m:=m) (i,p)) he
theorem filter_set : ∀ {l:List (Option Nat)} {j k:Nat},l[j]?=some none→((l.set j (some k)).filterMap id).Perm (k::l.filterMap id)
 | [],j,k,h=>by simp at h
 |a::r,0,k,h=>by
  simp only [List.getElem?_cons_zero,Option.some.injEq] at h
  subst h
  simp
 |a::r,j+1,k,h=>by
  have ih:=filter_set (l:=r) (j:=j) (k:=k) (by simpa using h)
  cases a with
  |none=>simpa using ih
  |some x=>simpa using (ih.cons x).trans (List.Perm.swap k x _)
theorem filter_full : ∀ {l:List (Option Nat)},(∀ j:Nat,l[j]?≠some none)→(l.filterMap id).length=l.length
 | [],_=>rfl
 |a::r,h=>by
  cases a with
  |none=>exact absurd rfl (h 0)
  |some x=>simpa using filter_full (l:=r) fun j=>by have:=h (j+1);simpa using this
noncomputable def LaidTo(m:Nat)(o:Option (Array (Option Nat)×Nat))(k:Nat):Prop := ∃ owner,o=some (owner,k)∧owner.size=m+1∧(owner.toList.filterMap id).Perm (List.range k)
theorem laid_fold{m:Nat}(hm:okMask m) : ∀ (l:List Int) (o:Option (Array (Option Nat)×Nat)) (k:Nat),LaidTo m o k→k+l.length≤m→
  LaidTo m (l.foldl (fun acc h=>do
   let (owner,k)←acc
   let j←SetTable.layClean.free m owner (SetTable.turns m) (SetTable.bits h%(m+1)) (SetTable.bits h)
   pure (owner.setIfInBounds j (some k),k+1)) o) (k+l.length)
 | [],o,k,h,_=>h
 |x::r,o,k,h,hl=>by
  refine byC fun hG=>?_
  obtain⟨owner,rfl,h1,h2⟩:=h
  refine hG ?_
  clear hG
  rw [List.foldl_cons,Xg,←Nat.add_assoc,Nat.add_right_comm]
  rw [Xg] at hl
  refine laid_fold hm r _ (k+1) ?_ (by exact ar228 hl h1)
  have : ∃ j,j≤m∧owner[j]?=some none:=Xr fun q=>by
   have:=filter_full (l:=owner.toList) fun j e=>by
    rw [Xo] at e
    have:=(Xq.mp e).1
    exact q ⟨j,by exact ar229 h1 this,e⟩
   rw [h2.length_eq,List.length_range] at this
   simp at this
   exact ar230 hl h1 this
  obtain⟨j,hj,hjn⟩:=this
  have hb:SetTable.bits x<2^64:=(GoodP.start (t:=.fresh 0 0 true) x).pert
  have hi:SetTable.bits x%(m+1)≤m:=Nat.le_of_lt_succ (Nat.mod_lt _ (Nat.succ_pos _))
  obtain⟨kk,hk,e⟩:=leap_all hm (p:=(SetTable.bits x%(m+1),SetTable.bits x)) hi hb hj
  obtain⟨j',e1,e2⟩:=free_some hjn kk (SetTable.turns m) _ _ (by unfold SetTable.turns;exact ar231 h1 hk) hi e
  refine⟨owner.setIfInBounds j' (some k),?_,by simpa using h1,?_⟩
  ·show ((SetTable.layClean.free m owner (SetTable.turns m) (SetTable.bits x%(m+1)) (SetTable.bits x)).bind fun j=>some (owner.setIfInBounds j (some k),k+1))=_
   rw [e1];rfl
  ·rw [Array.toList_setIfInBounds]
   refine(filter_set (by rw [Xo];exact e2)).trans ?_
   rw [List.range_succ]
   exact(h2.cons k).trans (List.perm_append_singleton k _).symm
theorem relaid_ok{t:SetTable}{hs:Array Int}{wanted m:Nat}(hw:SetTable.sizeAbove wanted-1=m)(hm:okMask m)(hl:hs.size≤m) : ∃ t' order,t.relaid hs wanted=some (t',order)∧t'.mask=m∧t'.place.size=hs.size∧t'.place.toList.Pairwise (· < ·)∧
  (∀ q∈t'.place.toList,q≤m)∧t'.dummies = #[]∧t'.plain=t.plain∧t'.led=t.led∧order.toList.Perm (List.range hs.size):=by
 have h0:LaidTo m (some (Array.replicate (m+1) none,0)) 0:=⟨_,rfl,by simp,by simp⟩
 refine byC fun hG=>?_
 obtain⟨owner,e,h1,h2⟩:=laid_fold hm hs.toList _ 0 h0 (by simpa using hl)
 refine hG ?_
 clear hG
 rw [Nat.zero_add,Xp] at e h2
 have hc:SetTable.layClean m hs=some owner:=by
  unfold SetTable.layClean
  rw [←Array.foldl_toList,e];rfl
 have hsnd:((List.range (m+1)).filterMap fun j=>(owner.getD j none).map (j,·)).map (·.2)=owner.toList.filterMap id:=by
  rw [List.map_filterMap]
  have hr:owner.toList=(List.range (m+1)).map fun j=>owner.getD j none:=by
   refine List.ext_getElem? fun i=>?_
   rw [Xo,X8]
   by_cases q:i<m+1
   ·rw [List.getElem?_range q,Xn (by exact ar232 h1 q)]
    simp [Array.getD_eq_getD_getElem?,Xn (by exact ar232 h1 q:i<owner.size)]
   ·rw [List.getElem?_eq_none (by simp;exact ar233 h1 q),Array.getElem?_eq_none (by exact ar234 h1 q)];rfl
  rw [hr,List.filterMap_map]
  congr 1
  funext j
  simp only [Function.comp,Option.map_map,id]
  cases owner.getD j none<;>rfl
 have hlen:((List.range (m+1)).filterMap fun j=>(owner.getD j none).map (j,·)).length=hs.size:=by
  rw [←X4 (f:=(·.2)),hsnd,h2.length_eq,List.length_range]
 refine⟨{mask:=m,place:=(((List.range (m+1)).filterMap fun j=>(owner.getD j none).map (j,·)).map (·.1)).toArray,dummies := #[],finger:=t.finger,led:=t.led,moves:=t.movedTo m,plain:=t.plain},(((List.range (m+1)).filterMap fun j=>(owner.getD j none).map (j,·)).map (·.2)).toArray,by unfold SetTable.relaid SetTable.laid;rw [hw,hc];rfl,rfl,by simpa using hlen,?_,?_,rfl,rfl,rfl,?_⟩
 ·show (((List.range (m+1)).filterMap fun j=>(owner.getD j none).map (j,·)).map (·.1)).Pairwise (· < ·)
  rw [List.pairwise_map,List.pairwise_filterMap]
  refine List.pairwise_lt_range.imp fun {a b} hab x hx y hy=>?_
  refine byC fun hG=>?_
  obtain⟨_,_,rfl⟩:=Xl.mp hx
  obtain⟨_,_,rfl⟩:=Xl.mp hy
  refine hG ?_
  clear hG
  exact hab
 ·intro q hq
  refine byC fun hG=>?_
  obtain⟨x,hx,rfl⟩:=List.mem_map.mp (show q∈((List.range (m+1)).filterMap fun j=>(owner.getD j none).map (j,·)).map (·.1) from hq)
  obtain⟨j,hj,he⟩:=List.mem_filterMap.mp hx
  obtain⟨_,_,rfl⟩:=Xl.mp he
  refine hG ?_
  clear hG
  exact Nat.le_of_lt_succ (List.mem_range.mp hj)
 ·show (((List.range (m+1)).filterMap fun j=>(owner.getD j none).map (j,·)).map (·.2)).Perm _
  rw [hsnd];exact h2
theorem grown_ok{m n:Nat}(hm:okMask m)(h1:n*5<m*3)(h2:m*3≤(n+1)*5)(hn:n<300):okMask (SetTable.sizeAbove (SetTable.grown (n+1))-1)∧(n+1)*5<(SetTable.sizeAbove (SetTable.grown (n+1))-1)*3:=by
 have:(m=7∧n=4)∨(m=31∧n=18)∨(m=127∧n=76):=by
  rcases hm with rfl|rfl|rfl|rfl<;>(first|exact ar235 hn h1 h2|exact ar236 hn h1 h2|exact ar237 hn h1 h2|exact ar238 hn h2)
 rcases this with⟨rfl,rfl⟩|⟨rfl,rfl⟩|⟨rfl,rfl⟩
 ·exact⟨.inr (.inl (by decide)),by decide⟩
 ·exact⟨.inr (.inr (.inl (by decide))),by decide⟩
 ·exact⟨.inr (.inr (.inr (by decide))),by decide⟩
end Lay
set_option maxRecDepth 100000
namespace Lay
theorem TabOk.fits{t:SetTable}{n:Nat}(h:TabOk t n):t.fits n=true:=by
 unfold SetTable.fits SetTable.fill
 have:=h.room
 rw [h.dum,h.size]
 simp only [Array.size_empty,beq_self_eq_true,Bool.true_and,decide_eq_true_eq]
 exact ar239 this
theorem order_perm{α:Type}{es:Array α}{order:Array Nat}(h:order.toList.Perm (List.range es.size)):(order.filterMap (es[·]?)).toList.Perm es.toList:=by
 rw [Array.toList_filterMap]
 have:=h.filterMap (f:=fun i=>es[i]?)
 rwa [filterMap_getElem?_range] at this
inductive Grow(t t1:SetTable)(n:Nat):Prop
 |stay (hf:t1.tooFull=false) (ok:TabOk t1 (n+1)):Grow t t1 n
 |anew (hf:t1.tooFull=true) (hz:SetTable.sizeAbove (SetTable.grown (n+1))≤sizeLine) (ok : ∀ hs:Array Int,hs.size=n+1→∃ t2 order,t1.relaid hs (SetTable.grown (n+1))=some (t2,order)∧TabOk t2 (n+1)∧t2.led=t1.led∧order.toList.Perm (List.range (n+1))):Grow t t1 n
theorem add_tab{t:SetTable}{n j:Nat}(ok:TabOk t n)(hn:n<300)(hj:j≤t.mask)(hs:t.slot j = .empty) : ∃ t1 p,t.put j=(t1,p)∧t1.fits (n+1)=true∧t1.plain=true∧t1.led=t.led∧p≤n∧Grow t t1 n:=by
 refine byC fun hG=>?_
 obtain⟨t1,p,e,h1,h2,h3,h4,h5,h6,h7,h8⟩:=put_ok ok hj hs
 refine hG ?_
 clear hG
 have hfill:t1.fill=n+1:=by unfold SetTable.fill;rw [h2,h5];rfl
 have hm:=ok.mask
 have hroom:=ok.room
 refine⟨t1,p,e,?_,h6.trans ok.plain,h7,h8,?_⟩
 ·unfold SetTable.fits
  rw [hfill,h2,h1]
  simp only [beq_self_eq_true,Bool.true_and,decide_eq_true_eq]
  exact ar240 hn h1 h2 hfill hroom
 ·by_cases q:t1.mask*3≤(n+1)*5
  ·rw [h1] at q
   obtain⟨g1,g2⟩:=grown_ok hm hroom q hn
   refine .anew (by unfold SetTable.tooFull;rw [hfill,h1];exact decide_eq_true q) ?_ fun hs hl=>?_
   ·rw [sizeLine_eq];rcases g1 with g|g|g|g<;>(first|exact ar241 g|exact ar242 g|exact ar243 g|exact ar244 g)
   ·obtain⟨t2,order,r1,r2,r3,r4,r5,r6,r7,r8,r9⟩:=relaid_ok (t:=t1) (hs:=hs) rfl g1 (by rw [hl];exact ar245 hn h2 hfill g2 hl)
    rw [hl] at r3 r9
    exact⟨t2,order,r1,⟨r2▸g1,r3,r4,r2▸r5,r6,by rw [r2];exact g2,by rw [r7,h6];exact ok.plain⟩,r8,r9⟩
  ·refine .stay (by unfold SetTable.tooFull;rw [hfill];exact decide_eq_false (by exact ar246 h2 hfill q)) ⟨h1▸hm,h2,h3,h1▸h4,h5,by exact ar247 h2 hfill q,h6.trans ok.plain⟩
structure SetHas(w:World)(h:Heap)(S:Addr)(es:Array (Int×Value))(t:SetTable)(n:Nat):Prop where
 obj : ∃ ep,h.get? S=some ⟨.type "set",none,.set es ep t,#[]⟩
 tab:TabOk t n
 size:es.size=n
 led:t.led = !w.params.followText "set-order"
noncomputable def SetMore(w:World)(h:Heap)(S:Addr)(es:Array (Int×Value))(n:Nat)(x:Int×Value):Prop := ∃ es' t',SetHas w h S es' t' (n+1)∧es'.toList.Perm (x::es.toList)
theorem insert_perm(es:Array (Int×Value))(p:Nat)(x:Int×Value):(SetTable.insertAt es p x).toList.Perm (x::es.toList):=by
 refine(SetTable.insertAt_perm es p x).trans ?_
 rw [Array.toList_push];exact List.perm_append_singleton x es.toList
section
variable{prog:Program}{w:World}{A:Around}{E:Value→Shared→Prop}{s:Shared}
theorem SetHas.store{h:Heap}{S:Addr}{es es':Array (Int×Value)}{t t':SetTable}{ep:Nat}(ho:h.get? S=some ⟨.type "set",none,.set es ep t,#[]⟩):(h.update S (Obj.putSet es' t')).get? S=some ⟨.type "set",none,.set es' (ep+1) t',#[]⟩∧Xw S h (h.update S (Obj.putSet es' t')):=by
 have e:=putSet_of (o:=⟨.type "set",none,.set es ep t,#[]⟩) es' t' rfl
 have:=Heap.get?_update_self (Obj.putSet es' t') ho (by rw [e];rfl)
 rw [e] at this
 exact⟨this,Xw.update ..⟩
theorem free_slot{t:SetTable}{n:Nat}(ok:TabOk t n)(h:Int) : ∃ j,j≤t.mask∧t.slot j = .empty∧t.freeSlot h=some (j,false):=by
 obtain⟨d,hd,he⟩:=empty_met ok (GoodP.start (t:=t) h)
 have m:=probe_met ok (fun _=>h+1) h d (10*SetTable.turns t.mask) _ hd (GoodP.start (t:=t) h) he
 unfold SetTable.freeSlot SetTable.probe
 generalize SetTable.probe.go t (fun _=>h+1) h (10*SetTable.turns t.mask) (t.probeStart h)=o at m
 cases m with
 |empty j hj hs=>exact⟨j,hj,hs,rfl⟩
 |cand j i d' nx _ hh=>exact absurd hh (Int.ne_of_gt (Int.lt_add_one_of_le (Int.le_refl _)))
theorem lay_new{t t1:SetTable}{es:Array (Int×Value)}{n j p:Nat}{h:Int}{x:Value}(hf:t.freeSlot h=some (j,false))(hp:t.put j=(t1,p))(hfit:t1.fits (n+1)=true)(hz:es.size=n) :
  layNew t es h x=(SetTable.insertAt es p (h,x),t1,false,false):=by
 have hsz:(SetTable.insertAt es p (h,x)).size=n+1:=by
  have:=(insert_perm es p (h,x)).length_eq
  simpa [hz] using this
 unfold layNew
 rw [hf]
 dsimp only
 rw [hp]
 dsimp only
 unfold SetTable.orStandIn
 rw [hsz,hfit]
 rfl
theorem relay_all{t1 t2:SetTable}{es:Array (Int×Value)}{n wanted:Nat}{order:Array Nat}(hz:es.size=n+1)(hr:t1.relaid (es.map (·.1)) wanted=some (t2,order))(ok:TabOk t2 (n+1))(ho:order.toList.Perm (List.range (n+1))) :
  relayAll t1 es wanted=(order.filterMap (es[·]?),t2,false)∧(order.filterMap (es[·]?)).size=n+1∧(order.filterMap (es[·]?)).toList.Perm es.toList:=by
 have hp:=order_perm (es:=es) (order:=order) (by rw [hz];exact ho)
 have hs:(order.filterMap (es[·]?)).size=n+1:=by have:=hp.length_eq;rwa [Xp,Xp,hz] at this
 refine⟨?_,hs,hp⟩
 unfold relayAll
 rw [hr]
 dsimp only
 have c:coversAll order es.size=true:=by unfold coversAll;rw [hz,List.isPerm_iff];exact ho
 rw [c,hs,ok.fits]
 rfl
theorem add_int{S:Addr}{es:Array (Int×Value)}{t:SetTable}{n:Nat}{k:Int}{u:Tok}{Q:Bool→Shared→Prop}(hs:SetHas w s.heap S es t n)(hn:n<300)(hel:ElemsOf (intKind prog w) es.toList)
  (hnew : ∀ e∈es.toList,(intKind prog w).is k e.2=false)
  (h : ∀ h' tk,Xw S s.heap h'→SetMore w h' S es n ((intKind prog w).hash k,.int k u)→Q true {s with heap:=h',toks:=tk}):wpAny (model prog w) A (setAdd S (.int k u)) Q E s:=by
 refine byC fun hG=>?_
 obtain⟨⟨ep,ho⟩,ok,hz,hled⟩:=hs
 refine hG ?_
 clear hG
 have hfit:t.fits es.size=true:=by rw [hz];exact ok.fits
 refine byC fun hG=>?_
 obtain⟨j,hj,hsl,hfree⟩:=free_slot ok ((intKind prog w).hash k)
 obtain⟨t1,p,hput,f1,pl1,led1,hp1,grow⟩:=add_tab ok hn hj hsl
 refine hG ?_
 clear hG
 have hlay:=lay_new (x:=.int k u) hfree hput f1 hz
 have hsz:(SetTable.insertAt es p ((intKind prog w).hash k,Value.int k u)).size=n+1:=by
  have:=(insert_perm es p ((intKind prog w).hash k,Value.int k u)).length_eq
  simpa [hz] using this
 have hline:n+1≤sizeLine:=by rw [sizeLine_eq];exact ar248 hn hz hsz
 unfold setAdd
 refine W1 (Xy ((intKind prog w).pyHash (k:=k) (intKind_is _ _ _ _) ?_))
 unfold setAddHashed setAddHashedIn
 refine W1 (Xy (wpAny_setState_of (s:={s with toks:=s.toks+1}) ho rfl hfit ?_))
 dsimp only
 have hb:es.size<scanBound:=by rw [hz,show scanBound=4096 from rfl];exact ar249 hn hz hsz
 rw [byScan_of (knd:=intKind prog w) rfl hb hel]
 refine wt rfl ?_
 unfold setAddByScan
 refine Xy (Xy (wpAny_rule (Xy (wpAny_setScan_of (knd:=intKind prog w) (s:={s with toks:=s.toks+1}) (intKind_is _ _ _ _) ho rfl hfit hel ?_))))
 have hidx:es.toList.findIdx? (fun e=>(intKind prog w).is k e.2)=none:=List.findIdx?_eq_none_iff.mpr fun e he=>hnew e he
 rw [hidx]
 dsimp only
 rw [hlay]
 dsimp only
 refine Xy (Xz ?_)
 rw [pl1]
 refine wt rfl ?_
 refine Xy (W0 (hashByValue_scannable 8 (x:=.int k u) rfl) ?_)
 rw [show plainKind (.int k u)=true from rfl]
 rw [if_pos rfl]
 obtain⟨g1,sb1⟩:=SetHas.store (es':=SetTable.insertAt es p ((intKind prog w).hash k,.int k u)) (t':=t1) ho
 refine Xy (wpAny_storeSet_of (s:={s with toks:=s.toks+1}) ho rfl ?_ (by rw [hsz];exact hline))
 cases grow with
 |stay hf ok1 =>
  rw [hf]
  refine wf rfl ?_
  refine Xz (Xz (h _ _ sb1 ⟨_,_,⟨⟨_,g1⟩,ok1,hsz,led1.trans hled⟩,insert_perm ..⟩))
 |anew hf hz2 okr =>
  rw [hf]
  refine wt rfl ?_
  refine byC fun hG=>?_
  obtain⟨t2,order,r1,ok2,led2,po⟩:=okr ((SetTable.insertAt es p ((intKind prog w).hash k,Value.int k u)).map (·.1)) (by simpa using hsz)
  obtain⟨e2,z2,p2⟩:=relay_all hsz r1 ok2 po
  refine hG ?_
  clear hG
  rw [hsz,e2]
  dsimp only
  refine Xy (Xz ?_)
  obtain⟨g2,sb2⟩:=SetHas.store (es':=order.filterMap ((SetTable.insertAt es p ((intKind prog w).hash k,Value.int k u))[·]?)) (t':=t2) g1
  refine Xy (wpAny_storeSet_of (s:={s with heap:=_,toks:=s.toks+1}) g1 rfl ?_ (by rw [z2];exact hline))
  exact Xz (Xz (h _ _ (sb1.trans sb2) ⟨_,_,⟨⟨_,g2⟩,ok2,z2,led2.trans (led1.trans hled)⟩,p2.trans (insert_perm ..)⟩))
theorem met_of{t:SetTable}{n d:Nat}{f:Nat→Int}{h:Int}{p:SetTable.Probe}{o:Option SetTable.Met}(ok:TabOk t n)(hd:d<10*SetTable.turns t.mask)(g:GoodP t p)(he:t.slot (itr t.advance d p).j = .empty)(e:t.probe f h p=o):Met t f h d o:=by
 subst e;exact probe_met ok f h d _ p hd g he
noncomputable abbrev TupK(prog:Program)(w:World)(h:Heap)(ks:List Int)(v:Value):Prop := ∃ a,v = .ref a∧IsTupleKey (intKind prog w) h ks a
set_option smartUnfolding false in
theorem class_tup{ks:List Int}{v:Value}{Q:Bool→Shared→Prop}(hk:TupK prog w s.heap ks v)(h:Q false s):wpAny (model prog w) A (ofAClassStatement (7+1) v) Q E s:=by
 refine byC fun hG=>?_
 obtain⟨a,rfl,hk⟩:=hk
 refine hG ?_
 clear hG
 have hT:=hk.typeIs
 refine byC fun hG=>?_
 obtain⟨o,items,n,ho,_,hd,hi⟩:=hk
 refine hG ?_
 clear hG
 refine Xy (wpAny_typeOf hT ?_)
 refine wt rfl ?_
 refine Xy (Xz ?_)
 refine wf rfl ?_
 refine Xy (wpAny_seqItems ho hd ?_)
 refine Xy ?_
 rw [←Array.forIn_toList]
 refine wpAny_forIn_list _ (fun rest r s'=>r.1=none∧s'=s∧∃ l,ItemsAre (intKind prog w) l rest) _ ?_ ?_ _ _ ⟨rfl,rfl,_,hi⟩
 ·rintro v rest r s' ⟨hr,rfl,l,hl⟩
  cases hl with
  |@cons k _ _ _ h1 h2 =>
   obtain⟨t,rfl⟩:=isInt_inv (W:=⟨prog,w,[],prog,[],fun _=>none,fun _=>none⟩) h1
   refine Xy (W0 (a:=false) rfl ?_)
   refine wf rfl ?_
   exact Xz ⟨rfl,rfl,_,h2⟩
 ·rintro⟨r1,r2⟩ s' ⟨hr,rfl,_⟩
  simp only at hr
  subst hr
  exact Xz h
theorem not_seen{ks:List Int}{x:Value}{Q:Bool→Shared→Prop}(hk:TupK prog w s.heap ks x){l:List Value}(hl : ∀ y∈l,∃ ks',TupK prog w s.heap ks' y)(h:Q false s):wpAny (model prog w) A (searchCouldBeSeen x l) Q E s:=by
 unfold searchCouldBeSeen
 refine Xy ?_
 refine wpAny_forIn_list _ (fun rest r s'=>r.1=none∧s'=s∧∀ y∈rest,∃ ks',TupK prog w s.heap ks' y) _ ?_ ?_ _ _ ⟨rfl,rfl,hl⟩
 ·rintro v rest r s' ⟨hr,rfl,hall⟩
  refine byC fun hG=>?_
  obtain⟨a,rfl,hka⟩:=id hk
  obtain⟨ks',hv⟩:=hall v List.mem_cons_self
  obtain⟨b,rfl,hkb⟩:=id hv
  refine hG ?_
  clear hG
  have fin : ∀ y∈rest,∃ ks',TupK prog w s'.heap ks' y:=fun y hy=>hall y (List.mem_cons_of_mem _ hy)
  dsimp only
  split
  ·exact Xz ⟨rfl,rfl,fin⟩
  ·refine Xy (wpAny_eqIsQuiet_tuple hka ?_)
   refine wf rfl ?_
   refine Xy (wpAny_eqIsQuiet_tuple hkb ?_)
   refine wf rfl ?_
   refine Xy (class_tup hk ?_)
   refine wf rfl ?_
   refine Xy (class_tup hv ?_)
   refine wf rfl ?_
   exact Xz ⟨rfl,rfl,fin⟩
 ·rintro⟨r1,r2⟩ s' ⟨hr,rfl,_⟩
  simp only at hr
  subst hr
  exact Xz h
theorem sound_way{t:SetTable}{n:Nat}(ok:TabOk t n):t.gaveWay=false:=by
 unfold SetTable.gaveWay
 rcases ok.mask with e|e|e|e<;>rw [e]<;>rfl
theorem live_at{t:SetTable}{n j i:Nat}(ok:TabOk t n)(h:t.slot j = .live i):i<n:=by
 unfold SetTable.slot at h
 dsimp only at h
 split at h
 ·rename_i q
  injection h
  have:t.place[SetTable.below t.place j]?=some j:=by simpa using q
  rw [←ok.size];exact(Xq.mp this).1
 ·split at h<;>injection h
theorem if_seen{α:Type}{M:Model}{b:Bool}{m:Sem Bool}{X R:Sem α}{Q:α→Shared→Prop}(hm:wpAny M A m (fun c s'=>c=false∧s'=s) E s)(hR:wpAny M A R Q E s):wpAny M A (if b=true then (m>>=fun c=>if c=true then X else R) else R) Q E s:=by
 cases b with
 |false=>exact hR
 |true =>
  refine Xy (wpAny_mono hm (fun c s' h=>?_) fun _ _ e=>e)
  refine byC fun hG=>?_
  obtain⟨rfl,rfl⟩:=h
  refine hG ?_
  clear hG
  exact hR
theorem search_tup{S:Addr}{es:Array (Int×Value)}{t:SetTable}{n:Nat}{ks:List Int}{x:Value}{h:Int}{ep:Nat}{Q:SetFound→Shared→Prop}(hu:A.units<cLine)(ho:s.heap.get? S=some ⟨.type "set",none,.set es ep t,#[]⟩)(ok:TabOk t n)(hz:es.size=n)(hk:TupK prog w s.heap ks x)
  (hel : ∀ e∈es.toList,∃ ks',TupK prog w s.heap ks' e.2∧ks'≠ks) (hQ : ∀ j,j≤t.mask→t.slot j = .empty→Q (.free j false) s) :
  ∀ (d fuel:Nat) (stand:Option SetTable.Probe),d<fuel→d<10*SetTable.turns t.mask→GoodP t (stand.getD (t.probeStart h))→t.slot (itr t.advance d (stand.getD (t.probeStart h))).j = .empty→
  wpAny (model prog w) A (setSearchFrom S x h true fuel stand) Q E s:=by
 intro d
 induction d using Nat.strongRecOn with
 |ind d ih =>
 intro fuel stand hf hd g he
 cases fuel with
 |zero=>exact absurd hf (Nat.not_lt_zero _)
 |succ fuel =>
 have hfit:t.fits es.size=true:=by rw [hz];exact ok.fits
 refine Xy (wpAny_setState_of ho rfl hfit ?_)
 dsimp only
 rw [sound_way ok]
 refine wf rfl ?_
 generalize hm:SetTable.probe t _ _ _=o
 cases o with
 |some met =>
  have m:=met_of ok hd g he hm
  cases m with
  |empty j hj hs=>exact Xz (hQ j hj hs)
  |cand j i d' nx hs hh g' hd' he' =>
   have hi:=live_at ok hs
   have hi':es[i]?=some (es[i]'(by exact ar51 hz hi)):=Xn (by exact ar51 hz hi)
   refine byC fun hG=>?_
   obtain⟨ks',hv,hne⟩:=hel (es[i]'(by exact ar51 hz hi)) (Array.mem_toList_iff.mpr (Array.getElem_mem _))
   obtain⟨a,rfl,hka⟩:=id hk
   obtain⟨b,hvb,hkb⟩:=hv
   refine hG ?_
   clear hG
   dsimp only
   refine if_seen (not_seen hk (fun y hy=>?_) ⟨rfl,rfl⟩) ?_
   ·obtain⟨e,he1,rfl⟩:=List.mem_map.mp hy
    obtain⟨k2,h2,_⟩:=hel e (by simp at he1;exact Array.mem_toList_iff.mpr he1.1)
    exact⟨k2,h2⟩
   rw [hi']
   dsimp only
   rw [hvb]
   refine Xy (W1 (wpAny_eqBool_tuple hu hkb hka ?_))
   rw [decide_eq_false hne]
   refine Xy (wpAny_setState_of ho rfl hfit ?_)
   refine wf (Bool.and_false _) ?_
   rw [show t.sameMemory t.moves t.mask=some true by unfold SetTable.sameMemory;simp]
   dsimp only
   rw [if_pos rfl,hs]
   dsimp only
   rw [hi']
   dsimp only
   rw [hvb]
   refine Xy ?_
   unfold isSame
   dsimp only
   rw [if_pos (by simp)]
   refine Xz ?_
   refine Xy (Xz ?_)
   refine wf rfl ?_
   exact ih d' hd' fuel (some nx) (by exact ar250 hf hd') (by exact ar251 hd hd') g' he'
 |none=>cases met_of ok hd g he hm
theorem by_value{ks:List Int}{x:Value}{Q:Bool→Shared→Prop}(hk:TupK prog w s.heap ks x)(h:Q true s):wpAny (model prog w) A (hashByValue 8 x) Q E s:=by
 refine byC fun hG=>?_
 obtain⟨a,rfl,hk⟩:=hk
 refine hG ?_
 clear hG
 have hT:=hk.typeIs
 refine byC fun hG=>?_
 obtain⟨o,items,n,ho,_,hd,hi⟩:=hk
 refine hG ?_
 clear hG
 unfold hashByValue
 refine Xy (wpAny_specialOf hT F.slot_tuple_hash.lookup ?_)
 dsimp only
 refine Xy (wpAny_seqItems ho hd ?_)
 dsimp only [Option.getD]
 refine Xy ?_
 rw [←Array.forIn_toList]
 refine wpAny_forIn_list _ (fun rest r s'=>r.1=none∧s'=s∧∃ l,ItemsAre (intKind prog w) l rest) _ ?_ ?_ _ _ ⟨rfl,rfl,_,hi⟩
 ·rintro v rest r s' ⟨hr,rfl,l,hl⟩
  cases hl with
  |@cons k _ _ _ h1 h2 =>
   obtain⟨t,rfl⟩:=isInt_inv (W:=⟨prog,w,[],prog,[],fun _=>none,fun _=>none⟩) h1
   refine Xy (W0 (hashByValue_scannable 7 (x:=.int k t) rfl) ?_)
   rw [show plainKind (.int k t)=true from rfl]
   refine wf rfl ?_
   exact Xz ⟨rfl,rfl,_,h2⟩
 ·rintro⟨r1,r2⟩ s' ⟨hr,rfl,_⟩
  simp only at hr
  subst hr
  exact Xz h
theorem add_tup{S:Addr}{es:Array (Int×Value)}{t:SetTable}{n:Nat}{ks:List Int}{x:Value}{Q:Bool→Shared→Prop}(hu:A.units<cLine)(hs:SetHas w s.heap S es t n)(hn:n<300)(hk:TupK prog w s.heap ks x)
  (hel : ∀ e∈es.toList,∃ ks',TupK prog w s.heap ks' e.2∧ks'≠ks)
  (h : ∀ h' tk hh,Xw S s.heap h'→SetMore w h' S es n (hh,x)→Q true {s with heap:=h',toks:=tk}):wpAny (model prog w) A (setAdd S x) Q E s:=by
 refine byC fun hG=>?_
 obtain⟨⟨ep,ho⟩,ok,hz,hled⟩:=hs
 obtain⟨a,rfl,hka⟩:=id hk
 refine hG ?_
 clear hG
 have hfit:t.fits es.size=true:=by rw [hz];exact ok.fits
 have hline:n+1≤sizeLine:=by rw [sizeLine_eq];exact ar252 hn hz
 unfold setAdd
 refine W1 (Xy (wpAny_pyHash_tuple hu hka ?_))
 generalize tupleKeyHash (intKind prog w) ks=hh
 generalize s.toks+(ks.length+1)=tk
 obtain⟨d,hd,he⟩:=empty_met ok (GoodP.start (t:=t) hh)
 unfold setAddHashed setAddHashedIn
 refine W1 (Xy (wpAny_setState_of (s:={s with toks:=tk}) ho rfl hfit ?_))
 dsimp only
 rw [show byScan (Value.ref a) es=false by unfold byScan;rfl]
 refine wf rfl ?_
 refine Xy ?_
 unfold setSearch
 have hturn:10*SetTable.turns t.mask≤5260:=by unfold SetTable.turns;rcases ok.mask with e|e|e|e<;>(first|exact ar253 e|exact ar254 e|exact ar255 e|exact ar256 e)
 refine search_tup (s:={s with toks:=tk}) (ks:=ks) hu ho ok hz hk hel (fun j hj hsl=>?_) d 100000 none (by exact ar257 hd hturn) hd (GoodP.start hh) he
 refine byC fun hG=>?_
 obtain⟨t1,p,hput,f1,pl1,led1,hp1,grow⟩:=add_tab ok hn hj hsl
 refine hG ?_
 clear hG
 have hsz:(SetTable.insertAt es p (hh,Value.ref a)).size=n+1:=by
  have:=(insert_perm es p (hh,Value.ref a)).length_eq
  simpa [hz] using this
 dsimp only
 refine Xy (wpAny_setState_of (s:={s with toks:=tk}) ho rfl hfit ?_)
 dsimp only
 rw [hput]
 dsimp only
 rw [pl1]
 refine wt rfl ?_
 refine Xy (by_value (s:={s with toks:=tk}) hk ?_)
 rw [if_pos rfl]
 obtain⟨g1,sb1⟩:=SetHas.store (es':=SetTable.insertAt es p (hh,.ref a)) (t':=t1) ho
 refine Xy (wpAny_storeSet_of (s:={s with toks:=tk}) ho rfl ?_ (by rw [hsz];exact hline))
 cases grow with
 |stay hf ok1 =>
  rw [hf]
  refine wf rfl ?_
  exact Xz (h _ _ hh sb1 ⟨_,_,⟨⟨_,g1⟩,ok1,hsz,led1.trans hled⟩,insert_perm ..⟩)
 |anew hf hz2 okr =>
  rw [hf]
  refine wt rfl ?_
  refine byC fun hG=>?_
  obtain⟨t2,order,r1,ok2,led2,po⟩:=okr ((SetTable.insertAt es p (hh,Value.ref a)).map (·.1)) (by simpa using hsz)
  refine hG ?_
  clear hG
  have hp2:=order_perm (es:=SetTable.insertAt es p (hh,Value.ref a)) (order:=order) (by rw [hsz];exact po)
  have hz3:(order.filterMap ((SetTable.insertAt es p (hh,Value.ref a))[·]?)).size=n+1:=by have:=hp2.length_eq;rwa [Xp,Xp,hsz] at this
  refine Xy ?_
  unfold setRelay
  refine Xy (wpAny_setState_of (s:={s with heap:=_,toks:=tk}) g1 rfl (by rw [hsz];exact f1) ?_)
  dsimp only
  rw [hz,if_neg (by exact ar258 hz2)]
  rw [r1]
  refine Xy ?_
  show wpAny _ _ (if ((order.filterMap ((SetTable.insertAt es p (hh,Value.ref a))[·]?)).size !=(SetTable.insertAt es p (hh,Value.ref a)).size)=true then _ else _) _ _ _
  rw [hz3,hsz]
  rw [if_neg (by simp)]
  refine Xz ?_
  dsimp only
  obtain⟨g2,sb2⟩:=SetHas.store (es':=order.filterMap ((SetTable.insertAt es p (hh,Value.ref a))[·]?)) (t':=t2) g1
  refine wpAny_storeSet_of (s:={s with heap:=_,toks:=tk}) g1 rfl ?_ (by rw [hz3];exact hline)
  exact Xz (h _ _ hh (sb1.trans sb2) ⟨_,_,⟨⟨_,g2⟩,ok2,hz3,led2.trans (led1.trans hled)⟩,hp2.trans (insert_perm ..)⟩)
end
end Lay
set_option maxRecDepth 100000
namespace Lay
section
variable{prog:Program}{w:World}{A:Around}{E:Value→Shared→Prop}{s:Shared}
theorem set_loop{R:Result→Shared→Prop}{I l S:Addr}{items:Array Value}(hh:A.handled=none)(hSI:S≠I)(hSl:S≠l)(hlI:l≠I)(Inv:Nat→Heap→Prop)
  (frame : ∀ i h h',Inv i h→(∀ b o,b≠I→h.get? b=some o→h'.get? b=some o)→Inv i h')
  (step : ∀ i v (s:Shared) (Q:Bool→Shared→Prop) (E:Value→Shared→Prop),items[i]?=some v→Inv i s.heap→(∀ b h' tk,Xw S s.heap h'→Inv (i+1) h'→Q b {s with heap:=h',toks:=tk})→wpAny (model prog w) A.in1 (setAdd S v) Q E s) :
  ∀ (k i:Nat) (s:Shared),items.size-i=k→i≤items.size→s.heap.IsListIter I l i→s.heap.IsList l items→Inv i s.heap→
  (∀ h' tk,Inv items.size h'→(∀ b o,b≠S→b≠I→s.heap.get? b=some o→h'.get? b=some o)→R (.ok (.ret .none)) {s with heap:=h',toks:=tk})→
  codeAny (model prog w) A (.builtin "set.update.loop" ⟨[.ref S,.ref I],[]⟩) R s:=by
 intro k
 induction k with
 |zero =>
  intro i s hk hi hit hl inv hR
  have:i=items.size:=by exact ar148 hk hi
  subst this
  refine codeAny_builtin F.entry_set_update_loop ?_
  rw [Around.under_plainId F.plain_set_update_loop _]
  show wpAny _ A.in1 (pyNext (.ref I)>>=_) _ _ s
  refine Xy (wpAny_pyNext_list_end hh hit hl (by simp) fun h' he=>?_)
  show wpAny _ A.in1 (ret Value.none) _ _ _
  exact Xz (hR h' s.toks (frame _ _ _ inv fun b o q e=>he b o q e) fun b o _ q e=>he b o q e)
 |succ k ih =>
  intro i s hk hi hit hl inv hR
  refine codeAny_builtin F.entry_set_update_loop ?_
  rw [Around.under_plainId F.plain_set_update_loop _]
  show wpAny _ A.in1 (pyNext (.ref I)>>=_) _ _ s
  have hx:items[i]?=some (items[i]'(by exact ar149 hk hi)):=Xn (by exact ar149 hk hi)
  refine Xy (wpAny_pyNext_list_item hit hl hx fun h1 hit1 hs1=>?_)
  dsimp only
  refine Xy (W1 (step i _ _ _ _ hx (frame _ _ _ inv fun b o q e=>(hs1.2 b q).trans e) fun b h2 tk2 hs2 inv2=>?_))
  refine Xz ⟨plainId_quiet F.plain_set_update_loop _,ih (i+1) _ (by exact ar259 hk hi) (by exact ar260 hk hi) (hit1.at fun o e=>(hs2.2 I (Ne.symm hSI)).trans e) ((hl.at fun o e=>(hs1.2 l hlI).trans e).at fun o e=>(hs2.2 l (Ne.symm hSl)).trans e) inv2 fun h' tk a1 a2=>?_⟩
  exact hR h' tk a1 fun b o q1 q2 e=>a2 b o q1 q2 ((hs2.2 b q1).trans ((hs1.2 b q2).trans e))
theorem code_set_led(a:Value){Q₁:Value→Shared→Prop}
  (h:Q₁ (.ref s.heap.objs.size) {s with heap:=s.heap.push {cls:=.type "set",dict:=none,data:=.set #[] 0 (.fresh 0 0 (!w.params.followText "set-order"))}}) :
  codeAny (model prog w) A (.call (.builtin "set.__new__") ⟨[.type "set",a],[]⟩) (wants Q₁ E) s:=by
 refine codeAny_of_tree ?_
 show wpAny _ A.in1 (do checkBuiltinCall "set.__new__" ⟨[.type "set",a],[]⟩;again (.builtin "set.__new__" ⟨[.type "set",a],[]⟩)) _ _ s
 refine Xy (W0 (F.newCall_set_1 a) (Xz ⟨plainId_quiet F.plain_set_new _,codeAny_builtin F.entry_set_new ?_⟩))
 rw [Around.under_plainId F.plain_set_new _]
 unfold Builtin.«set.__new__» Builtin.Frozenset.newClass
 have hsub:=sub_set_self
 refine byC fun hG=>?_
 obtain⟨hp,g,d,tk,os⟩:=s
 refine hG ?_
 clear hG
 dsimp only
 wp_walk
 refine wpAny_askSetting (Xz ?_)
 dsimp only
 refine Xy (wpAny_alloc (Xz ?_))
 exact Xz h
set_option maxHeartbeats 3200000 in
theorem call_set{l:Addr}{items:Array Value}{Q:Value→Shared→Prop}(hh:A.handled=none)(hl:s.heap.IsList l items)(Inv:Nat→Heap→Prop)
  (first : ∀ h',(∀ b o,s.heap.get? b=some o→h'.get? b=some o)→h'.get? s.heap.objs.size=some {cls:=.type "set",dict:=none,data:=.set #[] 0 (.fresh 0 0 (!w.params.followText "set-order"))}→Inv 0 h')
  (frame : ∀ I i h h',s.heap.objs.size<I→Inv i h→(∀ b o,b≠I→h.get? b=some o→h'.get? b=some o)→Inv i h')
  (step : ∀ i v (A':Around) (s1:Shared) (Q:Bool→Shared→Prop) (E:Value→Shared→Prop),A'.units≤A.units+100→items[i]?=some v→Inv i s1.heap→(∀ b h' tk,Xw s.heap.objs.size s1.heap h'→Inv (i+1) h'→Q b {s1 with heap:=h',toks:=tk})→wpAny (model prog w) A' (setAdd s.heap.objs.size v) Q E s1)
  (h : ∀ h' tk,Inv items.size h'→(∀ b o,s.heap.get? b=some o→h'.get? b=some o)→Q (.ref s.heap.objs.size) {s with heap:=h',toks:=tk}) :
  wpAny (model prog w) A (call (.type "set") [.ref l]) Q E s:=by
 obtain⟨c,tl,hmro⟩:=F.called_set.mro
 have hmade:=F.called_set.made
 have hsub:=F.called_set.sub
 refine wpAny_call (codeAny_of_tree ?_)
 show wpAny _ _ (callAny (.type "set") _) _ _ _
 refine Xz ⟨Code.quiet_builtin _ (by decide +kernel),codeAny_builtin F.entry_type_call ?_⟩
 rw [Around.under_plain (weight_type_call_type "set" [.ref l] []) rfl]
 have h1:=F.called_set.notType
 have h2:=F.called_set.canCreate
 have hct:=F.typeCall_set_1 (.ref l)
 repeat (any_goals (first|assumption|wp_step))
 generalize hled:(!w.params.followText "set-order")=led at first
 refine codeAny_mono (code_set_led (.ref l) (E:=E) (Q₁:=fun obj s₁=>obj = .ref s.heap.objs.size∧s₁={s with heap:=s.heap.push {cls:=.type "set",dict:=none,data:=.set #[] 0 (.fresh 0 0 led)}}) ⟨rfl,by rw [hled]⟩) fun r s₁ hr=>?_
 cases r with
 |error e=>exact hr
 |ok fl =>
  cases fl with
  |ret obj =>
   refine byC fun hG=>?_
   obtain⟨rfl,rfl⟩:=hr
   refine hG ?_
   clear hG
   have hS:(s.heap.push {cls:=.type "set",dict:=none,data:=.set #[] 0 (.fresh 0 0 led)}).get? s.heap.objs.size=some {cls:=.type "set",dict:=none,data:=.set #[] 0 (.fresh 0 0 led)}:=Xs _ rfl
   have hT:Shared.TypeIs {s with heap:=s.heap.push {cls:=.type "set",dict:=none,data:=.set #[] 0 (.fresh 0 0 led)}} (.ref s.heap.objs.size) "set" :=⟨_,hS,rfl⟩
   have hli:=F.called_set.init.lookup
   have hbi:=F.called_set.init.bind (.ref s.heap.objs.size)
   repeat (any_goals (first|assumption|wp_step))
   refine codeAny_mono (codeAny_call_builtin (R:=wants (fun r s₂=>r = .none∧∃ h' tk,s₂={s with heap:=h',toks:=tk}∧Inv items.size h'∧(∀ b o,s.heap.get? b=some o→h'.get? b=some o)) E) F.called_set.init.plain F.entry_set_init (check_set_init_1 hT ?_)) fun r₂ s₂ hr₂=>?_
   ·obtain⟨ol,hol,hcl,nl,hdl⟩:=hl
    refine byC fun hG=>?_
    obtain⟨ocls,odict,odata,oslots⟩:=ol
    refine hG ?_
    clear hG
    dsimp only at hcl hdl
    subst hcl;subst hdl
    have hol':(s.heap.push {cls:=.type "set",dict:=none,data:=.set #[] 0 (.fresh 0 0 led)}).get? l=some {cls:=.type "list",dict:=odict,data:=.seq items nl,slots:=oslots}:=Xu _ hol
    have hsls:=F.sub_list_set
    have hslf:=F.sub_list_frozenset
    have hne:(Value.type "list" ==Value.type "dict")=false:=by decide
    have hl1:(s.heap.push {cls:=.type "set",dict:=none,data:=.set #[] 0 (.fresh 0 0 led)}).IsList l items:=⟨_,hol',rfl,nl,rfl⟩
    unfold Builtin.«set.__init__» noKeywords Builtin.Frozenset.updateFrom
    generalize hPI:pyIter=PI
    wp_walk
    subst hPI
    refine wpAny_pyIter_list hl1 ?_
    refine Xy (wpAny_runValue ?_)
    have hlS:l<s.heap.objs.size:=Xv hol
    have hSI:s.heap.objs.size<(s.heap.push {cls:=.type "set",dict:=none,data:=.set #[] 0 (.fresh 0 0 led)}).objs.size:=by rw [Heap.size_push];exact X2 _
    have hpush : ∀ b o,s.heap.get? b=some o→((s.heap.push {cls:=.type "set",dict:=none,data:=.set #[] 0 (.fresh 0 0 led)}).push {cls:=.type "list_iterator",data:=.fields #[.ref l,.int 0 0]}).get? b=some o:=fun b o e=>Xu _ (Xu _ e)
    refine set_loop (A:=A.in1.in1) (I:=(s.heap.push {cls:=.type "set",dict:=none,data:=.set #[] 0 (.fresh 0 0 led)}).objs.size) (l:=l) (S:=s.heap.objs.size) (items:=items) hh (Yu hSI) (Yv hlS) (Yu (Yt hlS hSI)) Inv (fun i h h' a b=>frame _ i h h' hSI a b)
     (fun i v s1 Q E a b c=>step i v _ s1 Q E (by show A.units+1+1+1≤A.units+100;exact ar261) a b c) (items.size-0) 0 _ rfl (Yx _) ?it ?ls ?fi fun h' tk a1 a2=>?_
    case it=>exact⟨_,Xs _ rfl,rfl,rfl⟩
    case ls=>exact hl1.push _
    case fi=>exact first _ hpush (Xu _ hS)
    show wpAny _ _ _ _ _ _
    refine Xz ?_
    show wpAny _ _ (ret Value.none) _ _ _
    refine Xz ⟨rfl,h',tk,rfl,a1,fun b o e=>?_⟩
    have hb:=Xv e
    exact a2 b o (Yu hb) (Yu (Yt hb hSI)) (hpush b o e)
   ·cases r₂ with
    |error e=>exact hr₂
    |ok fl₂ =>
     cases fl₂ with
     |ret r =>
      refine byC fun hG=>?_
      obtain⟨rfl,h',tk,rfl,hi,hk'⟩:=hr₂
      refine hG ?_
      clear hG
      repeat (any_goals (first|assumption|wp_step))
      exact h _ _ hi hk'
     |_=>exact hr₂.elim
  |_=>exact hr.elim
end
end Lay
set_option maxRecDepth 100000
namespace Lay
theorem erase_perm{α:Type} : ∀ {l:List α} {i:Nat} (h:i<l.length),(l[i]::l.eraseIdx i).Perm l
 |a::r,0,_=>.refl _
 |a::r,i+1,h=>(List.Perm.swap a (r[i]'(by simpa using h)) (r.eraseIdx i)).trans ((erase_perm (l:=r) (i:=i) (by simpa using h)).cons a)
theorem pick_go{α:Type}(next:Nat→Nat) : ∀ (fuel k:Nat) (left:List α) (out:Array α),left.length≤fuel→(pickOrder.go next fuel k left out).toList.Perm (out.toList++left)
 |0,k,left,out,h=>by
  have:left = []:=List.eq_nil_of_length_eq_zero (by exact ar262 h)
  subst this
  exact(Xe _).symm▸ .refl _
 |fuel+1,k,left,out,h=>by
  refine(?_:(pickOrder.go.match_1 (fun _=>Array α) (left[next k%left.length]?) _ _).toList.Perm _)
  cases q:left[next k%left.length]? with
  |none =>
   have:left.length≤next k%left.length:=List.getElem?_eq_none_iff.mp q
   have h0:left.length=0:=by
    rcases Nat.eq_zero_or_pos left.length with e|e
    ·exact e
    ·have:=Nat.mod_lt (next k) e;exact ar263 (by assumption) this
   have:left = []:=List.eq_nil_of_length_eq_zero h0
   subst this
   simp
  |some x =>
   obtain⟨hi,rfl⟩:=X5.mp q
   have hl:(left.eraseIdx (next k%left.length)).length≤fuel:=by rw [List.length_eraseIdx];split<;>(first|exact ar264 h hi|exact ar265 hi (by assumption))
   refine(pick_go next fuel (k+1) _ _ hl).trans ?_
   rw [Array.toList_push,List.append_assoc]
   refine List.Perm.append_left _ ?_
   rw [List.singleton_append]
   exact erase_perm hi
theorem pick_perm{α:Type}(next:Nat→Nat)(xs:Array α):(pickOrder next xs).toList.Perm xs.toList:=by
 unfold pickOrder
 have:=pick_go next xs.size 0 xs.toList #[] (by simp)
 simpa using this
noncomputable def setSeq(w:World)(S:Addr)(ep:Nat)(es:Array (Int×Value)):List Value:=((if w.params.followText "set-order" then pickOrder (w.params.setOrder S ep) es else es).toList).map (·.2)
theorem setSeq_perm{w:World}{S:Addr}{ep:Nat}{es:Array (Int×Value)}:(setSeq w S ep es).Perm (es.toList.map (·.2)):=by
 unfold setSeq
 split
 ·exact(pick_perm ..).map _
 ·exact .refl _
noncomputable def slotAt(w:World)(t:SetTable)(i:Nat):Nat:=if w.params.followText "set-order" then 0 else if i=0 then 0 else (t.place.getD (i-1) 0)+1
noncomputable abbrev setO(es:Array (Int×Value))(ep:Nat)(t:SetTable):Obj:=⟨.type "set",none,.set es ep t,#[]⟩
section
variable{prog:Program}{w:World}{A:Around}{E:Value→Shared→Prop}{s:Shared}{S I:Addr}{es:Array (Int×Value)}{t:SetTable}{ep n:Nat}
theorem ask_text{Q:Bool→Shared→Prop}(h:Q (w.params.followText "set-order") s):wpAny (model prog w) A setsByText Q E s:=by
 unfold setsByText
 exact Xy (wpAny_askSetting (Xz h))
theorem below_next{xs:Array Nat}(hr:xs.toList.Pairwise (· < ·)){i:Nat}(hi:i≤xs.size):SetTable.below xs (if i=0 then 0 else xs.getD (i-1) 0+1)=i:=by
 obtain⟨h1,h2,h3⟩:=below_at hr (if i=0 then 0 else xs.getD (i-1) 0+1)
 by_cases q:i=0
 ·rw [if_pos q] at h1 h2 h3 ⊢
  rw [q]
  refine Nat.eq_zero_of_not_pos fun e=>?_
  have:=h2 0 _ e (Xn (by exact ar266 h1 e))
  exact ar267 h1 e this
 ·rw [if_neg q] at h1 h2 h3 ⊢
  have hg:xs[i-1]?=some (xs[i-1]'(by exact ar268 hi q)):=Xn (by exact ar268 hi q)
  have e:xs.getD (i-1) 0=xs[i-1]'(by exact ar268 hi q):=by rw [Array.getD_eq_getD_getElem?,hg];rfl
  rw [e] at h1 h2 h3 ⊢
  generalize xs[i-1]'(by exact ar268 hi q)=y at *
  refine Nat.le_antisymm ?_ ?_
  ·refine X0 fun c=>?_
   have hg2:xs[i]?=some (xs[i]'(by exact ar269 hi h1 c)):=Xn (by exact ar269 hi h1 c)
   have a:=h2 i _ c hg2
   have b:=rise_get hr (by exact ar270 hi q h1 c:i-1<i) hg hg2
   exact ar271 hi h1 c a b
  ·refine X0 fun c=>?_
   have:=h3 (i-1) y (by exact ar272 c) hg
   exact ar273 this
theorem set_next(ho:s.heap.get? S=some (setO es ep t))(ok:TabOk t n)(hz:es.size=n)(hled:t.led = !w.params.followText "set-order"){i:Nat}(hi:i≤n){Q:Option (Value×Nat)→Shared→Prop}
  (h:Q ((setSeq w S ep es)[i]?.map fun v=>(v,slotAt w t (i+1))) s):wpAny (model prog w) A (setNext S (slotAt w t i) i ep) Q E s:=by
 have hfit:t.fits es.size=true:=by rw [hz];exact ok.fits
 unfold setNext
 refine Xy (wpAny_setState_of ho rfl hfit ?_)
 dsimp only
 refine Xy (ask_text ?_)
 unfold setSeq slotAt at *
 cases q:w.params.followText "set-order" with
 |true =>
  rw [q] at h hled
  refine wt rfl (wf (bne_self_eq_false' _) (Xy ?_))
  unfold setWalk
  refine Xy (wpAny_setState_of ho rfl hfit ?_)
  dsimp only
  refine Xy (ask_text ?_)
  rw [q]
  refine wt rfl ?_
  refine Xy (wpAny_askSetting (Xz (Xz ?_)))
  rw [X8,Xo,Option.map_map] at h
  exact h
 |false =>
  rw [q] at h hled
  refine wf rfl ?_
  rw [if_neg Bool.false_ne_true]
  rw [if_neg Bool.false_ne_true,if_neg Bool.false_ne_true] at h
  have hb:=below_next ok.rise (i:=i) (by rw [ok.size];exact hi)
  rw [if_neg (by show ¬ ((!t.plain&&decide (es.size>1))=true);rw [ok.plain];simp)]
  refine Xy ?_
  show wpAny _ _ (if (!t.led && !es.isEmpty)=true then _ else _) _ _ _
  rw [hled]
  refine wf rfl ?_
  refine Xz (Xz ?_)
  rw [hb]
  rw [X8,Xo] at h
  by_cases c:i<n
  ·have e1:es[i]?=some (es[i]'(by exact ar274 hz hb c)):=Xn (by exact ar274 hz hb c)
   have e2:t.place[i]?=some (t.place[i]'(by have:=ok.size;exact ar275 hb c this)):=Xn (by have:=ok.size;exact ar275 hb c this)
   rw [e1,e2]
   rw [e1,if_neg (by exact ar276 hb),Nat.add_sub_cancel,Array.getD_eq_getD_getElem?,e2] at h
   exact h
  ·rw [Array.getElem?_eq_none (by exact ar277 hz hi hb c)] at h ⊢
   exact h
end
noncomputable def setIt(S:Addr)(slot i n ep:Nat):Obj:={cls:=.type "set_iterator",data:=.fields #[rawInt slot,rawInt i,.ref S,rawInt n,rawInt ep]}
theorem sit_next:Slot "set_iterator" "__next__" "set_iterator.__next__" :=
 .of (owner := "set_iterator") (n := "__next__") (by rw [typeLookup_type,builtinLookup_eq_fast];kernel_rfl) (by decide +kernel) (by decide +kernel) (by decide +kernel)
  (by first|exact .inl (by decide +kernel)|exact .inr (by decide +kernel)) (by rw [isSubtype_type];kernel_rfl)
theorem sit_iter:Slot "set_iterator" "__iter__" "set_iterator.__iter__" :=
 .of (owner := "set_iterator") (n := "__iter__") (by rw [typeLookup_type,builtinLookup_eq_fast];kernel_rfl) (by decide +kernel) (by decide +kernel) (by decide +kernel)
  (by first|exact .inl (by decide +kernel)|exact .inr (by decide +kernel)) (by rw [isSubtype_type];kernel_rfl)
theorem owner_sit:Manifest.owners.lookup (String.ofList ['r','o','t','a','r','e','t','i','_','t','e','s'].reverse)=some Manifest.sig_set_iterator:=by kernel_rfl
theorem args_sit_next(a:Value):argsOk "set_iterator.__next__" ⟨[a],[]⟩:=by
 unfold argsOk;rw [signature?_of (id := "set_iterator.__next__") (n := ['_','_','t','x','e','n','_','_']) (o := ['r','o','t','a','r','e','t','i','_','t','e','s']) (by kernel_rfl) owner_sit];kernel_rfl
theorem args_sit_iter(a:Value):argsOk "set_iterator.__iter__" ⟨[a],[]⟩:=by
 unfold argsOk;rw [signature?_of (id := "set_iterator.__iter__") (n := ['_','_','r','e','t','i','_','_']) (o := ['r','o','t','a','r','e','t','i','_','t','e','s']) (by kernel_rfl) owner_sit];kernel_rfl
theorem entry_sit_next:entryFor table "set_iterator.__next__" =some Builtin.«set_iterator.__next__»:=entryFor_of_tree (by kernel_rfl)
theorem entry_sit_iter:entryFor table "set_iterator.__iter__" =some Builtin.«dict_keyiterator.__iter__» :=
 entryFor_alias (id' := "dict_keyiterator.__iter__") (by kernel_rfl) (by first|rfl|decide +kernel|(unfold String.splitOn;simp +decide [String.splitOnAux])) (by decide +kernel) (by kernel_rfl)
theorem entry_set_iter:entryFor table "set.__iter__" =some Builtin.«frozenset.__iter__» :=
 entryFor_alias (id' := "frozenset.__iter__") (by kernel_rfl) rfl (by decide +kernel) (by kernel_rfl)
section
variable{prog:Program}{w:World}{A:Around}{E:Value→Shared→Prop}{s:Shared}{S I:Addr}{es:Array (Int×Value)}{t:SetTable}{ep n:Nat}
theorem iter_set(ho:s.heap.get? S=some (setO es ep t))(ok:TabOk t n)(hz:es.size=n){Q:Value→Shared→Prop}(h:Q (.ref s.heap.objs.size) {s with heap:=s.heap.push (setIt S 0 0 n ep)}):wpAny (model prog w) A (pyIter (.ref S)) Q E s:=by
 have hT:s.TypeIs (.ref S) "set" :=⟨_,ho,rfl⟩
 have hfit:t.fits es.size=true:=by rw [hz];exact ok.fits
 refine wpAny_pyIter_slot hT F.slot_set_iter (W2 F.slot_set_iter hT entry_set_iter ?_ (F.args_set_iter_1 _))
 unfold Builtin.«frozenset.__iter__»
 refine Xy (W0 (a:=S) rfl ?_)
 unfold Builtin.Frozenset.sizeOf
 refine Xy (Xy (wpAny_setEntries_of ho rfl hfit (Xz ?_)))
 refine Xy ?_
 unfold setDrawn
 refine Xy (wpAny_setState_of ho rfl hfit ?_)
 dsimp only
 refine Xy (ask_text (Xz ?_))
 rw [if_neg (by show ¬ ((!w.params.followText "set-order" && (!t.plain&&decide (es.size>1)))=true);rw [ok.plain];simp)]
 refine Xy (Xz ?_)
 refine Xy (wpAny_setEpoch_of ho rfl hfit ?_)
 unfold newFields
 refine Xy (wpAny_newObj_type (Xz ⟨_,rfl,"set_iterator",_,⟨_,Xs _ rfl,rfl⟩,sit_next.lookup,?_⟩))
 rw [hz];exact h
theorem next_set(ho:s.heap.get? S=some (setO es ep t))(ok:TabOk t n)(hz:es.size=n)(hled:t.led = !w.params.followText "set-order"){i:Nat}(hi:i≤n){v:Value}(hI:s.heap.get? I=some (setIt S (slotAt w t i) i n ep))(hv:(setSeq w S ep es)[i]?=some v){Q:Option Value→Shared→Prop}
  (h : ∀ h',h'.get? I=some (setIt S (slotAt w t (i+1)) (i+1) n ep)→Xw I s.heap h'→Q (some v) {s with heap:=h'}):wpAny (model prog w) A (pyNext (.ref I)) Q E s:=by
 have hT:s.TypeIs (.ref I) "set_iterator" :=⟨_,hI,rfl⟩
 have hfit:t.fits es.size=true:=by rw [hz];exact ok.fits
 unfold pyNext
 refine Xy (wpAny_attempt (wpAny_callSpecial?_slot (name:=Xx "__next__") hT sit_next (W2 sit_next hT entry_sit_next ?_ (args_sit_next _))))
 unfold Builtin.«set_iterator.__next__»
 refine Xy (W0 (a:=(Value.ref I,[])) rfl ?_)
 dsimp only
 refine Xy (wpAny_fieldsOf hI rfl ?_)
 dsimp only [rawInt]
 refine Xy (wpAny_setEntries_of ho rfl hfit ?_)
 rw [if_neg (by simp [hz])]
 dsimp only [Int.toNat_natCast]
 refine Xy (set_next ho ok hz hled hi ?_)
 rw [hv]
 dsimp only [Option.map]
 refine Xy (wpAny_setField_rec hI (by simp) fun h1 g1 s1=>?_)
 refine Xy (wpAny_setField_rec (s:={s with heap:=h1}) g1 (by simp) fun h2 g2 s2=>?_)
 refine Xz ⟨v,rfl,Xz (h h2 ?_ (s1.trans s2))⟩
 rw [g2];rfl
theorem end_set(hh:A.handled=none)(ho:s.heap.get? S=some (setO es ep t))(ok:TabOk t n)(hz:es.size=n)(hled:t.led = !w.params.followText "set-order")(hI:s.heap.get? I=some (setIt S (slotAt w t n) n n ep)){Q:Option Value→Shared→Prop}
  (h : ∀ h',Heap.ExtBut I s.heap h'→Q none {s with heap:=h'}):wpAny (model prog w) A (pyNext (.ref I)) Q E s:=by
 have hT:s.TypeIs (.ref I) "set_iterator" :=⟨_,hI,rfl⟩
 have hfit:t.fits es.size=true:=by rw [hz];exact ok.fits
 unfold pyNext
 refine Xy (wpAny_attempt (wpAny_callSpecial?_slot (name:=Xx "__next__") hT sit_next (W2 sit_next hT entry_sit_next ?_ (args_sit_next _))))
 unfold Builtin.«set_iterator.__next__»
 refine Xy (W0 (a:=(Value.ref I,[])) rfl ?_)
 dsimp only
 refine Xy (wpAny_fieldsOf hI rfl ?_)
 dsimp only [rawInt]
 refine Xy (wpAny_setEntries_of ho rfl hfit ?_)
 rw [if_neg (by simp [hz])]
 dsimp only [Int.toNat_natCast]
 refine Xy (set_next ho ok hz hled (Yy _) ?_)
 have hn:(setSeq w S ep es)[n]?=none:=by
  rw [List.getElem?_eq_none_iff,(setSeq_perm (w:=w) (S:=S) (ep:=ep) (es:=es)).length_eq]
  simp [hz]
 rw [hn]
 dsimp only [Option.map]
 refine Xy (wpAny_setField_rec hI (by simp) fun h1 g1 s1=>?_)
 have ext:Heap.ExtBut I s.heap h1:=fun b o hb e=>(s1.2 b hb).trans e
 refine Xy ?_
 refine Xy (wpAny_newObj_type ?_)
 refine Xy (m:=firstArgMember _ _) (W0 (a:=Value.none) (by first|rfl|(simp only [firstArgMember];rfl)) ?_)
 refine wpAny_newObj_type ?_
 unfold raiseNew
 dsimp only
 refine Xy (wpAny_handled ?_)
 rw [show A.in1.handled=none from hh]
 refine Xy (Xz (wpAny_throw ?_))
 refine Xy (wpAny_isInstance (T := "StopIteration") (b:=true) ⟨_,Xs _ rfl,rfl⟩ isSubtype_stop ?_)
 exact Xz (h _ ((ext.push _).push _))
theorem hint_set(hT:s.TypeIs (.ref S) "set"){Q:Bool→Shared→Prop}(h:Q false s):wpAny (model prog w) A (Builtin.List.listLengthHint (.ref S)) Q E s:=by
 unfold Builtin.List.listLengthHint
 refine Xy (wpAny_specialOf hT PySem.F.slot_set_len.lookup ?_)
 generalize hid:("set.__len__" :String)=id0
 wp_delta
 rw [show splitId id0=some ("set","__len__") from by subst hid;decide +kernel]
 subst hid
 refine Xy (wpAny_isInstance (T := "set") (b:=true) hT (by rw [isSubtype_type];kernel_rfl) ?_)
 refine wpAny_ite_split (fun hab=>absurd hab (by decide)) (fun _=>?_)
 refine wpAny_ite_split (fun _=>?_) (fun hab=>absurd (by decide +kernel) hab)
 refine Xy (wpAny_typeOf hT ?_)
 exact Xz h
theorem set_src(ok:TabOk t n)(hz:es.size=n)(hled:t.led = !w.params.followText "set-order"):KdlSrc prog w "set" S S n (fun i v=>(setSeq w S ep es)[i]?=some v) (fun h=>h.get? S=some (setO es ep t)) where
 type:=fun _ ho=>⟨_,ho,rfl⟩
 there:=fun _ ho=>⟨Xv ho,Xv ho⟩
 keep:=fun _ _ ho hk=>hk S (.inl rfl) _ ho
 notList:=by decide
 notTuple:=by decide
 hint:=fun _ _ _ _ ho hq=>hint_set ⟨_,ho,rfl⟩ hq
 iter:=fun A s hh ho=>⟨_,fun i h=>i≤n∧h.get? s.heap.objs.size=some (setIt S (slotAt w t i) i n ep)∧h.get? S=some (setO es ep t),(fun _ _ hq=>iter_set ho ok hz hq),{
   sub:=fun b hb=>by simp at hb;simp [hb]
   frame:=fun _ _ _ st hk=>⟨st.1,hk _ (by simp) _ st.2.1,hk S (by simp) _ st.2.2⟩
   item:=fun i s' Q E hi st hQ=>by
    have hl:i<(setSeq w S ep es).length:=by rw [(setSeq_perm (w:=w) (S:=S) (ep:=ep) (es:=es)).length_eq];simp [hz];exact hi
    have hne:S≠s.heap.objs.size:=Yu (Xv ho)
    exact next_set st.2.2 ok hz hled st.1 st.2.1 (X3 hl) fun h' a b=>hQ _ h' s'.toks (X3 hl) ⟨hi,a,(b.2 S hne).trans st.2.2⟩ fun b' o hb e=>(b.2 b' (fun q=>hb (by simp [q]))).trans e
   done:=fun s' Q E st hQ=>end_set hh st.2.2 ok hz hled st.2.1 fun h' a=>hQ h' s'.toks fun b o hb e=>a b o (fun q=>hb (by simp [q])) e
   self:=fun _ s' Q E st hQ=>by
    have hT:s'.TypeIs (.ref s.heap.objs.size) "set_iterator" :=⟨_,st.2.1,rfl⟩
    refine wpAny_pyIter_slot hT sit_iter (W2 sit_iter hT entry_sit_iter ?_ (args_sit_iter _))
    show wpAny _ _ (ret (.ref s.heap.objs.size)) _ _ s'
    exact Xz ⟨_,rfl,"set_iterator",_,hT,sit_next.lookup,hQ⟩},⟨Yx _,by rw [show slotAt w t 0=0 by unfold slotAt;split<;>rfl];exact Xs _ rfl,Xu _ ho⟩⟩
end
end Lay
set_option maxRecDepth 100000
namespace Lay
variable{C:Cx}
theorem Sim_Nest{x y:Str}{p q pos pos':Pos}{e:PySem.Expr}{m:M V}{f g:Value}{gm:V→M V}(hf:SimE C (eval (.Name x p) C.env) (pure (.val f)))(hg:SimE C (eval (.Name y q) C.env) (pure (.val g)))(hokf:CallOk C.W f)(hokg:CallOk C.W g)
  (he:SimE C (eval e C.env) m) (hs:starEach [e] C.env = [(false,eval e C.env)]) (hs2:starEach [.Call (.Name y q) [e] [] pos'] C.env = [(false,eval (.Call (.Name y q) [e] [] pos') C.env)])
  (hc : ∀ (h₀ ζ:HM) (ρ:RM) (st:St) (s:Shared) (P:Value→Shared→Prop) (E:Value→Shared→Prop) (v:V) (xv:Value),C.Ok→Rel C h₀ ζ ρ st s.heap→VR C.W ζ ρ v xv→∀ r st',gm v st=some (r,st')→
   Kont C C.T h₀ s ζ ρ (VR C.W) P r st'→wpAny (model C.W.prog C.W.w) C.A (call g [xv]) (fun z s1=>C.W.Ok s1.heap∧wpAny (model C.W.prog C.W.w) C.A (call f [z]) P E s1) E s) :
  SimE C (eval (.Call (.Name x p) [.Call (.Name y q) [e] [] pos'] [] pos) C.env) (m>>=gm):=by
 intro h₀ ζ ρ st s P E ok rel r st' em k
 refine byC fun hG=>?_
 obtain⟨v,s1,e1,e2⟩:=W6 em
 refine hG ?_
 clear hG
 refine wpAny_Call_NameR (hf h₀ ζ ρ st s _ E ok rel _ _ rfl fun ζ1 ρ1 h1 tk1 z G1 rel1 r1=>?_)
 change _=_ at r1
 subst r1
 have ht:backTo pos (starEach [.Call (.Name y q) [e] [] pos'] C.env)=(false,(backTo pos (starEach [.Call (.Name y q) [e] [] pos'] C.env)).head!.2) :: []:=by rw [hs2];rfl
 refine hokf _ _ _ _ _ _ _ (by rw [hs2];rfl) (evalArgs_any (.inr ⟨_,_,ht⟩) ?_)
 refine spliced_more (rest := []) (nest_arg hg hokg he hs ok rel1 e1 fun ζ2 ρ2 h2 tk2 xv G2 rel2 r2=>?_) hs2
 refine wpAny_mono (hc h₀ ζ2 ρ2 s1 _ P E v xv ok rel2 r2 r st' e2 fun ζ3 ρ3 h3 tk3 z G3 rel3 r3=>k ζ3 ρ3 h3 tk3 z ((G1.trans G2).trans G3) rel3 r3) (fun z s' h=>spliced_none h) fun _ _ e=>e
theorem fresh_tab(led:Bool):TabOk (.fresh 0 0 led) 0:=⟨.inl rfl,rfl,.nil,fun p hp=>by simp [SetTable.fresh] at hp,rfl,by show 0*5<7*3;decide,rfl⟩
theorem SetHas.at{w:World}{h h':Heap}{S:Addr}{es:Array (Int×Value)}{t:SetTable}{n:Nat}(x:SetHas w h S es t n)(e : ∀ o,h.get? S=some o→h'.get? S=some o):SetHas w h' S es t n :=
 let ⟨⟨ep,ho⟩,a,b,c⟩:=x;⟨⟨ep,e _ ho⟩,a,b,c⟩
theorem take_snoc{α:Type}{l:List α}{i:Nat}{a:α}(h:l[i]?=some a):l.take (i+1)=l.take i ++ [a]:=by rw [List.take_add_one,h];rfl
section
variable{prog:Program}{w:World}{A:Around}{E:Value→Shared→Prop}{s:Shared}
structure SetOfL(w:World)(h₀ h:Heap)(S:Addr)(es:Array (Int×Value))(t:SetTable)(vs:List Value):Prop where
 has:SetHas w h S es t vs.length
 perm:(es.toList.map (·.2)).Perm vs
 old : ∀ b o,h₀.get? b=some o→h.get? b=some o
theorem SetOfL.first{h₀ h:Heap}{S:Addr}(k : ∀ b o,h₀.get? b=some o→h.get? b=some o)(ho:h.get? S=some {cls:=.type "set",dict:=none,data:=.set #[] 0 (.fresh 0 0 (!w.params.followText "set-order"))}):SetOfL w h₀ h S #[] (.fresh 0 0 (!w.params.followText "set-order")) [] :=
 ⟨⟨⟨0,ho⟩,fresh_tab _,rfl,rfl⟩,.refl _,k⟩
theorem SetOfL.more{h₀ h h':Heap}{S:Addr}{es:Array (Int×Value)}{t:SetTable}{vs:List Value}{x:Int×Value}(o:SetOfL w h₀ h S es t vs)(hS:h₀.get? S=none)(sb:Xw S h h')(m:SetMore w h' S es vs.length x) : ∃ es' t',SetOfL w h₀ h' S es' t' (vs ++ [x.2])∧es'.toList.Perm (x::es.toList):=by
 refine byC fun hG=>?_
 obtain⟨es',t',h1,h2⟩:=m
 refine hG ?_
 clear hG
 refine⟨es',t',⟨by rw [X6];exact h1,?_,fun b ob e=>(sb.2 b (fun q=>by rw [q,hS] at e;injection e)).trans (o.old b ob e)⟩,h2⟩
 have:=h2.map (·.2)
 rw [Xb] at this
 exact this.trans ((o.perm.cons x.2).trans (List.perm_append_singleton x.2 vs).symm)
theorem ints_at{ys:List Value}{l:List Int}(h:IntsAre ys l) : ∀ {i:Nat} {v:Value},ys[i]?=some v→∃ k u,v = .int k u∧l[i]?=some k:=by
 induction h with
 |nil=>intro i v e;simp at e
 |cons n t hr ih =>
  intro i v e
  cases i with
  |zero=>simp at e;exact⟨n,t,e.symm,rfl⟩
  |succ i=>simp only [List.getElem?_cons_succ] at e;exact ih e
theorem IntsAre.map_eq{ys:List Value}{l:List Int}(h:IntsAre ys l){i j:Nat}{v:Value}{k:Int}{u:Tok}(hv:ys[i]?=some v)(hj:l[j]?=some k)(hk:l.Nodup)(hij:i≠j)(e:v = .int k u):False:=by
 refine byC fun hG=>?_
 obtain⟨k',u',rfl,h1⟩:=ints_at h hv
 injection e
 refine hG ?_
 clear hG
 exact hij ((List.getElem?_inj (X5.mp h1).1 hk).mp (h1.trans hj.symm))
theorem set_ints{l:Addr}{items:Array Value}{ns:List Int}{Q:Value→Shared→Prop}(hh:A.handled=none)(hl:s.heap.IsList l items)(hi:IntsAre items.toList ns)(hnd:ns.Nodup)(hn:ns.length≤300)
  (h : ∀ h' tk es t,SetOfL w s.heap h' s.heap.objs.size es t items.toList→Q (.ref s.heap.objs.size) {s with heap:=h',toks:=tk}):wpAny (model prog w) A (call (.type "set") [.ref l]) Q E s:=by
 have hlen:items.size=ns.length:=by have:=hi.length;simpa using this
 refine call_set hh hl (fun i h' => ∃ es t,SetOfL w s.heap h' s.heap.objs.size es t (items.toList.take i)∧ElemsOf (intKind prog w) es.toList) (fun h' a b=>⟨_,_,.first a b,fun e he=>by simp at he⟩)
  (fun I i h1 h2 hI x k=>?_) (fun i v A' s1 Q E hu hv x k=>?_) (fun h' tk x _=>?_)
 ·obtain⟨es,t,a,b⟩:=x
  exact⟨es,t,⟨a.has.at fun o e=>k _ o (Yu hI) e,a.perm,fun b o e=>k b o (Yu (Yt (Xv e) hI)) (a.old b o e)⟩,b⟩
 rotate_left
 ·obtain⟨es,t,a,b⟩:=x
  exact h h' tk es t (by rw [List.take_of_length_le (by simp)] at a;exact a)
 obtain⟨es,t,a,b⟩:=x
 rw [←Xo] at hv
 refine byC fun hG=>?_
 obtain⟨kk,u,rfl,hk⟩:=ints_at hi hv
 refine hG ?_
 clear hG
 have hlt:=(X5.mp hk).1
 have htl:(items.toList.take i).length=i:=by rw [List.length_take];simp;exact ar278 hlen hlt
 have h2:=a.has
 rw [htl] at h2
 refine add_int h2 (by exact ar279 hn hlen hlt htl) b (fun e he=>?_) fun h' tk sb m=>?_
 ·refine Bool.eq_false_iff.mpr fun q=>?_
  obtain⟨u',e'⟩:=isInt_inv (W:=⟨prog,w,[],prog,[],fun _=>none,fun _=>none⟩) q
  have hm:=a.perm.mem_iff.mp (List.mem_map.mpr ⟨e,he,rfl⟩)
  obtain⟨j,hj⟩:=List.getElem?_of_mem hm
  rw [List.getElem?_take] at hj
  split at hj
  ·exact IntsAre.map_eq hi hj hk hnd (by exact ar280 htl (by assumption)) e'
  ·injection hj
 ·rw [←htl] at m
  refine byC fun hG=>?_
  obtain⟨es',t',o',p'⟩:=a.more (get_size _) sb m
  refine hG ?_
  clear hG
  refine k _ _ _ sb ⟨es',t',by rw [take_snoc hv];exact o',fun e he=>?_⟩
  rcases Xd.mp (p'.mem_iff.mp he) with rfl|q
  ·exact⟨⟨kk,intKind_is _ _ _ _,rfl⟩,rfl⟩
  ·exact b e q
noncomputable def TupsAre(prog:Program)(w:World)(h:Heap):List (List Int)→List Value→Prop
 | [],ys=>ys = []
 |k::ks,ys => ∃ y r,ys=y::r∧TupK prog w h k y∧TupsAre prog w h ks r
theorem TupsAre.at{h:Heap} : ∀ {ls:List (List Int)} {ys:List Value},TupsAre prog w h ls ys→∀ {i:Nat} {v:Value},ys[i]?=some v→∃ k,ls[i]?=some k∧TupK prog w h k v
 | [],_,e,i,v,hv=>by change _=_ at e;subst e;simp at hv
 |k::ks,_,hH,i,v,hv=>by
  refine byC fun hG=>?_
  obtain⟨y,r,rfl,h1,h2⟩:=hH
  refine hG ?_
  clear hG
  cases i with
  |zero=>simp at hv;subst hv;exact⟨k,rfl,h1⟩
  |succ i=>simp only [List.getElem?_cons_succ] at hv ⊢;exact h2.at hv
theorem TupsAre.length{h:Heap} : ∀ {ls:List (List Int)} {ys:List Value},TupsAre prog w h ls ys→ls.length=ys.length
 | [],_,e=>by change _=_ at e;subst e;rfl
 |k::ks,_,hH=>by obtain⟨y,r,rfl,h1,h2⟩:=hH;simp [h2.length]
theorem TupK.keep{h h':Heap}{k:List Int}{v:Value}(x:TupK prog w h k v)(e : ∀ b o,h.get? b=some o→h'.get? b=some o):TupK prog w h' k v:=by
 refine byC fun hG=>?_
 obtain⟨a,rfl,o,items,n,ho,r⟩:=x
 refine hG ?_
 clear hG
 exact⟨a,rfl,o,items,n,e _ _ ho,r⟩
theorem set_tups{l:Addr}{items:Array Value}{ls:List (List Int)}{Q:Value→Shared→Prop}(hh:A.handled=none)(hu:A.units+100<cLine)(hl:s.heap.IsList l items)(hi:TupsAre prog w s.heap ls items.toList)(hnd:ls.Nodup)(hn:ls.length≤300)
  (h : ∀ h' tk es t,SetOfL w s.heap h' s.heap.objs.size es t items.toList→Q (.ref s.heap.objs.size) {s with heap:=h',toks:=tk}):wpAny (model prog w) A (call (.type "set") [.ref l]) Q E s:=by
 have hlen:items.size=ls.length:=by have:=hi.length;simpa using this.symm
 refine call_set hh hl (fun i h' => ∃ es t,SetOfL w s.heap h' s.heap.objs.size es t (items.toList.take i)) (fun h' a b=>⟨_,_,.first a b⟩)
  (fun I i h1 h2 hI x k=>?_) (fun i v A' s1 Q E hu' hv x k=>?_) (fun h' tk x _=>?_)
 ·obtain⟨es,t,a⟩:=x
  exact⟨es,t,⟨a.has.at fun o e=>k _ o (Yu hI) e,a.perm,fun b o e=>k b o (Yu (Yt (Xv e) hI)) (a.old b o e)⟩⟩
 rotate_left
 ·obtain⟨es,t,a⟩:=x
  exact h h' tk es t (by rw [List.take_of_length_le (by simp)] at a;exact a)
 obtain⟨es,t,a⟩:=x
 rw [←Xo] at hv
 obtain⟨kk,hk,hkv⟩:=hi.at hv
 have hlt:=(X5.mp hk).1
 have htl:(items.toList.take i).length=i:=by rw [List.length_take];simp;exact ar278 hlen hlt
 have h2:=a.has
 rw [htl] at h2
 refine add_tup (ks:=kk) (by exact ar281 hu hu') h2 (by exact ar279 hn hlen hlt htl) (hkv.keep a.old) (fun e he=>?_) fun h' tk hh' sb m=>?_
 ·have hm:=a.perm.mem_iff.mp (List.mem_map.mpr ⟨e,he,rfl⟩)
  obtain⟨j,hj⟩:=List.getElem?_of_mem hm
  rw [List.getElem?_take] at hj
  split at hj
  ·obtain⟨k',h3,h4⟩:=hi.at hj
   refine⟨k',h4.keep a.old,fun q=>?_⟩
   subst q
   have:=(List.getElem?_inj (X5.mp h3).1 hnd).mp (h3.trans hk.symm)
   exact ar282 htl (by assumption) this
  ·injection hj
 ·rw [←htl] at m
  refine byC fun hG=>?_
  obtain⟨es',t',o',p'⟩:=a.more (get_size _) sb m
  refine hG ?_
  clear hG
  exact k _ _ _ sb ⟨es',t',by rw [take_snoc hv];exact o'⟩
end
noncomputable def tupI(r:List Int):V:=.tup (r.map V.int)
noncomputable def tupsOf:List V→Option (List (List Int)):=un (List.map tupI)
theorem tupI_inj(a b:List Int)(h:tupI a=tupI b):a=b:=map_int_inj _ _ (V.tup.inj h)
theorem tupsOf_self(l:List (List Int)):tupsOf (l.map tupI)=some l:=un_self (map_inj tupI_inj)
theorem tups_are{ζ:HM}{ρ:RM}{h:Heap}(hz:Le ζ h.get?){vs:List V}{ls:List (List Int)}{ys:List Value}(e:tupsOf vs=some ls)(r:VRs C.W ζ ρ vs ys):TupsAre C.W.prog C.W.w h ls ys:=by
 rw [Zk e] at r
 clear e
 induction ls generalizing ys with
 |nil=>exact r
 |cons l ls ih =>
  refine byC fun hG=>?_
  obtain⟨y,r',rfl,_,⟨a,o,zs,rfl,h1,⟨hc,n,hd⟩,h2⟩,r2⟩:=r
  exact hG ⟨_,_,rfl,⟨a,rfl,o,zs,n,hz _ _ h1,hc,hd,ints_back h2⟩,ih r2⟩
noncomputable def bLenSet(v:V):M V:=fun s=>(lView v s).bind fun xs=>((intsOf xs).bind fun l=>if l.Nodup∧l.length≤300 then some (.int l.length,s) else none).or
 ((tupsOf xs).bind fun ls=>if ls.Nodup∧ls.length≤300 then some (.int ls.length,s) else none)
noncomputable def X.lenSet(m:M V):M V:=m>>=bLenSet
inductive LenSet(v:V)(s:St)(r:V×St):Prop
 |mk (xs:List V) (hx:lView v s=some xs) (hl:xs.length≤300) (h:(∃ l,intsOf xs=some l∧l.Nodup)∨∃ ls,tupsOf xs=some ls∧ls.Nodup) (hr:r=(.int xs.length,s))
theorem tupsOf_length{vs:List V}{ls:List (List Int)}(e:tupsOf vs=some ls):ls.length=vs.length:=by rw [Zk e,X4]
theorem bLenSet_some{v:V}{s:St}{r:V×St}(e:bLenSet v s=some r):LenSet v s r:=by
 refine byC fun hG=>?_
 obtain⟨xs,hx,e⟩:=ob e
 rcases oro e with e|e
 ·obtain⟨l,hl,e⟩:=ob e
  obtain⟨hc,e⟩:=io e
  injection e with e
  have:=intsOf_length hl
  exact hG ⟨xs,hx,this▸hc.2,.inl ⟨l,hl,hc.1⟩,by rw [←e,this]⟩
 ·obtain⟨l,hl,e⟩:=ob e
  obtain⟨hc,e⟩:=io e
  injection e with e
  have:=tupsOf_length hl
  exact hG ⟨xs,hx,this▸hc.2,.inr ⟨l,hl,hc.1⟩,by rw [←e,this]⟩
theorem Sim_LenSet{x y:Str}{p q pos pos':Pos}{e:PySem.Expr}{m:M V}(hf:SimE C (eval (.Name x p) C.env) (pure (.val (.builtin "len"))))(hg:SimE C (eval (.Name y q) C.env) (pure (.val (.type "set"))))(he:SimE C (eval e C.env) m)
  (hs:starEach [e] C.env = [(false,eval e C.env)]:=by rfl) (hs2:starEach [.Call (.Name y q) [e] [] pos'] C.env = [(false,eval (.Call (.Name y q) [e] [] pos') C.env)]:=by rfl) :
  SimE C (eval (.Call (.Name x p) [.Call (.Name y q) [e] [] pos'] [] pos) C.env) (X.lenSet m):=by
 refine Sim_Nest hf hg CallOk.builtin CallOk.type he hs hs2 fun h₀ ζ ρ st s P E v xv ok rel r w st' e k=>?_
 refine byC fun hG=>?_
 obtain⟨xs,hx,hl,h,hr⟩:=bLenSet_some e
 injection hr
 obtain⟨a,ys,rfl,h1,hz⟩:=lView_at rel hx r
 refine hG ?_
 clear hG
 have hlen:ys.size=xs.length:=by rw [←hz.length];simp
 have fin : ∀ h' tk es t,SetOfL C.W.w s.heap h' s.heap.objs.size es t ys.toList→C.W.Ok h'∧wpAny (model C.W.prog C.W.w) C.A (call (.builtin "len") [.ref s.heap.objs.size]) P E {s with heap:=h',toks:=tk}:=fun h' tk es t o=>by
  refine byC fun hG=>?_
  obtain⟨R',G'⟩:=rel.keepAll o.old
  obtain⟨⟨ep,ho⟩,tab,hsz,_⟩:=o.has
  refine hG ?_
  clear hG
  refine⟨R'.ok,call_len_set ho ⟨rfl,rfl,rfl⟩ rfl (by rw [hsz];exact tab.fits) (by rw [hsz];simp;exact ar283 hl hlen) ?_⟩
  exact k ζ ρ h' _ _ G' R' (by refine(?_:Exists _);exact⟨_,by rw [hsz,Xp,hlen]⟩)
 rcases h with⟨l,q1,q2⟩|⟨ls,q1,q2⟩
 ·exact set_ints ok.room.handled h1 (ints_are2 q1 hz) q2 (by rw [intsOf_length q1];exact hl) fin
 ·exact set_tups ok.room.handled (by have:=ok.room.units;exact ar284 this) h1 (tups_are rel.frozen q1 hz) q2 (by rw [tupsOf_length q1];exact hl) fin
end Lay
set_option maxRecDepth 100000
namespace Lay
variable{C:Cx}
theorem sortI_same{a b:List Int}(h:a.Perm b):sortI a=sortI b:=sortI_unique ((sortI_perm a).trans h) (sortI_sorted a)
theorem sorted_tail{c:Option Nat}(hc:okSlot C c){h₀ ζ:HM}{ρ:RM}{st st':St}{s:Shared}{P:Value→Shared→Prop}{E:Value→Shared→Prop}{v:V}{x:Value}{ns:List Int}(rel:Rel C h₀ ζ ρ st s.heap)(h64:ns.length<64)
  (hcol : ∀ {Q:List Value→Shared→Prop},(∀ h1 tk vs ms,(∀ b o,s.heap.get? b=some o→h1.get? b=some o)→IntsAre vs ms→ms.Perm ns→Q vs {s with heap:=h1,toks:=tk})→wpAny (model C.W.prog C.W.w) C.A.in1 (collect x) Q E s)
  (e:mkList c ((sortI ns).map .int) st=some (v,st'))
  (k : ∀ ζ' ρ' h' tk' b,Gr C.T s.heap ζ ρ h' ζ' ρ'→Rel C h₀ ζ' ρ' st' h'→VR C.W ζ' ρ' v b→P b {s with heap:=h',toks:=tk'}):wpAny (model C.W.prog C.W.w) C.A (call (.builtin "sorted") [x]) P E s:=by
 refine Calls.call_function_entry kind_sorted plain_sorted entry_sorted (args_sorted1 _) ?_
 unfold Builtin.«sorted»
 refine Xy (m:=checkCount "sorted" 1 1 _) (Xz ?_)
 refine Xy (hcol fun h1 tk1 vs ms hk hI hp=>?_)
 have hvl:vs.length=ns.length:=by rw [hI.length,hp.length_eq]
 refine Xy (wpAny_newList ?_ (by rw [hvl,sizeLine_eq];exact ar285 h64 hvl))
 have hoL:(h1.push (seqObj "list" vs.toArray 0)).get? h1.objs.size=some (seqObj "list" vs.toArray 0):=Xs _ rfl
 refine Xy (W1 (W2 slot_list_sort ⟨_,hoL,rfl⟩ entry_list_sort (list_sort_tree hoL hI (by rw [hvl];exact h64) fun out ns' a1 a2 a3=>⟨_,rfl,?_⟩) (args_list_sort _)))
 refine Xz ⟨_,rfl,?_⟩
 obtain rfl:=sortI_unique a2 a3
 rw [sortI_same hp] at a1
 refine byC fun hG=>?_
 obtain⟨⟨n',ho'⟩,hk'⟩:=sortedHeap_at (vs:=vs) (out:=out) hoL
 obtain⟨R1,G1⟩:=rel.keepAll hk
 obtain⟨ζ',ρ',G',R',V'⟩:=list_beside (ys:=out) R1 hc e (ints_back2 a1) (Yy _) (fun b o q=>hk' b o (Yu (Xv q)) (Zo _ _ _ _ q)) ho'
 refine hG ?_
 clear hG
 exact k _ _ _ _ _ (G1.trans G') R' V'
noncomputable def bSortedSet(c:Option Nat)(v:V):M V:=fun s=>(lView v s).bind fun xs=>(intsOf xs).bind fun l=>if l.Nodup∧l.length<64 then mkList c ((sortI l).map .int) s else none
noncomputable def X.sortedSet(c:Option Nat)(m:M V):M V:=m>>=bSortedSet c
theorem ints_perm : ∀ {xs ys:List Value},xs.Perm ys→∀ {l:List Int},IntsAre xs l→∃ m,IntsAre ys m∧m.Perm l:=by
 intro xs ys h
 induction h with
 |nil=>intro l hl;exact⟨l,hl,.refl _⟩
 |cons x _ ih=>intro l hl;cases hl with|cons n t hr=>obtain⟨m,a,b⟩:=ih hr;exact⟨n::m,.cons n t a,b.cons n⟩
 |swap x y l'=>intro l hl;cases hl with|cons n t hr=>cases hr with|cons n' t' hr'=>exact⟨n'::n::_,.cons n' t' (.cons n t hr'),.swap ..⟩
 |trans _ _ ih1 ih2=>intro l hl;obtain⟨m,a,b⟩:=ih1 hl;obtain⟨m',a',b'⟩:=ih2 a;exact⟨m',a',b'.trans b⟩
theorem Sim_SortedSet{x y:Str}{p q pos pos':Pos}{e:PySem.Expr}{m:M V}{c:Option Nat}(hf:SimE C (eval (.Name x p) C.env) (pure (.val (.builtin "sorted"))))(hg:SimE C (eval (.Name y q) C.env) (pure (.val (.type "set"))))(hc:okSlot C c)(he:SimE C (eval e C.env) m)
  (hs:starEach [e] C.env = [(false,eval e C.env)]:=by rfl) (hs2:starEach [.Call (.Name y q) [e] [] pos'] C.env = [(false,eval (.Call (.Name y q) [e] [] pos') C.env)]:=by rfl) :
  SimE C (eval (.Call (.Name x p) [.Call (.Name y q) [e] [] pos'] [] pos) C.env) (X.sortedSet c m):=by
 refine Sim_Nest hf hg CallOk.builtin CallOk.type he hs hs2 fun h₀ ζ ρ st s P E v xv ok rel r w st' e k=>?_
 refine byC fun hG=>?_
 obtain⟨xs,hx,e⟩:=ob e
 obtain⟨l,q1,e⟩:=ob e
 obtain⟨hn,e⟩:=io e
 obtain⟨a,ys,rfl,h1,hz⟩:=lView_at rel hx r
 refine hG ?_
 clear hG
 have hlen:ys.size=xs.length:=by rw [←hz.length];simp
 have hll:=intsOf_length q1
 refine set_ints ok.room.handled h1 (ints_are2 q1 hz) hn.1 (by(first|lia|omega)) fun h' tk es t o=>?_
 refine byC fun hG=>?_
 obtain⟨R',G'⟩:=rel.keepAll o.old
 obtain⟨⟨ep,ho⟩,tab,hsz,hled⟩:=o.has
 refine hG ?_
 clear hG
 refine⟨R'.ok,sorted_tail hc (s:={s with heap:=h',toks:=tk}) R' (ns:=l) hn.2 (fun {Q} hQ=>?_) e fun ζ2 ρ2 h2 tk2 b G2 rel2 r2=>k ζ2 ρ2 h2 tk2 b (G'.trans G2) rel2 r2⟩
 refine collect_src (set_src tab hsz hled) ok.room.handled ho (by rw [sizeLine_eq];simp;(first|lia|omega)) fun h2 tk2 acc hk hi=>?_
 have hacc:acc.toList=setSeq C.W.w s.heap.objs.size ep es:=by
  have hl2:(setSeq C.W.w s.heap.objs.size ep es).length=ys.toList.length:=by rw [setSeq_perm.length_eq,o.perm.length_eq]
  refine List.ext_getElem? fun i=>?_
  by_cases c:i<acc.size
  ·rw [Xo,Xn c,hi.2 i _ (Xn c)]
  ·rw [List.getElem?_eq_none (by simp;exact ar81 c),List.getElem?_eq_none (by rw [hl2,←hi.1];exact ar81 c)]
 obtain⟨ms,m1,m2⟩:=ints_perm (setSeq_perm.trans o.perm).symm (ints_are2 q1 hz)
 rw [hacc]
 exact hQ h2 tk2 _ ms hk m1 m2
end Lay
set_option maxRecDepth 100000
namespace Lay
section
variable{prog:Program}{w:World}{A:Around}{E:Value→Shared→Prop}{s:Shared}
theorem draw_tup{it t:Addr}{i:Nat}{ys:Array Value}{y:Value}{Q:Value→Shared→Prop}(hit:IsTupIter s.heap it t i)(ht:IsTup s.heap t ys)(hy:ys[i]?=some y)
  (h : ∀ h',IsTupIter h' it t (i+1)→Xw it s.heap h'→Q y {s with heap:=h'}):wpAny (model prog w) A (Builtin.SmallTypes.nextOf (.ref it)) Q E s:=by
 have hT:=hit.typeIs
 refine byC fun hG=>?_
 obtain⟨o,ho,hc,hd⟩:=hit
 obtain⟨ot,hot,_,n,hdt⟩:=ht
 refine hG ?_
 clear hG
 unfold Builtin.SmallTypes.nextOf
 refine Xy (wpAny_callSpecial?_slot (name:=Xx "__next__") hT F.slot_tuple_iterator_next (W2 F.slot_tuple_iterator_next hT F.entry_tuple_iterator_next ?_ (F.args_tuple_iterator_next_1 _)))
 refine Xy (W0 (a:=(Value.ref it,[])) rfl ?_)
 dsimp only
 refine Xy (wpAny_field ho hd (x:=.ref t) rfl ?_)
 rw [if_neg (show ¬ ((Value.ref t==Value.none)=true) from Bool.false_ne_true)]
 refine Xy (wpAny_field ho hd (x:=.int i 0) rfl ?_)
 dsimp only
 refine Xy (wpAny_seqItems hot hdt ?_)
 simp only [Int.toNat_natCast,hy]
 refine Xy (wpAny_setField ho hd (by simp) (Xz ⟨y,rfl,Xz (h _ ⟨_,Heap.get?_update_self _ ho (Obj.isFreed_of_fields (Obj.data_mapFields hd _)),(Obj.cls_mapFields ..).trans hc,?_⟩ (Xw.update ..))⟩))
 rw [Obj.data_mapFields hd];simp [rawInt]
structure Apart5(z a b c d:Nat):Prop where
 za:z≠a
 zb:z≠b
 zc:z≠c
 zd:z≠d
 ab:a≠b
 ac:a≠c
 ad:a≠d
 bc:b≠c
 bd:b≠d
 cd:c≠d
theorem zip_turn{z TI TO i1 i2:Addr}{x y a b:Value}{I1 I2:Heap→Prop}{Q:Value→Shared→Prop}(D:Apart5 z TI TO i1 i2)(hz:IsZip s.heap z TI TO .none)(hI:IsPair s.heap TI (.ref i1) (.ref i2))(hO:IsPair s.heap TO a b)
  (d1 : ∀ (s1:Shared) (Q:Value→Shared→Prop) (E:Value→Shared→Prop),(∀ c o,c≠z→s.heap.get? c=some o→s1.heap.get? c=some o)→(∀ h',Xw i1 s1.heap h'→I1 h'→Q x {s1 with heap:=h'})→wpAny (model prog w) A (Builtin.SmallTypes.nextOf (.ref i1)) Q E s1)
  (d2 : ∀ (s1:Shared) (Q:Value→Shared→Prop) (E:Value→Shared→Prop),(∀ c o,c≠z→c≠TO→c≠i1→s.heap.get? c=some o→s1.heap.get? c=some o)→(∀ h',Xw i2 s1.heap h'→I2 h'→Q y {s1 with heap:=h'})→wpAny (model prog w) A (Builtin.SmallTypes.nextOf (.ref i2)) Q E s1)
  (f1 : ∀ h h',I1 h→(∀ c o,c≠z→c≠TO→c≠i2→h.get? c=some o→h'.get? c=some o)→I1 h') (f2 : ∀ h h',I2 h→(∀ c o,c≠z→c≠TO→h.get? c=some o→h'.get? c=some o)→I2 h')
  (hQ : ∀ h' T,T=s.heap.objs.size→IsZip h' z TI TO (rawInt T)→IsPair h' TO x y→I1 h'→I2 h'→IsPair h' T x y→(∀ c o,c≠z→c≠TO→c≠i1→c≠i2→s.heap.get? c=some o→h'.get? c=some o)→Q (.ref T) {s with heap:=h'}) :
  wpAny (model prog w) A (Builtin.«zip.__next__» ⟨[.ref z],[]⟩) (fun fin s' => ∃ v,fin = .done (.ret v)∧Q v s') E s:=by
 unfold Builtin.«zip.__next__»
 refine Xy (W0 (a:=(Value.ref z,[])) rfl ?_)
 dsimp only
 refine Xy (wpAny_field hz rfl (x:=.bool false) rfl ?_)
 refine Xy (wpAny_field hz rfl (x:=.ref TI) rfl ?_)
 refine Xy (wpAny_seqItems hI rfl ?_)
 dsimp only
 rw [if_neg (by simp)]
 refine Xy ?_
 unfold Builtin.SmallTypes.ownedTupleIsFree
 refine Xy (wpAny_field hz rfl (x:=.none) rfl (Xz ?_))
 refine wt rfl ?_
 refine Xy (wpAny_rule ?_)
 refine Xy (wpAny_field hz rfl (x:=.ref TO) rfl ?_)
 dsimp only
 refine Xy (wpAny_setField_rec hz (by simp) fun h1 z1 s1=>?_)
 replace z1:IsZip h1 z TI TO .ellipsis:=z1
 refine Xy ?_
 refine Xy (Xy (wpAny_onRaise ?_))
 show wpAny _ _ (Builtin.SmallTypes.nextOf (.ref i1)>>=_) _ _ _
 refine Xy (d1 _ _ _ (fun c o q e=>(s1.2 c q).trans e) fun h2 s2 j1=>Xz ?_)
 have O2:IsPair h2 TO a b:=(s2.2 TO D.bc).trans ((s1.2 TO (Ne.symm D.zb)).trans hO)
 refine Xy (wpAny_seqItems O2 rfl ?_)
 refine Xy (wpAny_updateSeq_pair O2 fun h3 O3 s3=>?_)
 replace O3:IsPair h3 TO x b:=O3
 refine Xy (wpAny_letGo (Xz ?_))
 refine Xy (Xy (wpAny_onRaise ?_))
 show wpAny _ _ (Builtin.SmallTypes.nextOf (.ref i2)>>=_) _ _ _
 refine Xy (d2 _ _ _ (fun c o q1 q2 q3 e=>(s3.2 c q2).trans ((s2.2 c q3).trans ((s1.2 c q1).trans e))) fun h4 s4 j2=>Xz ?_)
 have O4:IsPair h4 TO x b:=(s4.2 TO D.bd).trans O3
 refine Xy (wpAny_seqItems O4 rfl ?_)
 refine Xy (wpAny_updateSeq_pair O4 fun h5 O5 s5=>?_)
 replace O5:IsPair h5 TO x y:=O5
 refine Xy (wpAny_letGo (Xz (Xz ?_)))
 refine Xy (wpAny_seqItems O5 rfl ?_)
 refine Xy (wpAny_newTuple ?_)
 have hsz:h5.objs.size=s.heap.objs.size:=by rw [s5.1,s4.1,s3.1,s2.1,s1.1]
 have z5:IsZip h5 z TI TO .ellipsis:=(s5.2 z D.zb).trans ((s4.2 z D.zd).trans ((s3.2 z D.zb).trans ((s2.2 z D.zc).trans z1)))
 refine Xy ?_
 unfold Builtin.SmallTypes.ownedTupleHandOut
 have z6:IsZip (h5.push {cls:=.type "tuple",data:=.seq #[x,y]}) z TI TO .ellipsis:=Xu _ z5
 refine Xy (wpAny_setField_rec z6 (by simp) fun h7 z7 s7=>?_)
 replace z7:IsZip h7 z TI TO (rawInt h5.objs.size):=z7
 refine wpAny_setField_rec z7 (by simp) fun h8 z8 s8=>?_
 replace z8:IsZip h8 z TI TO (rawInt h5.objs.size):=z8
 have up : ∀ c o,c≠z→h5.get? c=some o→h8.get? c=some o:=fun c o q e=>(s8.2 c q).trans ((s7.2 c q).trans (Xu _ e))
 have hzT:h5.objs.size≠z:=Yv (Xv z5)
 refine Xz ⟨_,rfl,hQ h8 h5.objs.size hsz z8 (up _ _ (Ne.symm D.zb) O5) ?_ ?_ ((s8.2 _ hzT).trans ((s7.2 _ hzT).trans (Xs _ rfl))) fun c o q1 q2 q3 q4 e=>up c o q1 ((s5.2 c q2).trans ((s4.2 c q4).trans ((s3.2 c q2).trans ((s2.2 c q3).trans ((s1.2 c q1).trans e)))))⟩
 ·exact f1 h2 h8 j1 fun c o q1 q2 q3 e=>up c o q1 ((s5.2 c q2).trans ((s4.2 c q3).trans ((s3.2 c q2).trans e)))
 ·exact f2 h4 h8 j2 fun c o q1 q2 e=>up c o q1 ((s5.2 c q2).trans e)
theorem zip_stop{z TI TO i1 i2 l:Addr}{k:Nat}{xs:Array Value}{Q:Option Value→Shared→Prop}(hh:A.handled=none)(hz1:i1≠z)(hz2:l≠z)(hz:IsZip s.heap z TI TO .none)(hI:IsPair s.heap TI (.ref i1) (.ref i2))
  (hit:s.heap.IsListIter i1 l k) (hl:s.heap.IsList l xs) (hx:xs[k]?=none)
  (hQ : ∀ h',(∀ c o,c≠z→c≠i1→s.heap.get? c=some o→h'.get? c=some o)→Q none {s with heap:=h'}):wpAny (model prog w) A (pyNext (.ref z)) Q E s:=by
 have hT:s.TypeIs (.ref z) "zip" :=⟨_,hz,rfl⟩
 unfold pyNext
 refine Xy (wpAny_attempt (wpAny_callSpecial?_slot (name:=Xx "__next__") hT F.slot_zip_next (W2 F.slot_zip_next hT F.entry_zip_next ?_ (F.args_zip_next_1 _))))
 unfold Builtin.«zip.__next__»
 refine Xy (W0 (a:=(Value.ref z,[])) rfl ?_)
 dsimp only
 refine Xy (wpAny_field hz rfl (x:=.bool false) rfl ?_)
 refine Xy (wpAny_field hz rfl (x:=.ref TI) rfl ?_)
 refine Xy (wpAny_seqItems hI rfl ?_)
 dsimp only
 rw [if_neg (by simp)]
 refine Xy ?_
 unfold Builtin.SmallTypes.ownedTupleIsFree
 refine Xy (wpAny_field hz rfl (x:=.none) rfl (Xz ?_))
 refine wt rfl ?_
 refine Xy (wpAny_rule ?_)
 refine Xy (wpAny_field hz rfl (x:=.ref TO) rfl ?_)
 dsimp only
 refine Xy (wpAny_setField_rec hz (by simp) fun h1 z1 s1=>?_)
 replace z1:IsZip h1 z TI TO .ellipsis:=z1
 refine Xy ?_
 refine Xy (Xy (wpAny_onRaise ?_))
 show wpAny _ _ (Builtin.SmallTypes.nextOf (.ref i1)>>=_) _ _ _
 refine Xy (wpAny_nextOf_list_end hh (hit.extBut s1.extBut hz1) (hl.extBut s1.extBut hz2) hx fun h2 e s2 he=>?_)
 obtain⟨oe,hoe,hce⟩:=he
 have z2:IsZip h2 z TI TO .ellipsis:=s2 _ _ (Ne.symm hz1) z1
 have hez:e≠z:=fun q=>by subst q;rw [z2] at hoe;injection hoe;exact absurd (show Value.type "zip" =Value.type "StopIteration" from hce) (by decide)
 refine wpAny_setField_rec z2 (by simp) fun h3 _ s3=>?_
 refine Xy (wpAny_isInstance (T := "StopIteration") (b:=true) ⟨oe,(s3.2 e hez).trans hoe,hce⟩ isSubtype_stop ?_)
 exact Xz (hQ h3 fun c o q1 q2 x=>(s3.2 c q1).trans (s2 c o q2 ((s1.2 c q1).trans x)))
theorem meets_zip(l t:Addr)(xs ys:Array Value):Meets (Builtin.«zip.__new__» ⟨[.type "zip",.ref l,.ref t],[]⟩) (fun _ R s=>s.heap.IsList l xs∧IsTup s.heap t ys∧
  R (.ok (.ret (.ref (s.heap.objs.size+4)))) {s with heap:=((((s.heap.push {cls:=.type "list_iterator",data:=.fields #[.ref l,.int 0 0]}).push {cls:=.type "tuple_iterator",data:=.fields #[.ref t,.int 0 0]}).push {cls:=.type "tuple",data:=.seq #[.ref s.heap.objs.size,.ref (s.heap.objs.size+1)]}).push {cls:=.type "tuple",data:=.seq #[.none,.none]}).push {cls:=.type "zip",data:=.fields #[.none,.bool false,.bool false,.ref (s.heap.objs.size+2),.ref (s.heap.objs.size+3)]}}) :=
 .of_wp fun prog w A R s h=>by
  obtain⟨hp,g,d,tk,os⟩:=s;obtain⟨hl,ht,h⟩:=h
  have hsub:=sub_zip
  have hL:Heap.IsList (Shared.heap ⟨hp,g,d,tk,os⟩) l xs:=hl
  have hT:IsTup (Shared.heap ⟨hp.push {cls:=.type "list_iterator",data:=.fields #[.ref l,.int 0 0]},g,d,tk,os⟩) t ys:=IsTup.push ht _
  have hc:Builtin.SmallTypes.newClass "zip" ⟨[.type "zip",.ref l,.ref t],[]⟩=pure (.type "zip",[.ref l,.ref t]):=by
   unfold Builtin.SmallTypes.newClass
   simp only [isType,hsub,pure_bind,Bool.not_true,Bool.false_eq_true,if_false]
  unfold Builtin.«zip.__new__»
  refine Xy (W0 hc ?_)
  dsimp only
  rw [if_neg (by simp)]
  refine Xy ?_
  unfold Builtin.SmallTypes.iterAll
  refine Xy (Xy (Xy (W1 (wpAny_pyIter_list hL (Xz ?_)))))
  refine Xy (Xy (W1 (wpAny_pyIter_tuple hT (Xz (Xz (Xz ?_))))))
  have h2:(2:Nat)≤sizeLine:=by rw [sizeLine_eq];exact ar286
  refine Xy (wpAny_newTuple (hsz:=h2) (Xy (wpAny_newTuple (hsz:=h2) (Xy ?_))))
  unfold Builtin.SmallTypes.newRecord Builtin.SmallTypes.ownedTupleFields
  dsimp only
  refine wpAny_newObj_type (Xz ⟨_,rfl,?_⟩)
  simpa [Heap.size_push] using h
structure ZipAt(h:Heap)(n l t:Addr)(i:Nat):Prop where
 z:IsZip h (n+4) (n+2) (n+3) .none
 I:IsPair h (n+2) (.ref n) (.ref (n+1))
 O : ∃ a b,IsPair h (n+3) a b
 i1:h.IsListIter n l i
 i2:IsTupIter h (n+1) t i
theorem call_zip{l t:Addr}{xs ys:Array Value}{Q:Value→Shared→Prop}(hl:s.heap.IsList l xs)(ht:IsTup s.heap t ys)
  (h : ∀ h',ZipAt h' s.heap.objs.size l t 0→h'.objs.size=s.heap.objs.size+5→(∀ c o,s.heap.get? c=some o→h'.get? c=some o)→Q (.ref (s.heap.objs.size+4)) {s with heap:=h'}) :
  wpAny (model prog w) A (call (.type "zip") [.ref l,.ref t]) Q E s:=by
 refine callType_new F.called_zip (by decide) (F.typeCall_zip_2 _ _) (F.newCall_zip_2 _ _) (fun obj=>F.args_object_init_3 obj _ _) F.entry_zip_new (meets_zip l t xs ys) ⟨hl,ht,?_⟩
 generalize e1:s.heap.push {cls:=.type "list_iterator",data:=.fields #[.ref l,.int 0 0]}=h1
 generalize e2:h1.push {cls:=.type "tuple_iterator",data:=.fields #[.ref t,.int 0 0]}=h2
 generalize e3:h2.push {cls:=.type "tuple",data:=.seq #[.ref s.heap.objs.size,.ref (s.heap.objs.size+1)]}=h3
 generalize e4:h3.push {cls:=.type "tuple",data:=.seq #[.none,.none]}=h4
 generalize e5:h4.push {cls:=.type "zip",data:=.fields #[.none,.bool false,.bool false,.ref (s.heap.objs.size+2),.ref (s.heap.objs.size+3)]}=h5
 have z1:h1.objs.size=s.heap.objs.size+1:=by rw [←e1];exact Heap.size_push ..
 have z2:h2.objs.size=s.heap.objs.size+2:=by rw [←e2,Heap.size_push,z1]
 have z3:h3.objs.size=s.heap.objs.size+3:=by rw [←e3,Heap.size_push,z2]
 have z4:h4.objs.size=s.heap.objs.size+4:=by rw [←e4,Heap.size_push,z3]
 have z5:h5.objs.size=s.heap.objs.size+5:=by rw [←e5,Heap.size_push,z4]
 have k5 : ∀ c o,h4.get? c=some o→h5.get? c=some o:=fun c o e=>by rw [←e5];exact Xu _ e
 have k4 : ∀ c o,h3.get? c=some o→h5.get? c=some o:=fun c o e=>k5 c o (by rw [←e4];exact Xu _ e)
 have k3 : ∀ c o,h2.get? c=some o→h5.get? c=some o:=fun c o e=>k4 c o (by rw [←e3];exact Xu _ e)
 have k2 : ∀ c o,h1.get? c=some o→h5.get? c=some o:=fun c o e=>k3 c o (by rw [←e2];exact Xu _ e)
 have g5:=Xs h4 (o:={cls:=.type "zip",data:=.fields #[.none,.bool false,.bool false,.ref (s.heap.objs.size+2),.ref (s.heap.objs.size+3)]}) rfl
 rw [e5,z4] at g5
 have g4:=Xs h3 (o:={cls:=.type "tuple",data:=.seq #[.none,.none]}) rfl
 rw [e4,z3] at g4
 have g3:=Xs h2 (o:={cls:=.type "tuple",data:=.seq #[.ref s.heap.objs.size,.ref (s.heap.objs.size+1)]}) rfl
 rw [e3,z2] at g3
 have g2:=Xs h1 (o:={cls:=.type "tuple_iterator",data:=.fields #[.ref t,.int 0 0]}) rfl
 rw [e2,z1] at g2
 have g1:=Xs s.heap (o:={cls:=.type "list_iterator",data:=.fields #[.ref l,.int 0 0]}) rfl
 rw [e1] at g1
 exact⟨⟨_,g5,rfl⟩,h _ ⟨g5,k4 _ _ g3,⟨_,_,k5 _ _ g4⟩,⟨_,k2 _ _ g1,rfl,rfl⟩,⟨_,k3 _ _ g2,rfl,rfl⟩⟩ z5 fun c o x=>k2 c o (by rw [←e1];exact Xu _ x)⟩
theorem apart5(n:Nat):Apart5 (n+4) (n+2) (n+3) n (n+1):=⟨by exact ar287,by exact ar288,by exact ar289,by exact ar290,by exact ar291,by exact ar292,by exact ar293,by exact ar294,by exact ar295,by exact ar296⟩
theorem zip_next{n l t i:Nat}{xs ys:Array Value}{x y:Value}{Q:Option Value→Shared→Prop}(hl:s.heap.IsList l xs)(ht:IsTup s.heap t ys)(hln:l<n)(htn:t<n)(Z:ZipAt s.heap n l t i)(hx:xs[i]?=some x)(hy:ys[i]?=some y)
  (hQ : ∀ h' T,T=s.heap.objs.size→IsPair h' T x y→(∀ h'',IsZip h'' (n+4) (n+2) (n+3) .none→(∀ c o,c≠n+4→h'.get? c=some o→h''.get? c=some o)→ZipAt h'' n l t (i+1))→IsZip h' (n+4) (n+2) (n+3) (rawInt T)→
   (∀ c o,c≠n+4→c≠n+3→c≠n→c≠n+1→s.heap.get? c=some o→h'.get? c=some o)→Q (some (.ref T)) {s with heap:=h'}):wpAny (model prog w) A (pyNext (.ref (n+4))) Q E s:=by
 obtain⟨a,b,hO⟩:=Z.O
 have n4:n≠n+4:=by exact ar297
 have n3:n≠n+3:=by exact ar298
 have n1:n≠n+1:=by exact ar296
 have m4:n+1≠n+4:=by exact ar299
 have m3:n+1≠n+3:=by exact ar300
 have l4:l≠n+4:=by exact ar301 hln
 have t4:t≠n+4:=by exact ar301 htn
 have t3:t≠n+3:=by exact ar302 htn
 have t0:t≠n:=by exact ar303 htn
 have i4:n+2≠n+4:=by exact ar304
 have i3:n+2≠n+3:=by exact ar291
 have i0:n+2≠n:=by exact ar292
 have i1:n+2≠n+1:=by exact ar293
 have o4:n+3≠n+4:=by exact ar305
 have hT:s.TypeIs (.ref (n+4)) "zip" :=⟨_,Z.z,rfl⟩
 unfold pyNext
 refine Xy (wpAny_attempt (wpAny_callSpecial?_slot (name:=Xx "__next__") hT F.slot_zip_next (W2 F.slot_zip_next hT F.entry_zip_next ?_ (F.args_zip_next_1 _))))
 refine zip_turn (x:=x) (y:=y) (I1:=fun h=>h.IsListIter n l (i+1)) (I2:=fun h=>IsTupIter h (n+1) t (i+1)) (apart5 n) Z.z Z.I hO
  (fun s1 Q E k q=>wpAny_nextOf_list_item (Z.i1.at fun o e=>k n o n4 e) (hl.at fun o e=>k l o l4 e) hx fun h' a b=>q h' b a)
  (fun s1 Q E k q=>draw_tup (let ⟨o,ho,r⟩:=Z.i2;⟨o,k _ o m4 m3 n1.symm ho,r⟩) (let ⟨o,ho,r⟩:=ht;⟨o,k _ o t4 t3 t0 ho,r⟩) hy fun h' a b=>q h' b a)
  (fun h h' x k=>x.at fun o e=>k n o n4 n3 n1 e) (fun h h' ⟨o,ho,r⟩ k=>⟨o,k _ o m4 m3 ho,r⟩) fun h' T hT a1 a2 a3 a4 a5 a6=>?_
 exact Xz (hQ h' T hT a5 (fun h'' z k=>⟨z,k _ _ i4 (a6 _ _ i4 i3 i0 i1 Z.I),⟨_,_,k _ _ o4 a2⟩,a3.at fun o e=>k n o n4 e,let ⟨o,ho,r⟩:=a4;⟨o,k _ o m4 ho,r⟩⟩) a1 a6)
end
end Lay
set_option maxRecDepth 100000
namespace Lay
variable{C:Cx}
theorem Rel.addKs{h₀ ζ:HM}{ρ:RM}{st:St}{h:Heap}(R:Rel C h₀ ζ ρ st h)(κ:HM)(hκ : ∀ a o,κ a=some o→h.get? a=some o)(off : ∀ a,κ a≠none→Off C h₀ ζ ρ a):Rel C (fun a=>(κ a).or (h₀ a)) ζ ρ st h∧Le h₀ (fun a=>(κ a).or (h₀ a)):=by
 have no : ∀ a,κ a=none→((κ a).or (h₀ a))=h₀ a:=fun a e=>by rw [e];rfl
 have le:Le h₀ (fun a=>(κ a).or (h₀ a)):=fun a o e=>by
  cases q:κ a with
  |none=>show ((κ a).or (h₀ a))=_;rw [no a q];exact e
  |some o'=>have:=(off a (by rw [q];exact Xk _)).k;rw [this] at e;injection e
 refine⟨⟨⟨R.ok,fun a o e=>?_,R.frozen,R.fcls,R.slot,R.dom,R.inj,R.offz,fun n a e=>?_,fun h' q=>R.good h' (le.trans q),R.sysr,R.sysz⟩,R.fresh,R.mid,R.var,R.plok,fun i pl e=>⟨(R.ploff i pl e).1,?_,(R.ploff i pl e).2.2⟩,R.plinj⟩,le⟩
 ·cases q:κ a with
  |none=>exact R.kept a o (by rw [←no a q];exact e)
  |some o'=>have e:((κ a).or (h₀ a))=some o:=e;rw [q] at e;injection e;exact hκ a _ q
 ·show ((κ a).or (h₀ a))=none
  cases q:κ a with
  |none=>exact R.offk n a e
  |some o'=>exact absurd e ((off a (by rw [q];exact Xk _)).r n)
 ·show ((κ pl.addr).or (h₀ pl.addr))=none
  cases q:κ pl.addr with
  |none=>exact(R.ploff i pl e).2.1
  |some o'=>exact absurd rfl ((off pl.addr (by rw [q];exact Xk _)).p i pl e)
open Classical in
noncomputable def M.forZ(v1 v2:V)(bind:V→M Unit)(body:M Fl):M Fl:=fun s=>(lView v1 s).bind fun xs=>(un V.tup v2).bind fun ys =>
 if xs.length≤ys.length then M.forN (fun s'=>if lView v1 s'=some xs then some (List.zipWith (fun a b=>V.tup [a,b]) xs ys) else none) bind body (xs.length+1) 0 s else none
noncomputable def Y.forZip(B:Nat)(m1 m2:M V)(i j:Nat)(mb:M Fl):M Fl:=do let v1←m1;let v2←m2;M.guard (v1.stays B);M.forZ v1 v2 (M.unpack [i,j]) mb
inductive ForZ(v1 v2:V)(bind:V→M Unit)(body:M Fl)(s:St)(r:Fl×St):Prop
 |mk (xs ys:List V) (h1:lView v1 s=some xs) (h2:v2 = .tup ys) (hl:xs.length≤ys.length) (it:St→Option (List V)) (hit : ∀ s' zs,it s'=some zs→lView v1 s'=some xs∧zs=List.zipWith (fun a b=>V.tup [a,b]) xs ys)
   (h:M.forN it bind body (xs.length+1) 0 s=some r)
theorem forZ_some{v1 v2:V}{bind:V→M Unit}{body:M Fl}{s:St}{r:Fl×St}(e:M.forZ v1 v2 bind body s=some r):ForZ v1 v2 bind body s r:=by
 refine byC fun hG=>?_
 obtain⟨xs,q,e⟩:=ob e
 obtain⟨ys,q2,e⟩:=ob e
 obtain⟨hl,e⟩:=io e
 refine hG ⟨xs,ys,q,Zk q2,hl,_,fun s' zs h=>?_,e⟩
 obtain⟨q3,h⟩:=io h
 injection h with h
 exact⟨q3,h.symm⟩
inductive ZipI(C:Cx)(h₀ ζ:HM)(ρ:RM)(s:Shared)(v1:V)(ys:List V)(l t b:Nat)(it:St→Option (List V))(bind:V→M Unit)(mb:M Fl)(r:Fl×St)(n:Nat)(s':Shared):Prop
 |mk (ζ2:HM) (ρ2:RM) (st2:St) (h2:Heap) (tk2:Tok) (i:Nat) (e:s'={s with heap:=h2,toks:=tk2}) (G:Gr C.B s.heap ζ ρ h2 ζ2 ρ2) (rel:Rel C h₀ ζ2 ρ2 st2 h2) (r1:VR C.W ζ2 ρ2 v1 (.ref l)) (r2:VR C.W ζ2 ρ2 (.tup ys) (.ref t)) (Z:ZipAt h2 b l t i)
   (off : ∀ a,b≤a→a≤b+4→Off C h₀ ζ2 ρ2 a) (e1:M.forN it bind mb n i st2=some r)
theorem zipAt_has{h:Heap}{b l t i:Nat}(Z:ZipAt h b l t i) : ∀ a,b≤a→a≤b+4→h.get? a≠none:=fun a h1 h2=>by
 have:a=b∨a=b+1∨a=b+2∨a=b+3∨a=b+4:=by exact ar306 h1 h2
 refine byC fun hG=>?_
 obtain⟨x,y,hO⟩:=Z.O
 obtain⟨o1,g1,_⟩:=Z.i1
 obtain⟨o2,g2,_⟩:=Z.i2
 refine hG ?_
 clear hG
 have g3:h.get? (b+2)=_:=Z.I
 have g4:h.get? (b+4)=_:=Z.z
 have g5:h.get? (b+3)=_:=hO
 rcases this with rfl|rfl|rfl|rfl|rfl
 ·rw [g1];exact Xk _
 ·rw [g2];exact Xk _
 ·rw [g3];exact Xk _
 ·rw [g5];exact Xk _
 ·rw [g4];exact Xk _
theorem zipAt_keep{h h':Heap}{b l t i:Nat}(Z:ZipAt h b l t i)(k : ∀ a o,b≤a→a≤b+4→h.get? a=some o→h'.get? a=some o):ZipAt h' b l t i:=by
 obtain⟨x,y,hO⟩:=Z.O
 exact⟨k (b+4) _ (by exact ar307) (by exact ar308) Z.z,k (b+2) _ (by exact ar309) (by exact ar310) Z.I,⟨x,y,k (b+3) _ (by exact ar311) (by exact ar312) hO⟩,Z.i1.at fun o e=>k b o (by exact ar313) (by exact ar307) e,let ⟨o,ho,r⟩:=Z.i2;⟨o,k (b+1) o (by exact ar314) (by exact ar315) ho,r⟩⟩
theorem Sim_ForZip{z a b:Str}{zp ap bp tp pos pos':Pos}{i j k:Nat}{e1 e2:PySem.Expr}{body:List Stmt}{m1 m2:M V}{mb:M Fl}(hz:SimE C (eval (.Name z zp) C.env) (pure (.val (.type "zip"))))(h1:SimE C (eval e1 C.env) m1)(h2:SimE C (eval e2 C.env) m2)
  (ha:SimSt C a i) (hb:SimSt C b j) (hbody:SimF C (execs body C.env) mb)
  (hs1:starEach [e1,e2] C.env=(false,eval e1 C.env)::starEach [e2] C.env:=by rfl) (hs2:starEach [e2] C.env=(false,eval e2 C.env)::starEach [] C.env:=by rfl)
  (hf : ∀ x,foldedSetIterable (.Call (.Name z zp) [e1,e2] [] pos') C.env x=pure x:=by intro _;rfl) :
  SimF C (exec (.For (.Tuple [.Name a ap,.Name b bp] k tp) (.Call (.Name z zp) [e1,e2] [] pos') body [] pos) C.env) (Y.forZip C.B m1 m2 i j mb):=by
 have hA:SimA C (.Tuple [.Name a ap,.Name b bp] k tp) (M.unpack [i,j]):=SimA.tuple (.cons (SimSts.name ha) (.cons (SimSts.name hb) .nil))
 intro h₀ ζ ρ st s P E ok rel r st' e kk
 refine byC fun hG=>?_
 obtain⟨v1,s1,e1',e⟩:=W6 e
 obtain⟨v2,s2,e2',e⟩:=W6 e
 obtain⟨_,s3,e3,e4⟩:=W6 e
 obtain⟨hst,hs3⟩:=W7 e3
 injection hs3
 obtain⟨xs,ys,hv1,rfl,hlen,it,hit,e5⟩:=forZ_some e4
 refine hG ?_
 clear hG
 refine wpAny_For (wpAny_Call_NameR (hz h₀ ζ ρ st s _ E ok rel _ _ rfl fun ζ1 ρ1 h1' tk1 y G1 rel1 r1=>?_)) hf
 change _=_ at r1
 subst r1
 have ht1:TreesOk (backTo pos' (starEach [e1,e2] C.env)):=by rw [hs1,hs2];exact .cons (.cons .nil)
 refine CallOk.type (W:=C.W) _ _ _ _ _ _ _ ht1.1 (evalArgs_any ht1.2 (Z2 h1 (Z2 h2 Ze hs2) hs1 h₀ ζ1 ρ1 st _ _ E ok rel1 [v1,.tup ys] s2 ?_ fun ζ2 ρ2 h2' tk2 vs G2 rel2 r2=>⟨rel2.ok,?_⟩))
 ·show ((m1>>=fun v=>(m2>>=fun w=>(Pure.pure []:M (List V))>>=fun r=>Pure.pure (w::r))>>=fun vs=>Pure.pure (v::vs)):M (List V)) st=_
  rw [M.bind_eq,e1']
  show (((m2>>=fun w=>(Pure.pure []:M (List V))>>=fun r=>Pure.pure (w::r))>>=fun vs=>Pure.pure (v1::vs)):M (List V)) s1=_
  rw [M.bind_eq,M.bind_eq,e2']
  rfl
 refine byC fun hG=>?_
 obtain⟨xl,_,rfl,rx,xt,_,rfl,rt,rfl⟩:=r2
 obtain⟨l,xa,rfl,hl,hxa⟩:=lView_at rel2 hv1 rx
 obtain⟨t,ya,rfl,ht,hya⟩:=tup_at rel2 rt
 refine hG ?_
 clear hG
 have hll:l<h2'.objs.size:=by obtain⟨o,ho,_⟩:=hl;exact Xv ho
 have htl:t<h2'.objs.size:=by obtain⟨o,ho,_⟩:=ht;exact Xv ho
 refine call_zip hl ht fun h3 Z hsz k3=>?_
 refine wpAny_pyIter_zip Z.z ?_
 have G12:=G1.trans G2
 obtain⟨rel3,G3⟩:=rel2.keepAll k3
 have hnone : ∀ a,h2'.objs.size≤a→h2'.get? a=none:=fun a q=>by
  cases w:h2'.get? a with
  |none=>rfl
  |some o=>exact absurd (Xv w) (Nat.not_lt.mpr q)
 refine codeAny_forLoop_any (ZipI C h₀ ζ ρ s v1 ys l t h2'.objs.size it (M.unpack [i,j]) mb (r,st')) (fun n s' hI=>?_) (xs.length+1) ⟨ζ2,ρ2,s2,h3,_,0,rfl,(G12.trans G3).weak ok.bt,rel3,rx,rt,Z,fun a q _=>rel2.offNew (hnone a q),e5⟩
 generalize hbq:h2'.objs.size=bb at *
 refine byC fun hG=>?_
 obtain⟨ζ4,ρ4,st4,h4,tk4,c,rfl,G4,rel4,q1,q2,Z4,off4,e6⟩:=hI
 refine hG ?_
 clear hG
 cases n with
 |zero=>injection e6
 |succ n =>
  ·obtain⟨zs,hx,e6⟩:=ob (f:=fun xs=>Option.elim (xs[c]?) _ _) e6
   refine byC fun hG=>?_
   obtain⟨hv4,rfl⟩:=hit _ _ hx
   obtain⟨l',xa4,el,hl4,hxa4⟩:=lView_at rel4 hv4 q1
   injection el
   obtain⟨t',ya4,et,ht4,hya4⟩:=tup_at rel4 q2
   injection et
   refine hG ?_
   clear hG
   cases hc:(List.zipWith (fun a b=>V.tup [a,b]) xs ys)[c]? with
   |none =>
    rw [hc] at e6
    injection e6
    have hx0:xa4[c]?=none:=by
     rw [Array.getElem?_eq_none_iff]
     have a1:=List.getElem?_eq_none_iff.mp hc
     rw [List.length_zipWith] at a1
     have a2:xa4.size=xs.length:=by rw [←hxa4.length];simp
     exact ar316 hlen a1 a2
    refine zip_stop ok.room.handled (by show bb≠bb+4;exact ar297) (Yu (Yq hll (X1 _ 4))) Z4.z Z4.I Z4.i1 hl4 hx0 fun h5 k5=>?_
    have rel5:Rel C h₀ ζ4 ρ4 st' h5:=rel4.off (fun a=>bb≤a∧a≤bb+4) (fun a o hb q=>k5 a o (fun q'=>hb (by subst q';exact⟨X1 bb 4,Yy _⟩)) (fun q'=>hb (by subst q';exact⟨Yy _,X1 _ 4⟩)) q) (fun a q=>let o:=off4 a q.1 q.2;⟨o.z,o.k,o.r⟩) (fun i pl q q'=>(off4 _ q'.1 q'.2).p i pl q rfl)
    refine wpAny_execs_nil (kk ζ4 ρ4 h5 tk4 _ ⟨G4.zl,G4.rl,G4.zn,G4.rn,fun a q=>?_⟩ rel5 rfl)
    have q':=G4.dm a q
    cases w:h4.get? a with
    |none=>exact absurd w q'
    |some o =>
     have ha1 : ¬ (bb≤a):=fun hle=>by
      have:=G12.dm a q
      rw [hnone a hle] at this
      exact this rfl
     rw [k5 a o (fun q=>ha1 (by subst q;exact ar317 ha1)) (fun q=>ha1 (by subst q;exact ar318 ha1)) w];exact Xk _
   |some u =>
    rw [hc] at e6
    dsimp only [Option.elim_some] at e6
    refine byC fun hG=>?_
    obtain⟨xv,yv,hxv,hyv,rfl⟩:=List.getElem?_zipWith_eq_some.mp hc
    obtain⟨xx,hxx,lx,rxx⟩:=hxa4.get c xv hxv
    obtain⟨yy,hyy,ly,ryy⟩:=hya4.get c yv hyv
    refine hG ?_
    clear hG
    rw [Xo] at hxx hyy
    refine zip_next hl4 ht4 hll htl Z4 hxx hyy fun h5 T hT g1 g2 g3 k5=>?_
    refine wpAny_letOwnedTupleGo_zip g3 fun h6 z6 s6=>?_
    subst hT
    have hbl:bb+4<h4.objs.size:=Xv Z4.z
    have hT4:=rel4.offNew (get_size h4)
    have gT:h6.get? h4.objs.size=some {cls:=.type "tuple",data:=.seq #[xx,yy]}:=(s6.2 _ (by show h4.objs.size≠bb+4;exact ar319 hsz hbl)).trans g1
    have k6 : ∀ a o,¬ (bb≤a∧a≤bb+4)→h4.get? a=some o→h6.get? a=some o:=fun a o hb q=>(s6.2 a (fun q'=>hb (by subst q';exact ar320))).trans (k5 a o (fun q'=>hb (by subst q';exact ar320)) (fun q'=>hb (by subst q';exact ar321)) (fun q'=>hb (by subst q';exact ar322)) (fun q'=>hb (by subst q';exact ar323)) q)
    have Z6:ZipAt h6 bb l t (c+1):=g2 h6 z6 fun a o q w=>(s6.2 a q).trans w
    have relA:Rel C h₀ ζ4 ρ4 st4 h6:=rel4.off (fun a=>bb≤a∧a≤bb+4) k6 (fun a q=>let o:=off4 a q.1 q.2;⟨o.z,o.k,o.r⟩) (fun i pl q q'=>(off4 _ q'.1 q'.2).p i pl q rfl)
    have relT:=relA.adoptZ gT hT4 (rel4.not_sys (Yy _))
    have leT:Le ζ4 (upd ζ4 h4.objs.size (some {cls:=.type "tuple",data:=.seq #[xx,yy]})):=upd_le hT4.z
    have GT:Gr C.B h4 ζ4 ρ4 h6 (upd ζ4 h4.objs.size (some {cls:=.type "tuple",data:=.seq #[xx,yy]})) ρ4:=⟨leT,fun _ _ _ q=>q,fun a o q=>by
      by_cases w:a=h4.objs.size
      ·subst w;exact .inr (get_size _)
      ·rw [upd_ne _ _ w] at q;exact .inl q,fun _ _ q=>.inl q,fun a q=>by
      by_cases w:bb≤a∧a≤bb+4
      ·exact zipAt_has Z6 a w.1 w.2
      ·cases w2:h4.get? a with
       |none=>exact absurd w2 q
       |some o=>rw [k6 a o w w2];exact Xk _⟩
    have offT : ∀ a,bb≤a→a≤bb+4→Off C h₀ (upd ζ4 h4.objs.size (some {cls:=.type "tuple",data:=.seq #[xx,yy]})) ρ4 a:=fun a a1 a2=>(off4 a a1 a2).gr GT (zipAt_has Z4 a a1 a2)
    have hr:VR C.W (upd ζ4 h4.objs.size (some {cls:=.type "tuple",data:=.seq #[xx,yy]})) ρ4 (.tup [xv,yv]) (.ref h4.objs.size):=by
     refine(?_:Exists _)
     refine⟨_,_,#[xx,yy],rfl,Zc _ _ _,⟨rfl,0,rfl⟩,?_⟩
     refine(?_:Exists _)
     exact⟨xx,_,rfl,lx,rxx.mono leT (Le.refl _),yy,_,rfl,ly,ryy.mono leT (Le.refl _),rfl⟩
    obtain⟨relK,leK⟩:=relT.addKs (fun a=>if bb≤a∧a≤bb+4 then h6.get? a else none) (fun a o q=>by split at q<;>first|exact q|injection q) (fun a q=>by
     by_cases w:bb≤a∧a≤bb+4
     ·exact offT a w.1 w.2
     ·rw [if_neg w] at q;exact absurd rfl q)
    refine byC fun hG=>?_
    obtain⟨_,s7,e7,e8⟩:=W6 e6
    obtain⟨fl,s8,e9,e10⟩:=W6 e8
    refine hG ?_
    clear hG
    refine hA _ _ ρ4 st4 _ _ _ _ _ ok relK hr () s7 e7 fun ζ7 ρ7 h7 tk7 _ G7 rel7 _=>?_
    refine hbody _ ζ7 ρ7 s7 _ _ _ ok rel7 fl s8 e9 fun ζ8 ρ8 h8 tk8 b8 G8 rel8 r8=>?_
    have G68:Gr C.B h6 (upd ζ4 h4.objs.size (some {cls:=.type "tuple",data:=.seq #[xx,yy]})) ρ4 h8 ζ8 ρ8:=(G7.weak ok.bt).trans G8
    have G48:=GT.trans G68
    have rel9:=rel8.dropK leK rel.good
    have Z8:ZipAt h8 bb l t (c+1):=zipAt_keep Z6 fun a o a1 a2 q=>rel8.kept a o (by rw [if_pos ⟨a1,a2⟩,q];rfl)
    have off8 : ∀ a,bb≤a→a≤bb+4→Off C h₀ ζ8 ρ8 a:=fun a a1 a2=>(offT a a1 a2).gr G68 (zipAt_has Z6 a a1 a2)
    have q1':=VR.stay (h₀:=h₀) (st:=s8) hst ok.b100 G48 q1
    have q2':=VR.stay (h₀:=h₀) (st:=s8) (v:=.tup ys) rfl ok.b100 G48 q2
    have G9:=G4.trans G48
    cases fl with
    |next=>injection r8;exact⟨n,X2 n,ζ8,ρ8,s8,h8,tk8,c+1,rfl,G9,rel9,q1',q2',Z8,off8,e10⟩
    |cont=>injection r8;exact⟨n,X2 n,ζ8,ρ8,s8,h8,tk8,c+1,rfl,G9,rel9,q1',q2',Z8,off8,e10⟩
    |brk=>injection r8;injection e10;exact kk ζ8 ρ8 h8 tk8 _ G9 rel9 rfl
    |ret w=>obtain⟨y,rfl,hy⟩:=r8;injection e10;exact kk ζ8 ρ8 h8 tk8 _ G9 rel9 ⟨y,rfl,hy⟩
end Lay
namespace Lay
theorem law_end{W:Wd}{f:Addr}{B k:Nat}{fm:FM}{s:Shared}{a:Addr}{vs:List Value}{xs:List Int}{Q:Value→Shared→Prop}{E:Value→Shared→Prop}(hf:FnSim W (.ref f) B k fm)(room:Room callerA k)(ok:W.Ok s.heap)
  (ha:s.heap.get? a=some {cls:=.type "list",data:=.seq vs.toArray}) (hsys:a≠sysModules) (hi:IntsAre vs xs) (run : ∃ σ',fm [.lst (xs.map .int)] (fun _=>none)=some (.bool true,σ'))
  (h : ∀ h' tk,(∀ b o,s.heap.get? b=some o→h'.get? b=some o)→Q (.bool true) {s with heap:=h',toks:=tk}):wpAny (model W.prog W.w) callerA (call (.ref f) [.ref a]) Q E s:=by
 obtain⟨σ',run⟩:=run
 refine wpAny_call (codeAny_mono (hf callerA s.heap.get? (fun b=>if b=a then some {cls:=.type "list",data:=.seq vs.toArray} else none) (fun _=>none) (fun _=>none) s [.lst (xs.map .int)] [.ref a] Q E room ?_ (fun _ _=>rfl) ?_ _ _ run fun ζ' ρ' h' tk' x G S hσ hx=>?_) fun r s' z=>z)
 ·exact⟨ok,fun _ _ e=>e,fun b o e=>by split at e<;>cases e;rename_i q;rw [q];exact ha,fun _ _ _=>trivial,nofun,fun _ _=>rfl,nofun,nofun,nofun,fun h' q=>ok.keeps q,nofun,by rw [if_neg (Ne.symm hsys)]⟩
 ·refine⟨_,[],rfl,?_,rfl⟩
  refine(?_:Exists _)
  exact⟨a,_,vs.toArray,rfl,by simp,⟨0,rfl⟩,by simpa using ints_back2 hi⟩
 ·change _=_ at hx
  subst hx
  exact h h' tk' fun b o e=>S.kept b o e
end Lay
namespace Lay
variable{C:Cx}
theorem SV{x:Str}{pos:Pos}{i:Nat}(hk:C.env.kindOf x=some .local:=by rfl)(hp:C.pl i=some (.loc C.env.locals x):=by rfl)(hd:(x==("__debug__" :Str))=false:=by rfl):SimE C (eval (.Name x pos) C.env) (M.getL i):=Zj (Sim_loadLocal hk hp) hd
theorem trees1{pos:Pos}{a:PySem.Expr}(h:starEach [a] C.env=(false,eval a C.env)::starEach [] C.env):TreesOk (backTo pos (starEach [a] C.env)):=by rw [h];exact .cons .nil
theorem trees2{pos:Pos}{a b:PySem.Expr}(h:starEach [a,b] C.env=(false,eval a C.env)::starEach [b] C.env)(k:starEach [b] C.env=(false,eval b C.env)::starEach [] C.env):TreesOk (backTo pos (starEach [a,b] C.env)):=by rw [h,k];exact .cons (.cons .nil)
section
variable{x:Str}{p pos:Pos}{a b:PySem.Expr}{f:Value}{m1 m2:M V}{g:List V→M V}
theorem C1(hf:SimE C (eval (.Name x p) C.env) (pure (.val f)))(hok:CallOk C.W f)(h1:SimE C (eval a C.env) m1)(hc:SimC C f g)(ha:starEach [a] C.env=(false,eval a C.env)::starEach [] C.env:=by rfl) :
  SimE C (eval (.Call (.Name x p) [a] [] pos) C.env) (X.call g (X.cons m1 X.nil)):=Yb hf hok (Z2 h1 Ze ha) (trees1 ha) hc
theorem C2(hf:SimE C (eval (.Name x p) C.env) (pure (.val f)))(hok:CallOk C.W f)(h1:SimE C (eval a C.env) m1)(h2:SimE C (eval b C.env) m2)(hc:SimC C f g)(ha:starEach [a,b] C.env=(false,eval a C.env)::starEach [b] C.env:=by rfl)(hb:starEach [b] C.env=(false,eval b C.env)::starEach [] C.env:=by rfl) :
  SimE C (eval (.Call (.Name x p) [a,b] [] pos) C.env) (X.call g (X.cons m1 (X.cons m2 X.nil))):=Yb hf hok (Z2 h1 (Z2 h2 Ze hb) ha) (trees2 ha hb) hc
end
section
variable{o a b:PySem.Expr}{name:Str}{apos pos:Pos}{mo m1 m2:M V}{f:Value}{g:List V→M V}{okp:V→St→Bool}
theorem M0(pl:Sem Bool)(ho:SimE C (eval o C.env) mo)(hm:MethAt C name f (fun v s=>okp v s=true))(hok:CallOk C.W f)(hc:SimC C f g)
  (he:eval (.Call (.Attribute o name apos) [] [] pos) C.env=(do
   let ov←eval o C.env
   standAt apos.atName
   let (f,first)←holding [ov] (getMethod ov name pl)
   callWith pos f first (backTo pos (starEach [] C.env)) []):=by rfl) :
  SimE C (eval (.Call (.Attribute o name apos) [] [] pos) C.env) (X.meth okp g mo X.nil):=Yn pl ho Ze TreesOk.nil hm hok hc he
theorem M1(pl:Sem Bool)(ho:SimE C (eval o C.env) mo)(h1:SimE C (eval a C.env) m1)(hm:MethAt C name f (fun v s=>okp v s=true))(hok:CallOk C.W f)(hc:SimC C f g)(ha:starEach [a] C.env=(false,eval a C.env)::starEach [] C.env:=by rfl)
  (he:eval (.Call (.Attribute o name apos) [a] [] pos) C.env=(do
   let ov←eval o C.env
   standAt apos.atName
   let (f,first)←holding [ov] (getMethod ov name pl)
   callWith pos f first (backTo pos (starEach [a] C.env)) []):=by rfl) :
  SimE C (eval (.Call (.Attribute o name apos) [a] [] pos) C.env) (X.meth okp g mo (X.cons m1 X.nil)):=Yn pl ho (Z2 h1 Ze ha) (trees1 ha) hm hok hc he
theorem M2(pl:Sem Bool)(ho:SimE C (eval o C.env) mo)(h1:SimE C (eval a C.env) m1)(h2:SimE C (eval b C.env) m2)(hm:MethAt C name f (fun v s=>okp v s=true))(hok:CallOk C.W f)(hc:SimC C f g)(ha:starEach [a,b] C.env=(false,eval a C.env)::starEach [b] C.env:=by rfl)(hb:starEach [b] C.env=(false,eval b C.env)::starEach [] C.env:=by rfl)
  (he:eval (.Call (.Attribute o name apos) [a,b] [] pos) C.env=(do
   let ov←eval o C.env
   standAt apos.atName
   let (f,first)←holding [ov] (getMethod ov name pl)
   callWith pos f first (backTo pos (starEach [a,b] C.env)) []):=by rfl) :
  SimE C (eval (.Call (.Attribute o name apos) [a,b] [] pos) C.env) (X.meth okp g mo (X.cons m1 (X.cons m2 X.nil))):=Yn pl ho (Z2 h1 (Z2 h2 Ze hb) ha) (trees2 ha hb) hm hok hc he
end
end Lay
namespace Lay
noncomputable def R{α:Type}(m:M α)(s:St)(a:α)(s':St):Prop:=m s=some (a,s')
theorem R.pure{α:Type}{a:α}{s:St}:R (Pure.pure a:M α) s a s:=rfl
theorem R.bind{α β:Type}{m:M α}{f:α→M β}{s s1 s2:St}{a:α}{b:β}(h:R m s a s1)(k:R (f a) s1 b s2):R (m>>=f) s b s2:=by
 unfold R at *
 rw [M.bind_eq,h];exact k
theorem R.getL{i:Nat}{s:St}{v:V}(h:s.loc i=some v):R (M.getL i) s v s:=by
 exact bs h rfl
theorem R.setL{i:Nat}{s:St}{v:V}:R (M.setL i v) s () {s with loc:=upd s.loc i (some v)}:=rfl
theorem R.guard{b:Bool}{s:St}(h:b=true):R (M.guard b) s () s:=by subst h;rfl
theorem R.nil{s:St}:R X.nil s [] s:=rfl
theorem R.cons{m1:M V}{m2:M (List V)}{s s1 s2:St}{v:V}{vs:List V}(h1:R m1 s v s1)(h2:R m2 s1 vs s2):R (X.cons m1 m2) s (v::vs) s2:=.bind h1 (.bind h2 .pure)
theorem R.mkTup{vs:List V}{s:St}(h:vs.all V.low=true)(hl:vs.length≤lim):R (mkTup vs) s (.tup vs) s:=.bind (.guard (by simp only [h,decide_eq_true hl,Bool.and_self])) .pure
theorem R.mkLst{vs:List V}{s:St}(h:vs.all V.low=true)(hl:vs.length≤lim):R (mkList none vs) s (.lst vs) s:=.bind (.guard (by simp only [h,decide_eq_true hl,Bool.and_self])) .pure
theorem R.new{n:Nat}{O:O}{s:St}(h:s.hp n=none):R (M.new n O) s (.ref n) {s with hp:=upd s.hp n (some O)}:=by
 unfold R M.new;rw [h]
theorem R.mkLstS{n:Nat}{vs:List V}{s:St}(h:vs.all V.low=true)(hl:vs.length≤lim)(hn:s.hp n=none):R (mkList (some n) vs) s (.ref n) {s with hp:=upd s.hp n (some (.list vs))}:=.bind (.guard (by simp only [h,decide_eq_true hl,Bool.and_self])) (.new hn)
theorem R.meth{okp:V→St→Bool}{g:List V→M V}{mo:M V}{ma:M (List V)}{s s1 s2 s3:St}{o v:V}{vs:List V}(h1:R mo s o s1)(hk:okp o s1=true)(h2:R ma s1 vs s2)(k:R (g (o::vs)) s2 v s3):R (X.meth okp g mo ma) s v s3 :=
 .bind h1 (R.bind (a:=()) (s1:=s1) (by unfold R;show M.guard (okp o s1) s1=_;rw [hk];rfl) (.bind h2 k))
theorem R.ifeT{mt:M Bool}{m1 m2:M V}{s s1 s2:St}{v:V}(h:R mt s true s1)(k:R m1 s1 v s2):R (X.ife mt m1 m2) s v s2:=.bind h k
theorem R.ifeF{mt:M Bool}{m1 m2:M V}{s s1 s2:St}{v:V}(h:R mt s false s1)(k:R m2 s1 v s2):R (X.ife mt m1 m2) s v s2:=.bind h k
theorem R.and0{s:St}:R X.and0 s true s:=rfl
theorem R.or0{s:St}:R X.or0 s false s:=rfl
theorem R.and1T{m1 m2:M Bool}{s s1 s2:St}{c:Bool}(h:R m1 s true s1)(k:R m2 s1 c s2):R (X.and1 m1 m2) s c s2:=.bind h k
theorem R.and1F{m1 m2:M Bool}{s s1:St}(h:R m1 s false s1):R (X.and1 m1 m2) s false s1:=.bind h rfl
theorem R.or1T{m1 m2:M Bool}{s s1:St}(h:R m1 s true s1):R (X.or1 m1 m2) s true s1:=.bind h rfl
theorem R.or1F{m1 m2:M Bool}{s s1 s2:St}{c:Bool}(h:R m1 s false s1)(k:R m2 s1 c s2):R (X.or1 m1 m2) s c s2:=.bind h k
theorem R.dnil{s:St}:R X.dnil s [] s:=rfl
theorem R.dcons{m1 m2:M V}{m3:M (List (V×V))}{s s1 s2 s3:St}{a b:V}{r:List (V×V)}(h1:R m1 s a s1)(h2:R m2 s1 b s2)(h3:R m3 s2 r s3):R (X.dcons m1 m2 m3) s ((a,b)::r) s3:=.bind h1 (.bind h2 (.bind h3 .pure))
theorem R.end{s:St}:R Y.end s .next s:=rfl
theorem R.seq{m1 m2:M Fl}{s s1 s2:St}{f:Fl}(h:R m1 s .next s1)(k:R m2 s1 f s2):R (M.seq m1 m2) s f s2:=.bind h k
theorem R.seqRet{m1 m2:M Fl}{s s1:St}{v:V}(h:R m1 s (.ret v) s1):R (M.seq m1 m2) s (.ret v) s1:=.bind h rfl
theorem R.assign{i:Nat}{m:M V}{s s1:St}{v:V}(h:R m s v s1):R (Y.assign i m) s .next {s1 with loc:=upd s1.loc i (some v)}:=.bind h (.bind .setL .pure)
theorem R.assignDisp{is:List Nat}{m:M (List V)}{s s1 s2:St}{vs:List V}(h:R m s vs s1)(hl:vs.length≤100)(k:R (M.sets is vs) s1 () s2):R (Y.assignDisp is m) s .next s2:=.bind h (.bind (.guard (decide_eq_true hl)) (.bind k .pure))
theorem R.assignSwap{is:List Nat}{m:M (List V)}{s s1 s2:St}{vs:List V}(h:R m s vs s1)(hl:vs.length≤100)(k:R (M.sets is vs.reverse) s1 () s2):R (Y.assignSwap is m) s .next s2:=.bind h (.bind (.guard (decide_eq_true hl)) (.bind k .pure))
theorem R.sets0{s:St}:R (M.sets [] []) s () s:=rfl
theorem R.assignSub{m mo mi:M V}{s s1 s2 s3 s4:St}{u v k:V}(h:R m s u s1)(h2:R mo s1 v s2)(h3:R mi s2 k s3)(h4:R (setI v k u) s3 () s4):R (Y.assignSub m mo mi) s .next s4:=.bind h (.bind h2 (.bind h3 (.bind h4 .pure)))
theorem R.assignAttr{Cl:Addr}{name:Str}{m mo:M V}{s s1 s2 s3:St}{u v:V}(h:R m s u s1)(h2:R mo s1 v s2)(h3:R (setA Cl name v u) s2 () s3):R (Y.assignAttr Cl name m mo) s .next s3:=.bind h (.bind h2 (.bind h3 .pure))
theorem R.ret{m:M V}{s s1:St}{v:V}(h:R m s v s1):R (Y.ret m) s (.ret v) s1:=.bind h .pure
theorem R.expr{m:M V}{s s1:St}{v:V}(h:R m s v s1):R (Y.expr m) s .next s1:=.bind h .pure
theorem R.iteT{mt:M Bool}{m1 m2:M Fl}{s s1 s2:St}{f:Fl}(h:R mt s true s1)(k:R m1 s1 f s2):R (Y.ite mt m1 m2) s f s2:=.bind h k
theorem R.iteF{mt:M Bool}{m1 m2:M Fl}{s s1 s2:St}{f:Fl}(h:R mt s false s1)(k:R m2 s1 f s2):R (Y.ite mt m1 m2) s f s2:=.bind h k
theorem R.callM{fm:FM}{vs:List V}{s:St}{v:V}{σ':Hp}(h:fm vs s.hp=some (v,σ')):R (Lay.callM fm vs) s v {s with hp:=σ'}:=by
 unfold R Lay.callM;rw [h];rfl
theorem run_fn{B n:Nat}{mb:M Fl}{args:List V}{σ:Hp}{f:Fl}{v v':V}{st':St}(hl:args.length=n)(h:R mb ⟨fun i=>args[i]?,σ⟩ f st')(hf:flV f=some v)(hv:leaveV B v st'.hp=some v'):runF B n mb args σ=some (v',cut B st'.hp):=by
 unfold runF
 unfold R at h
 rw [if_pos hl,h]
 show (flV f).bind _=_
 rw [hf]
 show (leaveV B v st'.hp).bind _=_
 rw [hv];rfl
noncomputable def Free(B:Nat)(σ:Hp):Prop := ∀ n,B≤n→σ n=none
theorem cut_free{B:Nat}{σ:Hp}(h:Free B σ):cut B σ=σ:=by
 funext n
 unfold cut
 split
 ·rfl
 ·exact(h n (by exact ar81 (by assumption))).symm
theorem Free.upd{B:Nat}{σ:Hp}{n:Nat}{O:Option O}(h:Free B σ)(hn:n<B):Free B (upd σ n O):=fun m hm=>by rw [upd_ne _ _ (by exact ar324 hn hm)];exact h m hm
theorem Free.mono{B B':Nat}{σ:Hp}(h:Free B σ)(hb:B≤B'):Free B' σ:=fun n hn=>h n (by exact ar325 hb hn)
theorem cut_own{B:Nat}{σ:Hp}{n:Nat}{O:Option O}(h:Free B σ)(hn:B≤n):cut B (upd σ n O)=σ:=by
 funext m
 unfold cut
 split
 ·rw [upd_ne _ _ (by exact ar44 hn (by assumption))]
 ·exact(h m (by exact ar81 (by assumption))).symm
theorem forN_ret{items:St→Option (List V)}{bind:V→M Unit}{body:M Fl}{xs:List V}(P:Nat→St→Prop)(Q:V→St→Prop)(hit : ∀ i s,P i s→items s=some xs)
  (step : ∀ i s x,P i s→xs[i]?=some x→∃ s1 s2 f,R (bind x) s () s1∧R body s1 f s2∧(((f = .next∨f = .cont)∧P (i+1) s2)∨∃ v,f = .ret v∧Q v s2)) :
  ∀ (n i:Nat) (s:St),xs.length-i<n→P i s→i≤xs.length→(∃ s',R (M.forN items bind body n i) s .next s'∧P xs.length s')∨∃ v s',R (M.forN items bind body n i) s (.ret v) s'∧Q v s'
 |0,i,s,h,_,_=>absurd h (Nat.not_lt_zero _)
 |n+1,i,s,h,hp,hi=>by
  cases q:xs[i]? with
  |none =>
   have:xs.length≤i:=List.getElem?_eq_none_iff.mp q
   have e:i=xs.length:=by exact ar326 hi this
   subst e
   exact .inl ⟨s,bs (hit _ s hp) (by rw [q];rfl),hp⟩
  |some x =>
   have hlt:i<xs.length:=(X5.mp q).1
   refine byC fun hG=>?_
   obtain⟨s1,s2,f,h1,h2,hf⟩:=step i s x hp q
   refine hG ?_
   clear hG
   have glue : ∀ (g:Fl) (s':St),R (match (generalizing:=false) f with
     |.next=>M.forN items bind body n (i+1)
     |.cont=>M.forN items bind body n (i+1)
     |.brk=>Pure.pure .next
     |.ret v=>Pure.pure (.ret v):M Fl) s2 g s'→R (M.forN items bind body (n+1) i) s g s':=fun g s' hg=>by
    exact bs (hit _ s hp) (by rw [q];exact R.bind h1 (R.bind h2 hg))
   rcases hf with⟨hf,hp2⟩|⟨v,rfl,hq⟩
   ·rcases forN_ret P Q hit step n (i+1) s2 (by exact ar327 h hlt) hp2 hlt with⟨s',h3,h4⟩|⟨v,s',h3,h4⟩
    ·exact .inl ⟨s',glue _ _ (by rcases hf with rfl|rfl<;>exact h3),h4⟩
    ·exact .inr ⟨v,s',glue _ _ (by rcases hf with rfl|rfl<;>exact h3),h4⟩
   ·exact .inr ⟨v,s2,glue _ _ rfl,hq⟩
theorem R.forS{v:V}{bind:V→M Unit}{body:M Fl}{xs:List V}{s s':St}{f:Fl}(hx:seqItems v s=some xs)(h:R (M.forN (seqItems v) bind body (xs.length+1) 0) s f s'):R (M.forS v bind body) s f s':=by
 unfold R M.forS
 rw [hx];exact h
theorem compN_run{items:St→Option (List V)}{bind:V→M Unit}{test:M Bool}{elt:M V}{xs:List V}(P:Nat→List V→St→Prop)(hit : ∀ i acc s,P i acc s→items s=some xs)
  (step : ∀ i acc s x,P i acc s→xs[i]?=some x→∃ s1 s2 b,R (bind x) s () s1∧R test s1 b s2∧((b=false∧P (i+1) acc s2)∨(b=true∧∃ y s3,R elt s2 y s3∧y.low=true∧acc.length<lim∧P (i+1) (acc ++ [y]) s3))) :
  ∀ (n i:Nat) (acc:List V) (s:St),xs.length-i<n→P i acc s→i≤xs.length→∃ acc' s',R (M.compN items bind test elt n i acc) s acc' s'∧P xs.length acc' s'
 |0,i,acc,s,h,_,_=>absurd h (Nat.not_lt_zero _)
 |n+1,i,acc,s,h,hp,hi=>by
  cases q:xs[i]? with
  |none =>
   have:xs.length≤i:=List.getElem?_eq_none_iff.mp q
   have e:i=xs.length:=by exact ar326 hi this
   subst e
   exact⟨acc,s,bs (hit _ _ s hp) (by rw [q];rfl),hp⟩
  |some x =>
   have hlt:i<xs.length:=(X5.mp q).1
   refine byC fun hG=>?_
   obtain⟨s1,s2,b,h1,h2,hb⟩:=step i acc s x hp q
   refine hG ?_
   clear hG
   have glue : ∀ (acc':List V) (s':St),R (if b then (do
     let y←elt
     M.guard (y.low&&decide (acc.length<lim))
     M.compN items bind test elt n (i+1) (acc ++ [y])) else M.compN items bind test elt n (i+1) acc:M (List V)) s2 acc' s'→R (M.compN items bind test elt (n+1) i acc) s acc' s':=fun acc' s' hg=>by
    exact bs (hit _ _ s hp) (by rw [q];exact R.bind h1 (R.bind h2 hg))
   rcases hb with⟨rfl,hp2⟩|⟨rfl,y,s3,h3,hlow,hlen,hp2⟩
   ·obtain⟨acc',s',h4,h5⟩:=compN_run P hit step n (i+1) acc s2 (by exact ar327 h hlt) hp2 hlt
    exact⟨acc',s',glue _ _ h4,h5⟩
   ·obtain⟨acc',s',h4,h5⟩:=compN_run P hit step n (i+1) _ s3 (by exact ar327 h hlt) hp2 hlt
    refine⟨acc',s',glue _ _ ?_,h5⟩
    exact R.bind h3 (R.bind (.guard (by rw [hlow,decide_eq_true hlen];rfl)) h4)
end Lay
namespace Lay
noncomputable def Wp{α:Type}(m:M α)(s:St)(Q:α→St→Prop):Prop := ∃ a s',R m s a s'∧Q a s'
noncomputable abbrev Qk.bind{α β:Type}(f:α→M β)(Q:β→St→Prop):α→St→Prop:=fun a s1=>Wp (f a) s1 Q
noncomputable abbrev Qk.then{α β:Type}(m:M β)(Q:β→St→Prop):α→St→Prop:=fun _ s1=>Wp m s1 Q
noncomputable abbrev Qk.cons(v:V)(Q:List V→St→Prop):List V→St→Prop:=fun vs s2=>Q (v::vs) s2
noncomputable abbrev Qk.consM(m2:M (List V))(Q:List V→St→Prop):V→St→Prop:=fun v s1=>Wp m2 s1 (Qk.cons v Q)
noncomputable abbrev Qk.op1(g:V→M V)(Q:V→St→Prop):V→St→Prop:=fun a s1=>Wp (g a) s1 Q
noncomputable abbrev Qk.op2(g:V→V→M V)(m2:M V)(Q:V→St→Prop):V→St→Prop:=fun a s1=>Wp m2 s1 (Qk.op1 (g a) Q)
noncomputable abbrev Qk.call(g:List V→M V)(Q:V→St→Prop):List V→St→Prop:=fun vs s1=>Wp (g vs) s1 Q
noncomputable abbrev Qk.meth1(g:List V→M V)(o:V)(Q:V→St→Prop):List V→St→Prop:=fun vs s2=>Wp (g (o::vs)) s2 Q
noncomputable abbrev Qk.meth(okp:V→St→Bool)(g:List V→M V)(ma:M (List V))(Q:V→St→Prop):V→St→Prop:=fun o s1=>okp o s1=true∧Wp ma s1 (Qk.meth1 g o Q)
noncomputable abbrev Qk.two{α:Type}(m1 m2:M α)(Q:α→St→Prop):Bool→St→Prop:=fun b s1=>(b=true→Wp m1 s1 Q)∧(b=false→Wp m2 s1 Q)
noncomputable abbrev Qk.bool(Q:Bool→St→Prop):V→St→Prop:=fun v s1=>Wp (asBool v) s1 Q
noncomputable abbrev Qk.cmp1(g:V→V→M V)(a:V)(Q:Bool→St→Prop):V→St→Prop:=fun b s2=>Wp (g a b) s2 (Qk.bool Q)
noncomputable abbrev Qk.cmp(g:V→V→M V)(m2:M V)(Q:Bool→St→Prop):V→St→Prop:=fun a s1=>Wp m2 s1 (Qk.cmp1 g a Q)
noncomputable abbrev Qk.not(Q:Bool→St→Prop):Bool→St→Prop:=fun b s1=>Q (!b) s1
noncomputable abbrev Qk.and(m2:M Bool)(Q:Bool→St→Prop):Bool→St→Prop:=fun b s1=>(b=true→Wp m2 s1 Q)∧(b=false→Q false s1)
noncomputable abbrev Qk.or(m2:M Bool)(Q:Bool→St→Prop):Bool→St→Prop:=fun b s1=>(b=true→Q true s1)∧(b=false→Wp m2 s1 Q)
noncomputable abbrev Qk.seq(m2:M Fl)(Q:Fl→St→Prop):Fl→St→Prop:=fun f s1=>match f with|.next=>Wp m2 s1 Q|f=>Q f s1
noncomputable abbrev Qk.put(i:Nat)(Q:Fl→St→Prop):V→St→Prop:=fun v s1=>Q .next {s1 with loc:=upd s1.loc i (some v)}
noncomputable abbrev Qk.ret(Q:Fl→St→Prop):V→St→Prop:=fun v s1=>Q (.ret v) s1
noncomputable abbrev Qk.exp(Q:Fl→St→Prop):V→St→Prop:=fun _ s1=>Q .next s1
noncomputable abbrev Qk.u(Q:Fl→St→Prop):Unit→St→Prop:=fun _ s1=>Q .next s1
noncomputable abbrev Qk.sets(is:List Nat)(r:List V→List V)(Q:Fl→St→Prop):List V→St→Prop:=fun vs s1=>vs.length≤100∧Wp (M.sets is (r vs)) s1 (Qk.u Q)
noncomputable abbrev Qk.sub3(u v:V)(Q:Fl→St→Prop):V→St→Prop:=fun k s3=>Wp (setI v k u) s3 (Qk.u Q)
noncomputable abbrev Qk.sub2(mi:M V)(u:V)(Q:Fl→St→Prop):V→St→Prop:=fun v s2=>Wp mi s2 (Qk.sub3 u v Q)
noncomputable abbrev Qk.sub1(mo mi:M V)(Q:Fl→St→Prop):V→St→Prop:=fun u s1=>Wp mo s1 (Qk.sub2 mi u Q)
noncomputable abbrev Qk.att2(Cl:Addr)(name:Str)(u:V)(Q:Fl→St→Prop):V→St→Prop:=fun v s2=>Wp (setA Cl name v u) s2 (Qk.u Q)
noncomputable abbrev Qk.att1(Cl:Addr)(name:Str)(mo:M V)(Q:Fl→St→Prop):V→St→Prop:=fun u s1=>Wp mo s1 (Qk.att2 Cl name u Q)
noncomputable abbrev Qk.comp(c:Option Nat)(T j:Nat)(mt:M Bool)(me:M V)(Q:V→St→Prop):V→St→Prop:=fun v s1=>v.stays T=true∧Wp (M.comp c v j mt me) s1 Q
noncomputable abbrev Qk.for(B:Nat)(bind:V→M Unit)(mb:M Fl)(Q:Fl→St→Prop):V→St→Prop:=fun v s1=>v.stays B=true∧Wp (M.forS v bind mb) s1 Q
noncomputable abbrev Qk.loop(I':St→Prop)(Q:Fl→St→Prop):Fl→St→Prop:=fun f s2=>match f with|.next=>I' s2|.cont=>I' s2|.brk=>False|.ret v=>Q (.ret v) s2
noncomputable abbrev Qk.hp(s:St)(Q:V→St→Prop):V→Hp→Prop:=fun v σ'=>Q v {s with hp:=σ'}
noncomputable abbrev Qk.fn(B:Nat)(Q:V→Hp→Prop):Fl→St→Prop:=fun f s => ∃ v v',flV f=some v∧leaveV B v s.hp=some v'∧Q v' (cut B s.hp)
theorem Wp.ofR{α:Type}{m:M α}{s s':St}{a:α}{Q:α→St→Prop}(h:R m s a s')(k:Q a s'):Wp m s Q:=⟨a,s',h,k⟩
theorem Wp.mono{α:Type}{m:M α}{s:St}{Q Q':α→St→Prop}(h:Wp m s Q)(k : ∀ a s',Q a s'→Q' a s'):Wp m s Q':=by
 obtain⟨a,s',h1,h2⟩:=h;exact⟨a,s',h1,k _ _ h2⟩
theorem Wp.bind{α β:Type}{m:M α}{f:α→M β}{s:St}{Q:β→St→Prop}(h:Wp m s (Qk.bind f Q)):Wp (m>>=f) s Q:=by
 obtain⟨a,s1,h1,b,s2,h2,h3⟩:=h;exact⟨b,s2,.bind h1 h2,h3⟩
theorem Wp.pure{α:Type}{a:α}{s:St}{Q:α→St→Prop}(k:Q a s):Wp (Pure.pure a:M α) s Q:=⟨a,s,.pure,k⟩
theorem Wp.getL{i:Nat}{s:St}{v:V}{Q:V→St→Prop}(h:s.loc i=some v)(k:Q v s):Wp (M.getL i) s Q:=⟨v,s,.getL h,k⟩
theorem Wp.setL{i:Nat}{s:St}{v:V}{Q:Unit→St→Prop}(k:Q () {s with loc:=upd s.loc i (some v)}):Wp (M.setL i v) s Q:=⟨_,_,.setL,k⟩
theorem Wp.guard{b:Bool}{s:St}{Q:Unit→St→Prop}(h:b=true)(k:Q () s):Wp (M.guard b) s Q:=⟨_,_,.guard h,k⟩
theorem Wp.nil{s:St}{Q:List V→St→Prop}(k:Q [] s):Wp X.nil s Q:=⟨_,_,.nil,k⟩
theorem Wp.cons{m1:M V}{m2:M (List V)}{s:St}{Q:List V→St→Prop}(h:Wp m1 s (Qk.consM m2 Q)):Wp (X.cons m1 m2) s Q:=by
 obtain⟨v,s1,h1,vs,s2,h2,h3⟩:=h;exact⟨_,_,.cons h1 h2,h3⟩
theorem Wp.mkTup{vs:List V}{s:St}{Q:V→St→Prop}(h:vs.all V.low=true)(hl:vs.length≤lim)(k:Q (.tup vs) s):Wp (mkTup vs) s Q:=⟨_,_,.mkTup h hl,k⟩
theorem Wp.mkLst{vs:List V}{s:St}{Q:V→St→Prop}(h:vs.all V.low=true)(hl:vs.length≤lim)(k:Q (.lst vs) s):Wp (mkList none vs) s Q:=⟨_,_,.mkLst h hl,k⟩
theorem Wp.mkLstS{n:Nat}{vs:List V}{s:St}{Q:V→St→Prop}(h:vs.all V.low=true)(hl:vs.length≤lim)(hn:s.hp n=none)(k:Q (.ref n) {s with hp:=upd s.hp n (some (.list vs))}):Wp (mkList (some n) vs) s Q:=⟨_,_,.mkLstS h hl hn,k⟩
theorem Wp.new{n:Nat}{O:O}{s:St}{Q:V→St→Prop}(h:s.hp n=none)(k:Q (.ref n) {s with hp:=upd s.hp n (some O)}):Wp (M.new n O) s Q:=⟨_,_,.new h,k⟩
theorem Wp.tup{m:M (List V)}{s:St}{Q:V→St→Prop}(h:Wp m s (Qk.call Lay.mkTup Q)):Wp (X.tup m) s Q:=.bind h
theorem Wp.list{c:Option Nat}{m:M (List V)}{s:St}{Q:V→St→Prop}(h:Wp m s (Qk.call (mkList c) Q)):Wp (X.list c m) s Q:=.bind h
theorem Wp.op1{g:V→M V}{m:M V}{s:St}{Q:V→St→Prop}(h:Wp m s (Qk.op1 g Q)):Wp (X.op1 g m) s Q:=.bind h
theorem Wp.op2{g:V→V→M V}{m1 m2:M V}{s:St}{Q:V→St→Prop}(h:Wp m1 s (Qk.op2 g m2 Q)):Wp (X.op2 g m1 m2) s Q:=.bind (h.mono fun _ _=>.bind)
theorem Wp.call{g:List V→M V}{m:M (List V)}{s:St}{Q:V→St→Prop}(h:Wp m s (Qk.call g Q)):Wp (X.call g m) s Q:=.bind h
theorem Wp.meth{okp:V→St→Bool}{g:List V→M V}{mo:M V}{ma:M (List V)}{s:St}{Q:V→St→Prop}(h:Wp mo s (Qk.meth okp g ma Q)):Wp (X.meth okp g mo ma) s Q:=by
 refine byC fun hG=>?_
 obtain⟨o,s1,h1,hk,vs,s2,h2,v,s3,h3,h4⟩:=h
 refine hG ?_
 clear hG
 exact⟨v,s3,.meth h1 hk h2 h3,h4⟩
theorem Wp.ife{mt:M Bool}{m1 m2:M V}{s:St}{Q:V→St→Prop}(h:Wp mt s (Qk.two m1 m2 Q)):Wp (X.ife mt m1 m2) s Q:=by
 refine byC fun hG=>?_
 obtain⟨b,s1,h1,h2,h3⟩:=h
 refine hG ?_
 clear hG
 cases b with
 |true=>obtain⟨v,s2,h4,h5⟩:=h2 rfl;exact⟨v,s2,.ifeT h1 h4,h5⟩
 |false=>obtain⟨v,s2,h4,h5⟩:=h3 rfl;exact⟨v,s2,.ifeF h1 h4,h5⟩
theorem Wp.truth{m:M V}{s:St}{Q:Bool→St→Prop}(h:Wp m s (Qk.bool Q)):Wp (X.truth m) s Q:=.bind h
theorem Wp.asBool{b:Bool}{s:St}{Q:Bool→St→Prop}(k:Q b s):Wp (Lay.asBool (.bool b)) s Q:=⟨_,_,.pure,k⟩
theorem Wp.tcmp{g:V→V→M V}{m1 m2:M V}{s:St}{Q:Bool→St→Prop}(h:Wp m1 s (Qk.cmp g m2 Q)):Wp (X.tcmp g m1 m2) s Q:=.bind (h.mono fun _ _ h=>.bind (h.mono fun _ _=>.bind))
theorem Wp.tnot{m:M Bool}{s:St}{Q:Bool→St→Prop}(h:Wp m s (Qk.not Q)):Wp (X.tnot m) s Q:=.bind (h.mono fun b _ k=>Wp.pure (a := !b) k)
theorem Wp.and0{s:St}{Q:Bool→St→Prop}(k:Q true s):Wp X.and0 s Q:=⟨_,_,.and0,k⟩
theorem Wp.or0{s:St}{Q:Bool→St→Prop}(k:Q false s):Wp X.or0 s Q:=⟨_,_,.or0,k⟩
theorem Wp.and1{m1 m2:M Bool}{s:St}{Q:Bool→St→Prop}(h:Wp m1 s (Qk.and m2 Q)):Wp (X.and1 m1 m2) s Q:=by
 refine byC fun hG=>?_
 obtain⟨b,s1,h1,h2,h3⟩:=h
 refine hG ?_
 clear hG
 cases b with
 |true=>obtain⟨v,s2,h4,h5⟩:=h2 rfl;exact⟨v,s2,.and1T h1 h4,h5⟩
 |false=>exact⟨false,s1,.and1F h1,h3 rfl⟩
theorem Wp.or1{m1 m2:M Bool}{s:St}{Q:Bool→St→Prop}(h:Wp m1 s (Qk.or m2 Q)):Wp (X.or1 m1 m2) s Q:=by
 refine byC fun hG=>?_
 obtain⟨b,s1,h1,h2,h3⟩:=h
 refine hG ?_
 clear hG
 cases b with
 |false=>obtain⟨v,s2,h4,h5⟩:=h3 rfl;exact⟨v,s2,.or1F h1 h4,h5⟩
 |true=>exact⟨true,s1,.or1T h1,h2 rfl⟩
theorem Wp.comp{c:Option Nat}{T j:Nat}{mi:M V}{mt:M Bool}{me:M V}{s:St}{Q:V→St→Prop}(h:Wp mi s (Qk.comp c T j mt me Q)):Wp (X.comp c T j mi mt me) s Q:=.bind (h.mono fun _ _ h=>.bind (.guard h.1 h.2))
theorem Wp.dnil{s:St}{Q:List (V×V)→St→Prop}(k:Q [] s):Wp X.dnil s Q:=⟨_,_,.dnil,k⟩
theorem Wp.dcons{m1 m2:M V}{m3:M (List (V×V))}{s:St}{Q:List (V×V)→St→Prop}(h:Wp m1 s (fun a s1=>Wp m2 s1 (fun b s2=>Wp m3 s2 (fun r s3=>Q ((a,b)::r) s3)))):Wp (X.dcons m1 m2 m3) s Q:=by
 refine byC fun hG=>?_
 obtain⟨a,s1,h1,b,s2,h2,r,s3,h3,h4⟩:=h
 refine hG ?_
 clear hG
 exact⟨_,_,.dcons h1 h2 h3,h4⟩
theorem Wp.dictS{n:Nat}{m:M (List (V×V))}{s:St}{Q:V→St→Prop}(h:Wp m s (fun vs s1=>Wp (mkDict strKey .sdict n vs) s1 Q)):Wp (X.dictS n m) s Q:=.bind h
theorem Wp.sortedK{c:Option Nat}{fm:FM}{m:M V}{s:St}{Q:V→St→Prop}(h:Wp m s (fun v s1=>Wp (bSortedK c fm v) s1 Q)):Wp (X.sortedK c fm m) s Q:=.bind h
theorem Wp.end{s:St}{Q:Fl→St→Prop}(k:Q .next s):Wp Y.end s Q:=⟨_,_,.end,k⟩
theorem Wp.seq{m1 m2:M Fl}{s:St}{Q:Fl→St→Prop}(h:Wp m1 s (Qk.seq m2 Q)):Wp (M.seq m1 m2) s Q:=by
 refine byC fun hG=>?_
 obtain⟨f,s1,h1,h2⟩:=h
 refine hG ?_
 clear hG
 cases f with
 |next=>obtain⟨g,s2,h3,h4⟩:=h2;exact⟨g,s2,.seq h1 h3,h4⟩
 |ret v=>exact⟨_,_,.seqRet h1,h2⟩
 |brk=>exact⟨.brk,s1,R.bind h1 rfl,h2⟩
 |cont=>exact⟨.cont,s1,R.bind h1 rfl,h2⟩
theorem Wp.assign{i:Nat}{m:M V}{s:St}{Q:Fl→St→Prop}(h:Wp m s (Qk.put i Q)):Wp (Y.assign i m) s Q:=by
 obtain⟨v,s1,h1,h2⟩:=h;exact⟨_,_,.assign h1,h2⟩
theorem Wp.assignDisp{is:List Nat}{m:M (List V)}{s:St}{Q:Fl→St→Prop}(h:Wp m s (Qk.sets is id Q)):Wp (Y.assignDisp is m) s Q:=by
 obtain⟨vs,s1,h1,hl,_,s2,h2,h3⟩:=h;exact⟨_,_,.assignDisp h1 hl h2,h3⟩
theorem Wp.assignSwap{is:List Nat}{m:M (List V)}{s:St}{Q:Fl→St→Prop}(h:Wp m s (Qk.sets is List.reverse Q)):Wp (Y.assignSwap is m) s Q:=by
 obtain⟨vs,s1,h1,hl,_,s2,h2,h3⟩:=h;exact⟨_,_,.assignSwap h1 hl h2,h3⟩
theorem Wp.sets0{s:St}{Q:Unit→St→Prop}(k:Q () s):Wp (M.sets [] []) s Q:=⟨_,_,.sets0,k⟩
theorem Wp.sets1{i:Nat}{is:List Nat}{v:V}{vs:List V}{s:St}{Q:Unit→St→Prop}(h:Wp (M.sets is vs) {s with loc:=upd s.loc i (some v)} Q):Wp (M.sets (i::is) (v::vs)) s Q:=.bind (.setL h)
theorem Wp.assignSub{m mo mi:M V}{s:St}{Q:Fl→St→Prop}(h:Wp m s (Qk.sub1 mo mi Q)):Wp (Y.assignSub m mo mi) s Q:=by
 refine byC fun hG=>?_
 obtain⟨u,s1,h1,v,s2,h2,k,s3,h3,_,s4,h4,h5⟩:=h
 refine hG ?_
 clear hG
 exact⟨_,_,.assignSub h1 h2 h3 h4,h5⟩
theorem Wp.assignAttr{Cl:Addr}{name:Str}{m mo:M V}{s:St}{Q:Fl→St→Prop}(h:Wp m s (Qk.att1 Cl name mo Q)):Wp (Y.assignAttr Cl name m mo) s Q:=by
 refine byC fun hG=>?_
 obtain⟨u,s1,h1,v,s2,h2,_,s3,h3,h4⟩:=h
 refine hG ?_
 clear hG
 exact⟨_,_,.assignAttr h1 h2 h3,h4⟩
theorem Wp.ret{m:M V}{s:St}{Q:Fl→St→Prop}(h:Wp m s (Qk.ret Q)):Wp (Y.ret m) s Q:=by
 obtain⟨v,s1,h1,h2⟩:=h;exact⟨_,_,.ret h1,h2⟩
theorem Wp.expr{m:M V}{s:St}{Q:Fl→St→Prop}(h:Wp m s (Qk.exp Q)):Wp (Y.expr m) s Q:=by
 obtain⟨v,s1,h1,h2⟩:=h;exact⟨_,_,.expr h1,h2⟩
theorem Wp.ite{mt:M Bool}{m1 m2:M Fl}{s:St}{Q:Fl→St→Prop}(h:Wp mt s (Qk.two m1 m2 Q)):Wp (Y.ite mt m1 m2) s Q:=by
 refine byC fun hG=>?_
 obtain⟨b,s1,h1,h2,h3⟩:=h
 refine hG ?_
 clear hG
 cases b with
 |true=>obtain⟨v,s2,h4,h5⟩:=h2 rfl;exact⟨v,s2,.iteT h1 h4,h5⟩
 |false=>obtain⟨v,s2,h4,h5⟩:=h3 rfl;exact⟨v,s2,.iteF h1 h4,h5⟩
theorem Wp.for{B:Nat}{mi:M V}{bind:V→M Unit}{mb:M Fl}{s:St}{Q:Fl→St→Prop}(h:Wp mi s (Qk.for B bind mb Q)):Wp (Y.for B mi bind mb) s Q:=.bind (h.mono fun _ _ h=>.bind (.guard h.1 h.2))
theorem Wp.forS{v:V}{bind:V→M Unit}{body:M Fl}{xs:List V}{s:St}{Q:Fl→St→Prop}(I:Nat→St→Prop)(h0:I 0 s)(hit : ∀ i s,I i s→seqItems v s=some xs)
  (step : ∀ i s x,I i s→xs[i]?=some x→Wp (bind x) s (Qk.then body (Qk.loop (I (i+1)) Q)))
  (last : ∀ s,I xs.length s→Q .next s):Wp (M.forS v bind body) s Q:=by
 have hx:=hit 0 s h0
 rcases forN_ret (items:=seqItems v) (bind:=bind) (body:=body) (xs:=xs) I (fun v s=>Q (.ret v) s) hit (fun i s x hi hx=>by
  refine byC fun hG=>?_
  obtain⟨_,s1,h1,f,s2,h2,h3⟩:=step i s x hi hx
  refine hG ?_
  clear hG
  refine⟨s1,s2,f,h1,h2,?_⟩
  cases f with
  |next=>exact .inl ⟨.inl rfl,h3⟩
  |cont=>exact .inl ⟨.inr rfl,h3⟩
  |brk=>exact h3.elim
  |ret v=>exact .inr ⟨v,rfl,h3⟩) (xs.length+1) 0 s (by exact ar328) h0 (Yx _) with⟨s',h1,h2⟩|⟨v',s',h1,h2⟩
 ·exact⟨_,_,.forS hx h1,last _ h2⟩
 ·exact⟨_,_,.forS hx h1,h2⟩
theorem Wp.compM{v:V}{j:Nat}{test:M Bool}{elt:M V}{c:Option Nat}{xs:List V}{s:St}{Q:V→St→Prop}(I:Nat→List V→St→Prop)(h0:I 0 [] s)(hit : ∀ i acc s,I i acc s→seqItems v s=some xs)
  (step : ∀ i acc s x,I i acc s→xs[i]?=some x→Wp test {s with loc:=upd s.loc j (some x)} (fun b s2=>(b=false→I (i+1) acc s2)∧(b=true→Wp elt s2 (fun y s3=>y.low=true∧acc.length<lim∧I (i+1) (acc ++ [y]) s3))))
  (last : ∀ acc s,I xs.length acc s→Wp (mkList c acc) {s with loc:=upd s.loc j none} Q):Wp (M.comp c v j test elt) s Q:=by
 have hx:=hit 0 [] s h0
 obtain⟨acc',s',h1,h2⟩:=compN_run (items:=seqItems v) (bind:=fun u=>M.setL j u) (test:=test) (elt:=elt) (xs:=xs) I hit (fun i acc s x hi hx=>by
  refine byC fun hG=>?_
  obtain⟨b,s2,h1,h2,h3⟩:=step i acc s x hi hx
  refine hG ?_
  clear hG
  refine⟨_,s2,b,.setL,h1,?_⟩
  cases b with
  |false=>exact .inl ⟨rfl,h2 rfl⟩
  |true=>obtain⟨y,s3,h4,h5,h6,h7⟩:=h3 rfl;exact .inr ⟨rfl,y,s3,h4,h5,h6,h7⟩) (xs.length+1) 0 [] s (by exact ar328) h0 (Yx _)
 refine byC fun hG=>?_
 obtain⟨r,s2,h3,h4⟩:=last _ _ h2
 refine hG ?_
 clear hG
 refine⟨r,s2,R.bind (a:=acc') (s1:=s') ?_ (R.bind (a:=()) rfl h3),h4⟩
 unfold R
 show (seqItems v s).bind _=_
 rw [hx];exact h1
noncomputable def Ws(fm:FM)(vs:List V)(σ:Hp)(Q:V→Hp→Prop):Prop := ∃ v σ',fm vs σ=some (v,σ')∧Q v σ'
theorem Ws.mono{fm:FM}{vs:List V}{σ:Hp}{Q Q':V→Hp→Prop}(h:Ws fm vs σ Q)(k : ∀ v σ',Q v σ'→Q' v σ'):Ws fm vs σ Q':=by
 obtain⟨v,σ',h1,h2⟩:=h;exact⟨v,σ',h1,k _ _ h2⟩
theorem Wp.callM{fm:FM}{vs:List V}{s:St}{Q:V→St→Prop}(h:Ws fm vs s.hp (Qk.hp s Q)):Wp (Lay.callM fm vs) s Q:=by
 obtain⟨v,σ',h1,h2⟩:=h;exact⟨v,_,.callM h1,h2⟩
theorem Ws.fn{B n:Nat}{mb:M Fl}{args:List V}{σ:Hp}{Q:V→Hp→Prop}(hl:args.length=n)(h:Wp mb ⟨fun i=>args[i]?,σ⟩ (Qk.fn B Q)):Ws (runF B n mb) args σ Q:=by
 refine byC fun hG=>?_
 obtain⟨f,s,h1,v,v',h2,h3,h4⟩:=h
 refine hG ?_
 clear hG
 exact⟨v',_,run_fn hl h1 h2 h3,h4⟩
end Lay
set_option genInjectivity false
namespace Lay
namespace L03
noncomputable def m__law_mask:M Fl :=
 M.seq (Y.ret (X.ife (X.tcmp vGt (M.getL 1) (pure (.int 0))) (X.op2 vItem (M.getL 0) (M.getL 1)) (X.op2 vSub (pure (.int 255)) (X.op2 vItem (M.getL 0) (X.op1 vNeg (M.getL 1))))))
 (Y.end)
noncomputable def m_Clauses_gate_of:M Fl :=
 M.seq (Y.ret (X.op2 vItem (X.op1 (getAC 112 (Xx "gates")) (M.getL 0)) (M.getL 1)))
 (Y.end)
noncomputable def m__law_are_plain:M Fl :=
 M.seq (Y.for 660 (M.getL 0) (fun v=>M.setL 1 v) (M.seq (Y.assign 2 (X.comp none 680 5 (M.getL 1) (X.and0) (X.call bAbs (X.cons (M.getL 5) X.nil))))
 (M.seq (Y.ite (X.tcmp (vEq true) (M.getL 2) (X.sortedSet none (M.getL 2))) (M.seq (Y.ret (pure (.bool false)))
 (Y.end)) (Y.end))
 (Y.end))))
 (M.seq (Y.ret (pure (.bool true)))
 (Y.end))
noncomputable def m__law_units:M Fl :=
 M.seq (Y.assignDisp [2,3] (X.cons (X.call (bDictD 640) (X.cons (M.getL 1) X.nil)) (X.cons (pure (.bool true)) X.nil)))
 (M.seq (M.whileW (X.truth (M.getL 3)) (M.seq (Y.assign 3 (pure (.bool false)))
 (M.seq (Y.for 640 (M.getL 0) (fun v=>M.setL 4 v) (M.seq (Y.assign 5 (X.comp none 660 9 (M.getL 4) ((X.or1 (X.tcmp (vIn true) (X.call bAbs (X.cons (M.getL 9) X.nil)) (M.getL 2)) (X.or1 (X.tcmp (vEq false) (X.op2 vItem (M.getL 2) (X.call bAbs (X.cons (M.getL 9) X.nil))) (X.op2 vGt (M.getL 9) (pure (.int 0)))) X.or0))) (M.getL 9)))
 (M.seq (Y.ite (X.tcmp (vEq false) (M.getL 5) (X.list none X.nil)) (M.seq (Y.ret (pure .none))
 (Y.end)) (Y.end))
 (M.seq (Y.ite ((X.and1 (X.tcmp (vEq false) (X.call bLen (X.cons (M.getL 5) X.nil)) (pure (.int 1))) (X.and1 (X.tcmp (vIn true) (X.call bAbs (X.cons (X.op2 vItem (M.getL 5) (pure (.int 0))) X.nil)) (M.getL 2)) X.and0))) (M.seq (Y.assignSub (X.op2 vGt (X.op2 vItem (M.getL 5) (pure (.int 0))) (pure (.int 0))) (M.getL 2) (X.call bAbs (X.cons (X.op2 vItem (M.getL 5) (pure (.int 0))) X.nil)))
 (M.seq (Y.assign 3 (pure (.bool true)))
 (Y.end))) (Y.end))
 (Y.end)))))
 (Y.end))))
 (M.seq (Y.ret (M.getL 2))
 (Y.end)))
noncomputable def m_place_of:M Fl :=
 M.seq (Y.ret (X.tup (X.cons (X.call bAbs (X.cons (M.getL 0) X.nil)) (X.cons (M.getL 0) X.nil))))
 (Y.end)
noncomputable def m_clause_of:M Fl :=
 M.seq (Y.assign 1 (M.new 600 (.idict [])))
 (M.seq (Y.for 600 (M.getL 0) (fun v=>M.setL 2 v) (M.seq (Y.ite (X.tcmp (vIn false) (X.op1 vNeg (M.getL 2)) (M.getL 1)) (M.seq (Y.ret (pure .none))
 (Y.end)) (Y.end))
 (M.seq (Y.assignSub (pure (.bool true)) (M.getL 1) (M.getL 2))
 (Y.end))))
 (M.seq (Y.ret (X.call bTuple (X.cons (X.sortedK none (runF 620 1 m_place_of) (M.getL 1)) X.nil)))
 (Y.end)))
noncomputable def m__law_sip:M Fl :=
 M.seq (Y.assignSub (X.op2 (vAdd none) (X.op2 vItem (M.getL 0) (pure (.str (Xx "at")))) (pure (.int 1))) (M.getL 0) (pure (.str (Xx "at"))))
 (M.seq (Y.ite (X.tcmp vLe (X.op2 vItem (M.getL 0) (pure (.str (Xx "at")))) (X.call bLen (X.cons (X.op2 vItem (M.getL 0) (pure (.str (Xx "row")))) X.nil))) (M.seq (Y.ret (X.op2 vMod (X.op2 vItem (X.op2 vItem (M.getL 0) (pure (.str (Xx "row")))) (X.op2 vSub (X.op2 vItem (M.getL 0) (pure (.str (Xx "at")))) (pure (.int 1)))) (M.getL 1)))
 (Y.end)) (Y.end))
 (M.seq (Y.ret (X.op2 vMod (X.op2 vFloorDiv (X.op2 (vAdd none) (X.op2 (vAdd none) (X.op2 vMul (X.op2 vMul (X.op2 vItem (M.getL 0) (pure (.str (Xx "at")))) (X.op2 vItem (M.getL 0) (pure (.str (Xx "at"))))) (pure (.int 3))) (X.op2 vMul (X.op2 vItem (M.getL 0) (pure (.str (Xx "at")))) (pure (.int 7)))) (X.op2 vItem (M.getL 0) (pure (.str (Xx "all"))))) (pure (.int 2))) (M.getL 1)))
 (Y.end)))
noncomputable def m__law_signed:M Fl :=
 M.seq (Y.assign 2 (X.op2 vItem (M.getL 1) (X.op2 vSub (X.op2 vSub (X.call bLen (X.cons (M.getL 1) X.nil)) (pure (.int 1))) (X.call (callM (runF 580 2 m__law_sip)) (X.cons (M.getL 0) (X.cons (X.call bLen (X.cons (M.getL 1) X.nil)) X.nil))))))
 (M.seq (Y.ret (X.ife (X.tcmp (vEq false) (X.call (callM (runF 580 2 m__law_sip)) (X.cons (M.getL 0) (X.cons (pure (.int 2)) X.nil))) (pure (.int 0))) (M.getL 2) (X.op1 vNeg (M.getL 2))))
 (Y.end))
noncomputable def m_Circuit_init__:M Fl :=
 M.seq (Y.assignAttr 222 (Xx "kinds") (X.list (some 3) (X.cons (pure (.str (Xx ""))) (X.cons (pure (.str (Xx "true"))) X.nil))) (M.getL 0))
 (M.seq (Y.assignAttr 222 (Xx "parts_now") (X.list (some 4) (X.cons (X.tup X.nil) (X.cons (X.tup X.nil) X.nil))) (M.getL 0))
 (M.seq (Y.assignAttr 222 (Xx "known") (M.new 5 (.tdict [])) (M.getL 0))
 (Y.end)))
noncomputable def m_Circuit_size:M Fl :=
 M.seq (Y.ret (X.op2 vSub (X.call bLen (X.cons (X.op1 (getAC 222 (Xx "kinds")) (M.getL 0)) X.nil)) (pure (.int 1))))
 (Y.end)
noncomputable def m_Circuit_kind:M Fl :=
 M.seq (Y.ret (X.op2 vItem (X.op1 (getAC 222 (Xx "kinds")) (M.getL 0)) (X.call bAbs (X.cons (M.getL 1) X.nil))))
 (Y.end)
noncomputable def m_Circuit_parts:M Fl :=
 M.seq (Y.ret (X.op2 vItem (X.op1 (getAC 222 (Xx "parts_now")) (M.getL 0)) (X.call bAbs (X.cons (M.getL 1) X.nil))))
 (Y.end)
noncomputable def m_Circuit_new_gate:M Fl :=
 M.seq (Y.expr (X.meth isLst mApp (X.op1 (getAC 222 (Xx "kinds")) (M.getL 0)) (X.cons (M.getL 1) X.nil)))
 (M.seq (Y.expr (X.meth isLst mApp (X.op1 (getAC 222 (Xx "parts_now")) (M.getL 0)) (X.cons (M.getL 2) X.nil)))
 (M.seq (Y.ret (X.op2 vSub (X.call bLen (X.cons (X.op1 (getAC 222 (Xx "kinds")) (M.getL 0)) X.nil)) (pure (.int 1))))
 (Y.end)))
noncomputable def m_Circuit_new_input:M Fl :=
 M.seq (Y.ret (X.meth (instOk 222 (Xx "new_gate")) (callM (runF 480 3 m_Circuit_new_gate)) (M.getL 0) (X.cons (pure (.str (Xx "input"))) (X.cons (X.tup X.nil) X.nil))))
 (Y.end)
noncomputable def m_Circuit_all_of:M Fl :=
 M.seq (Y.assign 2 (M.new 440 (.idict [])))
 (M.seq (Y.for 440 (M.getL 1) (fun v=>M.setL 3 v) (M.seq (Y.ite ((X.or1 (X.tcmp (vEq false) (M.getL 3) (X.op1 vNeg (pure (.int 1)))) (X.or1 (X.tcmp (vIn false) (X.op1 vNeg (M.getL 3)) (M.getL 2)) X.or0))) (M.seq (Y.ret (X.op1 vNeg (pure (.int 1))))
 (Y.end)) (Y.end))
 (M.seq (Y.ite (X.tcmp (vEq true) (M.getL 3) (pure (.int 1))) (M.seq (Y.assignSub (pure (.bool true)) (M.getL 2) (M.getL 3))
 (Y.end)) (Y.end))
 (Y.end))))
 (M.seq (Y.assign 4 (X.call bTuple (X.cons (X.call (bSorted none) (X.cons (M.getL 2) X.nil)) X.nil)))
 (M.seq (Y.ite (X.tcmp vLt (X.call bLen (X.cons (M.getL 4) X.nil)) (pure (.int 2))) (M.seq (Y.ret (X.ife (X.tcmp (vEq false) (X.call bLen (X.cons (M.getL 4) X.nil)) (pure (.int 1))) (X.op2 vItem (M.getL 4) (pure (.int 0))) (pure (.int 1))))
 (Y.end)) (Y.end))
 (M.seq (Y.ite (X.tcmp (vIn true) (M.getL 4) (X.op1 (getAC 222 (Xx "known")) (M.getL 0))) (M.seq (Y.assignSub (X.meth (instOk 222 (Xx "new_gate")) (callM (runF 480 3 m_Circuit_new_gate)) (M.getL 0) (X.cons (pure (.str (Xx "and"))) (X.cons (M.getL 4) X.nil))) (X.op1 (getAC 222 (Xx "known")) (M.getL 0)) (M.getL 4))
 (Y.end)) (Y.end))
 (M.seq (Y.ret (X.op2 vItem (X.op1 (getAC 222 (Xx "known")) (M.getL 0)) (M.getL 4)))
 (Y.end))))))
noncomputable def m_Circuit_any_of:M Fl :=
 M.seq (Y.ret (X.op1 vNeg (X.meth (instOk 222 (Xx "all_of")) (callM (runF 440 2 m_Circuit_all_of)) (M.getL 0) (X.cons (X.comp none 440 2 (M.getL 1) (X.and0) (X.op1 vNeg (M.getL 2))) X.nil))))
 (Y.end)
noncomputable def m_Circuit_implies:M Fl :=
 M.seq (Y.ret (X.op1 vNeg (X.meth (instOk 222 (Xx "all_of")) (callM (runF 440 2 m_Circuit_all_of)) (M.getL 0) (X.cons (X.tup (X.cons (M.getL 1) (X.cons (X.op1 vNeg (M.getL 2)) X.nil))) X.nil))))
 (Y.end)
noncomputable def m_Circuit_iff:M Fl :=
 M.seq (Y.ret (X.meth (instOk 222 (Xx "all_of")) (callM (runF 440 2 m_Circuit_all_of)) (M.getL 0) (X.cons (X.tup (X.cons (X.meth (instOk 222 (Xx "implies")) (callM (runF 400 3 m_Circuit_implies)) (M.getL 0) (X.cons (M.getL 1) (X.cons (M.getL 2) X.nil))) (X.cons (X.meth (instOk 222 (Xx "implies")) (callM (runF 400 3 m_Circuit_implies)) (M.getL 0) (X.cons (M.getL 2) (X.cons (M.getL 1) X.nil))) X.nil))) X.nil)))
 (Y.end)
noncomputable def m_Circuit_choose:M Fl :=
 M.seq (Y.ret (X.meth (instOk 222 (Xx "all_of")) (callM (runF 440 2 m_Circuit_all_of)) (M.getL 0) (X.cons (X.tup (X.cons (X.meth (instOk 222 (Xx "implies")) (callM (runF 400 3 m_Circuit_implies)) (M.getL 0) (X.cons (M.getL 1) (X.cons (M.getL 2) X.nil))) (X.cons (X.meth (instOk 222 (Xx "implies")) (callM (runF 400 3 m_Circuit_implies)) (M.getL 0) (X.cons (X.op1 vNeg (M.getL 1)) (X.cons (M.getL 3) X.nil))) X.nil))) X.nil)))
 (Y.end)
noncomputable def m_Clauses_tell:M Fl :=
 M.seq (Y.assign 2 (X.call (callM (runF 600 1 m_clause_of)) (X.cons (M.getL 1) X.nil)))
 (M.seq (Y.ite (X.tcmp (vIsNone true) (M.getL 2) (pure .none)) (M.seq (Y.expr (X.meth isLst mApp (X.op1 (getAC 112 (Xx "clauses")) (M.getL 0)) (X.cons (M.getL 2) X.nil)))
 (Y.end)) (Y.end))
 (Y.end))
noncomputable def m_Clauses_many:M Fl :=
 M.seq (Y.ret (X.op2 vSub (X.call bLen (X.cons (X.op1 (getAC 112 (Xx "gates")) (M.getL 0)) X.nil)) (pure (.int 1))))
 (Y.end)
noncomputable def m_Clauses_number_of:M Fl :=
 M.seq (Y.ite (X.tcmp (vIn true) (M.getL 1) (X.op1 (getAC 112 (Xx "numbers")) (M.getL 0))) (M.seq (Y.assignSub (X.call bLen (X.cons (X.op1 (getAC 112 (Xx "gates")) (M.getL 0)) X.nil)) (X.op1 (getAC 112 (Xx "numbers")) (M.getL 0)) (M.getL 1))
 (M.seq (Y.expr (X.meth isLst mApp (X.op1 (getAC 112 (Xx "gates")) (M.getL 0)) (X.cons (M.getL 1) X.nil)))
 (Y.end))) (Y.end))
 (M.seq (Y.ret (X.op2 vItem (X.op1 (getAC 112 (Xx "numbers")) (M.getL 0)) (M.getL 1)))
 (Y.end))
noncomputable def m_Clauses_init__:M Fl :=
 M.seq (Y.assignAttr 112 (Xx "circuit") (M.getL 1) (M.getL 0))
 (M.seq (Y.assignAttr 112 (Xx "whole") (M.getL 2) (M.getL 0))
 (M.seq (Y.assignAttr 112 (Xx "clauses") (X.list (some 8) X.nil) (M.getL 0))
 (M.seq (Y.assignAttr 112 (Xx "gates") (X.list (some 9) (X.cons (pure (.int 0)) X.nil)) (M.getL 0))
 (M.seq (Y.assignAttr 112 (Xx "numbers") (M.new 10 (.idict [])) (M.getL 0))
 (M.seq (Y.assignAttr 112 (Xx "opened") (M.new 11 (.idict [])) (M.getL 0))
 (M.seq (Y.assignAttr 112 (Xx "waiting") (X.list (some 12) X.nil) (M.getL 0))
 (M.seq (Y.for 280 (X.call bRange (X.cons (pure (.int 2)) (X.cons (X.op2 (vAdd none) (X.meth (instOk 222 (Xx "size")) (callM (runF 540 1 m_Circuit_size)) (M.getL 1) X.nil) (pure (.int 1))) X.nil))) (fun v=>M.setL 3 v) (M.seq (Y.ite (X.tcmp (vEq false) (X.meth (instOk 222 (Xx "kind")) (callM (runF 520 2 m_Circuit_kind)) (M.getL 1) (X.cons (M.getL 3) X.nil)) (pure (.str (Xx "input")))) (M.seq (Y.expr (X.meth (instOk 112 (Xx "number_of")) (callM (runF 300 2 m_Clauses_number_of)) (M.getL 0) (X.cons (M.getL 3) X.nil)))
 (Y.end)) (Y.end))
 (Y.end)))
 (Y.end))))))))
noncomputable def m_Clauses_enter:M Fl :=
 M.seq (Y.assign 2 (X.call bAbs (X.cons (M.getL 1) X.nil)))
 (M.seq (Y.assign 3 (X.meth (instOk 112 (Xx "number_of")) (callM (runF 300 2 m_Clauses_number_of)) (M.getL 0) (X.cons (M.getL 2) X.nil)))
 (M.seq (Y.for 260 (X.ife (X.tcmp vGt (X.op1 (getAC 112 (Xx "whole")) (M.getL 0)) (pure (.int 0))) (X.tup (X.cons (M.getL 2) (X.cons (X.op1 vNeg (M.getL 2)) X.nil))) (X.tup (X.cons (M.getL 1) X.nil))) (fun v=>M.setL 4 v) (M.seq (Y.ite (X.tcmp (vIn true) (M.getL 4) (X.op1 (getAC 112 (Xx "opened")) (M.getL 0))) (M.seq (Y.assignSub (pure (.bool true)) (X.op1 (getAC 112 (Xx "opened")) (M.getL 0)) (M.getL 4))
 (M.seq (Y.expr (X.meth isLst mApp (X.op1 (getAC 112 (Xx "waiting")) (M.getL 0)) (X.cons (M.getL 4) X.nil)))
 (Y.end))) (Y.end))
 (Y.end)))
 (M.seq (Y.ret (X.ife (X.tcmp vGt (M.getL 1) (pure (.int 0))) (M.getL 3) (X.op1 vNeg (M.getL 3))))
 (Y.end))))
noncomputable def m_Clauses_open_gate:M Fl :=
 M.seq (Y.assignSwap [3,2] (X.cons (X.meth (instOk 222 (Xx "kind")) (callM (runF 520 2 m_Circuit_kind)) (X.op1 (getAC 112 (Xx "circuit")) (M.getL 0)) (X.cons (X.call bAbs (X.cons (M.getL 1) X.nil)) X.nil)) (X.cons (X.op2 vItem (X.op1 (getAC 112 (Xx "numbers")) (M.getL 0)) (X.call bAbs (X.cons (M.getL 1) X.nil))) X.nil)))
 (M.seq (Y.ite (X.tcmp (vEq false) (M.getL 2) (pure (.str (Xx "true")))) (M.seq (Y.expr (X.meth (instOk 112 (Xx "tell")) (callM (runF 340 2 m_Clauses_tell)) (M.getL 0) (X.cons (X.list none (X.cons (M.getL 3) X.nil)) X.nil)))
 (Y.end)) (M.seq (Y.ite ((X.and1 (X.tcmp (vEq false) (M.getL 2) (pure (.str (Xx "and")))) (X.and1 (X.tcmp vGt (M.getL 1) (pure (.int 0))) X.and0))) (M.seq (Y.for 240 (X.meth (instOk 222 (Xx "parts")) (callM (runF 500 2 m_Circuit_parts)) (X.op1 (getAC 112 (Xx "circuit")) (M.getL 0)) (X.cons (M.getL 1) X.nil)) (fun v=>M.setL 4 v) (M.seq (Y.expr (X.meth (instOk 112 (Xx "tell")) (callM (runF 340 2 m_Clauses_tell)) (M.getL 0) (X.cons (X.list none (X.cons (X.op1 vNeg (M.getL 3)) (X.cons (X.meth (instOk 112 (Xx "enter")) (callM (runF 260 2 m_Clauses_enter)) (M.getL 0) (X.cons (M.getL 4) X.nil)) X.nil))) X.nil)))
 (Y.end)))
 (Y.end)) (M.seq (Y.ite (X.tcmp (vEq false) (M.getL 2) (pure (.str (Xx "and")))) (M.seq (Y.expr (X.meth (instOk 112 (Xx "tell")) (callM (runF 340 2 m_Clauses_tell)) (M.getL 0) (X.cons (X.op2 (vAdd none) (X.list none (X.cons (M.getL 3) X.nil)) (X.comp none 260 6 (X.meth (instOk 222 (Xx "parts")) (callM (runF 500 2 m_Circuit_parts)) (X.op1 (getAC 112 (Xx "circuit")) (M.getL 0)) (X.cons (X.op1 vNeg (M.getL 1)) X.nil)) (X.and0) (X.meth (instOk 112 (Xx "enter")) (callM (runF 260 2 m_Clauses_enter)) (M.getL 0) (X.cons (X.op1 vNeg (M.getL 6)) X.nil)))) X.nil)))
 (Y.end)) (Y.end))
 (Y.end)))
 (Y.end)))
 (Y.end))
noncomputable def m_Clauses_flush:M Fl :=
 M.seq (M.whileW (X.tcmp vGt (X.call bLen (X.cons (X.op1 (getAC 112 (Xx "waiting")) (M.getL 0)) X.nil)) (pure (.int 0))) (M.seq (Y.expr (X.meth (instOk 112 (Xx "open_gate")) (callM (runF 240 2 m_Clauses_open_gate)) (M.getL 0) (X.cons (X.meth isLst mPop (X.op1 (getAC 112 (Xx "waiting")) (M.getL 0)) X.nil) X.nil)))
 (Y.end)))
 (Y.end)
noncomputable def m_Clauses_literal_of:M Fl :=
 M.seq (Y.assign 2 (X.meth (instOk 112 (Xx "enter")) (callM (runF 260 2 m_Clauses_enter)) (M.getL 0) (X.cons (M.getL 1) X.nil)))
 (M.seq (Y.expr (X.meth (instOk 112 (Xx "flush")) (callM (runF 220 1 m_Clauses_flush)) (M.getL 0) X.nil))
 (M.seq (Y.ret (M.getL 2))
 (Y.end)))
noncomputable def m_Clauses_add_top:M Fl :=
 M.seq (Y.assignSwap [3,2] (X.cons (X.list (some 181) (X.cons (M.getL 1) X.nil)) (X.cons (M.new 180 (.idict [])) X.nil)))
 (M.seq (M.whileW (X.tcmp vGt (X.call bLen (X.cons (M.getL 2) X.nil)) (pure (.int 0))) (M.seq (Y.assign 4 (X.meth isLst mPop (M.getL 2) X.nil))
 (M.seq (Y.ite (X.tcmp (vIn false) (M.getL 4) (M.getL 3)) (M.seq (pure .cont)
 (Y.end)) (Y.end))
 (M.seq (Y.assignSub (pure (.bool true)) (M.getL 3) (M.getL 4))
 (M.seq (Y.assign 5 (X.meth (instOk 222 (Xx "kind")) (callM (runF 520 2 m_Circuit_kind)) (X.op1 (getAC 112 (Xx "circuit")) (M.getL 0)) (X.cons (X.call bAbs (X.cons (M.getL 4) X.nil)) X.nil)))
 (M.seq (Y.ite ((X.and1 (X.tcmp (vEq false) (M.getL 5) (pure (.str (Xx "and")))) (X.and1 (X.tcmp vGt (M.getL 4) (pure (.int 0))) X.and0))) (M.seq (Y.expr (X.extRev (M.getL 2) (X.meth (instOk 222 (Xx "parts")) (callM (runF 500 2 m_Circuit_parts)) (X.op1 (getAC 112 (Xx "circuit")) (M.getL 0)) (X.cons (M.getL 4) X.nil))))
 (Y.end)) (M.seq (Y.ite (X.tcmp (vEq false) (M.getL 5) (pure (.str (Xx "and")))) (M.seq (Y.expr (X.meth (instOk 112 (Xx "tell")) (callM (runF 340 2 m_Clauses_tell)) (M.getL 0) (X.cons (X.comp none 200 9 (X.meth (instOk 222 (Xx "parts")) (callM (runF 500 2 m_Circuit_parts)) (X.op1 (getAC 112 (Xx "circuit")) (M.getL 0)) (X.cons (X.op1 vNeg (M.getL 4)) X.nil)) (X.and0) (X.meth (instOk 112 (Xx "enter")) (callM (runF 260 2 m_Clauses_enter)) (M.getL 0) (X.cons (X.op1 vNeg (M.getL 9)) X.nil))) X.nil)))
 (Y.end)) (M.seq (Y.ite (X.tcmp (vEq true) (M.getL 4) (pure (.int 1))) (M.seq (Y.expr (X.meth (instOk 112 (Xx "tell")) (callM (runF 340 2 m_Clauses_tell)) (M.getL 0) (X.cons (X.ife (X.tcmp (vEq false) (M.getL 5) (pure (.str (Xx "input")))) (X.list none (X.cons (X.meth (instOk 112 (Xx "enter")) (callM (runF 260 2 m_Clauses_enter)) (M.getL 0) (X.cons (M.getL 4) X.nil)) X.nil)) (X.list none X.nil)) X.nil)))
 (Y.end)) (Y.end))
 (Y.end)))
 (Y.end)))
 (Y.end)))))))
 (M.seq (Y.expr (X.meth (instOk 112 (Xx "flush")) (callM (runF 220 1 m_Clauses_flush)) (M.getL 0) X.nil))
 (Y.end)))
noncomputable def m__law_filled:M Fl :=
 M.seq (Y.for 170 (X.call bRange (X.cons (X.op2 (vAdd none) (X.call bLen (X.cons (M.getL 1) X.nil)) (pure (.int 1))) (X.cons (X.op2 (vAdd none) (X.meth (instOk 222 (Xx "size")) (callM (runF 540 1 m_Circuit_size)) (M.getL 0) X.nil) (pure (.int 1))) X.nil))) (fun v=>M.setL 2 v) (M.seq (Y.assignSub (pure (.int 255)) (M.getL 1) (M.getL 2))
 (M.seq (Y.for 170 (X.meth (instOk 222 (Xx "parts")) (callM (runF 500 2 m_Circuit_parts)) (M.getL 0) (X.cons (M.getL 2) X.nil)) (fun v=>M.setL 3 v) (M.seq (Y.assignSub (X.op2 vAnd (X.op2 vItem (M.getL 1) (M.getL 2)) (X.call (callM (runF 700 2 m__law_mask)) (X.cons (M.getL 1) (X.cons (M.getL 3) X.nil)))) (M.getL 1) (M.getL 2))
 (Y.end)))
 (Y.end))))
 (Y.end)
noncomputable def m__law_gate:M Fl :=
 M.seq (Y.assign 4 (X.call (callM (runF 580 2 m__law_sip)) (X.cons (M.getL 0) (X.cons (pure (.int 4)) X.nil))))
 (M.seq (Y.assign 5 (X.comp none 170 13 (X.call bRange (X.cons (X.ife (X.tcmp vLt (M.getL 4) (pure (.int 2))) (X.op2 (vAdd none) (pure (.int 3)) (X.call (callM (runF 580 2 m__law_sip)) (X.cons (M.getL 0) (X.cons (pure (.int 2)) X.nil)))) (M.getL 4)) X.nil)) (X.and0) (X.call (callM (runF 570 2 m__law_signed)) (X.cons (M.getL 0) (X.cons (M.getL 2) X.nil)))))
 (M.seq (Y.assign 7 (X.comp none 170 14 (M.getL 5) (X.and0) (X.call (callM (runF 700 2 m__law_mask)) (X.cons (M.getL 3) (X.cons (M.getL 14) X.nil)))))
 (M.seq (Y.ite (X.tcmp (vEq false) (M.getL 4) (pure (.int 0))) (M.seq (Y.assignSwap [8,6] (X.cons (X.meth (instOk 222 (Xx "all_of")) (callM (runF 440 2 m_Circuit_all_of)) (M.getL 1) (X.cons (M.getL 5) X.nil)) (X.cons (X.op2 vAnd (X.op2 vAnd (X.op2 vAnd (X.op2 vItem (M.getL 7) (pure (.int 0))) (X.op2 vItem (M.getL 7) (pure (.int 1)))) (X.op2 vItem (M.getL 7) (pure (.int 2)))) (X.op2 vItem (M.getL 7) (X.op1 vNeg (pure (.int 1))))) X.nil)))
 (Y.end)) (M.seq (Y.ite (X.tcmp (vEq false) (M.getL 4) (pure (.int 1))) (M.seq (Y.assignSwap [8,6] (X.cons (X.meth (instOk 222 (Xx "any_of")) (callM (runF 420 2 m_Circuit_any_of)) (M.getL 1) (X.cons (M.getL 5) X.nil)) (X.cons (X.op2 vOr (X.op2 vOr (X.op2 vOr (X.op2 vItem (M.getL 7) (pure (.int 0))) (X.op2 vItem (M.getL 7) (pure (.int 1)))) (X.op2 vItem (M.getL 7) (pure (.int 2)))) (X.op2 vItem (M.getL 7) (X.op1 vNeg (pure (.int 1))))) X.nil)))
 (Y.end)) (M.seq (Y.ite (X.tcmp (vEq false) (M.getL 4) (pure (.int 2))) (M.seq (Y.assignSwap [8,6] (X.cons (X.meth (instOk 222 (Xx "iff")) (callM (runF 380 3 m_Circuit_iff)) (M.getL 1) (X.cons (X.op2 vItem (M.getL 5) (pure (.int 0))) (X.cons (X.op2 vItem (M.getL 5) (pure (.int 1))) X.nil))) (X.cons (X.op2 vSub (pure (.int 255)) (X.op2 vXor (X.op2 vItem (M.getL 7) (pure (.int 0))) (X.op2 vItem (M.getL 7) (pure (.int 1))))) X.nil)))
 (Y.end)) (M.seq (Y.assignSwap [8,6] (X.cons (X.meth (instOk 222 (Xx "choose")) (callM (runF 360 4 m_Circuit_choose)) (M.getL 1) (X.cons (X.op2 vItem (M.getL 5) (pure (.int 0))) (X.cons (X.op2 vItem (M.getL 5) (pure (.int 1))) (X.cons (X.op2 vItem (M.getL 5) (pure (.int 2))) X.nil)))) (X.cons (X.op2 vOr (X.op2 vAnd (X.op2 vItem (M.getL 7) (pure (.int 0))) (X.op2 vItem (M.getL 7) (pure (.int 1)))) (X.op2 vAnd (X.op2 vSub (pure (.int 255)) (X.op2 vItem (M.getL 7) (pure (.int 0)))) (X.op2 vItem (M.getL 7) (pure (.int 2))))) X.nil)))
 (Y.end)))
 (Y.end)))
 (Y.end)))
 (M.seq (Y.expr (X.call (callM (runF 170 2 m__law_filled)) (X.cons (M.getL 1) (X.cons (M.getL 3) X.nil))))
 (M.seq (Y.expr (X.meth isLst mApp (M.getL 2) (X.cons (M.getL 6) X.nil)))
 (M.seq (Y.ret (X.op2 (vEq false) (X.call (callM (runF 700 2 m__law_mask)) (X.cons (M.getL 3) (X.cons (M.getL 6) X.nil))) (M.getL 8)))
 (Y.end)))))))
noncomputable def m__law_row_right:M Fl :=
 M.seq (Y.assign 5 (X.call (bDictI 140) (X.cons (X.comp none 160 17 (X.call bRange (X.cons (pure (.int 1)) (X.cons (X.op2 (vAdd none) (X.meth (instOk 112 (Xx "many")) (callM (runF 320 1 m_Clauses_many)) (M.getL 0) X.nil) (pure (.int 1))) X.nil))) (X.and0) (X.tup (X.cons (M.getL 17) (X.cons (X.op2 (vEq false) (X.op2 vAnd (X.op2 vRShift (X.call (callM (runF 700 2 m__law_mask)) (X.cons (M.getL 1) (X.cons (X.meth (instOk 112 (Xx "gate_of")) (callM (runF 680 2 m_Clauses_gate_of)) (M.getL 0) (X.cons (M.getL 17) X.nil)) X.nil))) (M.getL 2)) (pure (.int 1))) (pure (.int 1))) X.nil)))) X.nil)))
 (M.seq (Y.assign 7 (X.op2 (vEq false) (X.comp none 160 18 (M.getL 3) (X.tcmp (vEq false) (X.op2 vAnd (X.op2 vRShift (X.call (callM (runF 700 2 m__law_mask)) (X.cons (M.getL 1) (X.cons (M.getL 18) X.nil))) (M.getL 2)) (pure (.int 1))) (pure (.int 0))) (M.getL 18)) (X.list none X.nil)))
 (M.seq (Y.assign 8 (X.call (callM (runF 640 2 m__law_units)) (X.cons (X.op1 (getAC 112 (Xx "clauses")) (M.getL 0)) (X.cons (X.call (bDictI 141) (X.cons (X.comp none 160 19 (X.tup (X.cons (pure (.int 1)) (X.cons (pure (.int 2)) (X.cons (pure (.int 3)) X.nil)))) (X.and0) (X.tup (X.cons (M.getL 19) (X.cons (X.op2 vItem (M.getL 5) (M.getL 19)) X.nil)))) X.nil)) X.nil))))
 (M.seq (Y.ite (X.tcmp (vEq false) (X.op2 (vIsNone false) (M.getL 8) (pure .none)) (M.getL 7)) (M.seq (Y.ret (pure (.bool false)))
 (Y.end)) (Y.end))
 (M.seq (Y.ite (X.tnot (X.truth (M.getL 7))) (M.seq (Y.ret (pure (.bool true)))
 (Y.end)) (Y.end))
 (M.seq (Y.ite (X.tcmp (vEq true) (X.comp none 160 20 (X.op1 (getAC 112 (Xx "clauses")) (M.getL 0)) (X.tcmp (vEq false) (X.comp none 160 21 (M.getL 20) (X.tcmp (vEq false) (X.op2 vItem (M.getL 5) (X.call bAbs (X.cons (M.getL 21) X.nil))) (X.op2 vGt (M.getL 21) (pure (.int 0)))) (M.getL 21)) (X.list none X.nil)) (M.getL 20)) (X.list none X.nil)) (M.seq (Y.ret (pure (.bool false)))
 (Y.end)) (Y.end))
 (M.seq (Y.for 140 (M.getL 4) (M.unpack [6,9]) (M.seq (Y.assign 10 (X.op2 (vEq false) (X.op2 vAnd (X.op2 vRShift (X.call (callM (runF 700 2 m__law_mask)) (X.cons (M.getL 1) (X.cons (M.getL 6) X.nil))) (M.getL 2)) (pure (.int 1))) (pure (.int 1))))
 (M.seq (Y.assign 11 (X.ife (X.tcmp (vIn true) (X.call bAbs (X.cons (M.getL 9) X.nil)) (M.getL 8)) (pure .none) (X.op2 (vEq false) (X.op2 vItem (M.getL 8) (X.call bAbs (X.cons (M.getL 9) X.nil))) (X.op2 vGt (M.getL 9) (pure (.int 0))))))
 (M.seq (Y.ite ((X.or1 ((X.and1 (X.tcmp (vIsNone false) (M.getL 11) (pure .none)) (X.and1 ((X.or1 (X.tnot (X.truth (M.getL 10))) (X.or1 (X.tcmp (vEq false) (X.op1 (getAC 112 (Xx "whole")) (M.getL 0)) (pure (.int 1))) X.or0))) X.and0))) (X.or1 ((X.and1 (X.tcmp (vIsNone true) (M.getL 11) (pure .none)) (X.and1 (X.tcmp (vEq true) (M.getL 11) (M.getL 10)) X.and0))) X.or0))) (M.seq (Y.ret (pure (.bool false)))
 (Y.end)) (Y.end))
 (Y.end)))))
 (M.seq (Y.ret (pure (.bool true)))
 (Y.end))))))))
noncomputable def m__law_deed_right:M Fl :=
 M.seq (Y.assignSwap [6,5] (X.cons (X.op2 (vEq false) (X.call (callM (runF 580 2 m__law_sip)) (X.cons (M.getL 0) (X.cons (pure (.int 2)) X.nil))) (pure (.int 1))) (X.cons (X.op2 vItem (X.op2 (vAdd none) (X.list none (X.cons (pure (.int 1)) X.nil)) (M.getL 3)) (X.call (callM (runF 580 2 m__law_sip)) (X.cons (M.getL 0) (X.cons (X.op2 (vAdd none) (X.call bLen (X.cons (M.getL 3) X.nil)) (pure (.int 1))) X.nil)))) X.nil)))
 (M.seq (Y.assign 6 (X.ife (X.tcmp (vEq false) (X.call (callM (runF 580 2 m__law_sip)) (X.cons (M.getL 0) (X.cons (pure (.int 2)) X.nil))) (pure (.int 0))) (M.getL 6) (X.op1 vNeg (M.getL 6))))
 (M.seq (Y.assignSwap [8,7] (X.cons (X.call (bList none) (X.cons (X.op1 (getAC 112 (Xx "clauses")) (M.getL 1)) X.nil)) (X.cons (X.comp none 140 19 (X.call bRange (X.cons (pure (.int 1)) (X.cons (X.op2 (vAdd none) (X.meth (instOk 112 (Xx "many")) (callM (runF 320 1 m_Clauses_many)) (M.getL 1) X.nil) (pure (.int 1))) X.nil))) (X.and0) (X.meth (instOk 112 (Xx "gate_of")) (callM (runF 680 2 m_Clauses_gate_of)) (M.getL 1) (X.cons (M.getL 19) X.nil))) X.nil)))
 (M.seq (Y.ite (X.truth (M.getL 5)) (M.seq (Y.expr (X.meth (instOk 112 (Xx "add_top")) (callM (runF 180 2 m_Clauses_add_top)) (M.getL 1) (X.cons (M.getL 6) X.nil)))
 (M.seq (Y.expr (X.meth isLst mApp (X.op2 vItem (M.getL 4) (pure (.str (Xx "tops")))) (X.cons (M.getL 6) X.nil)))
 (Y.end))) (M.seq (Y.assign 9 (X.meth (instOk 112 (Xx "literal_of")) (callM (runF 200 2 m_Clauses_literal_of)) (M.getL 1) (X.cons (M.getL 6) X.nil)))
 (M.seq (Y.expr (X.meth isLst mApp (X.op2 vItem (M.getL 4) (pure (.str (Xx "asked")))) (X.cons (X.tup (X.cons (M.getL 6) (X.cons (M.getL 9) X.nil))) X.nil)))
 (M.seq (Y.ite ((X.or1 (X.tcmp (vEq true) (X.meth (instOk 112 (Xx "gate_of")) (callM (runF 680 2 m_Clauses_gate_of)) (M.getL 1) (X.cons (X.call bAbs (X.cons (M.getL 9) X.nil)) X.nil)) (X.call bAbs (X.cons (M.getL 6) X.nil))) (X.or1 (X.tcmp (vEq true) (X.op2 vGt (M.getL 9) (pure (.int 0))) (X.op2 vGt (M.getL 6) (pure (.int 0)))) X.or0))) (M.seq (Y.ret (pure (.bool false)))
 (Y.end)) (Y.end))
 (Y.end)))))
 (M.seq (Y.assignSwap [11,10] (X.cons (X.op2 (vFrom none) (X.op1 (getAC 112 (Xx "clauses")) (M.getL 1)) (X.call bLen (X.cons (M.getL 7) X.nil))) (X.cons (X.comp none 140 20 (X.call bRange (X.cons (pure (.int 1)) (X.cons (X.op2 (vAdd none) (X.meth (instOk 112 (Xx "many")) (callM (runF 320 1 m_Clauses_many)) (M.getL 1) X.nil) (pure (.int 1))) X.nil))) (X.and0) (X.meth (instOk 112 (Xx "gate_of")) (callM (runF 680 2 m_Clauses_gate_of)) (M.getL 1) (X.cons (M.getL 20) X.nil))) X.nil)))
 (M.seq (Y.ite ((X.or1 (X.tcmp (vEq true) (X.op2 (vUpto none) (X.op1 (getAC 112 (Xx "clauses")) (M.getL 1)) (X.call bLen (X.cons (M.getL 7) X.nil))) (M.getL 7)) (X.or1 (X.tcmp (vEq true) (X.op2 (vUpto none) (M.getL 11) (X.call bLen (X.cons (M.getL 8) X.nil))) (M.getL 8)) (X.or1 (X.tcmp (vEq true) (X.lenSet (M.getL 11)) (X.call bLen (X.cons (M.getL 11) X.nil))) X.or0)))) (M.seq (Y.ret (pure (.bool false)))
 (Y.end)) (Y.end))
 (M.seq (Y.ite (X.truth (M.getL 5)) (M.seq (Y.ret (X.bOr (X.op2 (vEq true) (X.meth (instOk 222 (Xx "kind")) (callM (runF 520 2 m_Circuit_kind)) (M.getL 2) (X.cons (M.getL 6) X.nil)) (pure (.str (Xx "and")))) (X.bOr (X.op2 (vIn false) (X.call bAbs (X.cons (M.getL 6) X.nil)) (M.getL 8)) (X.op2 (vIn true) (X.call bAbs (X.cons (M.getL 6) X.nil)) (M.getL 11)))))
 (Y.end)) (Y.end))
 (M.seq (Y.assign 12 (X.comp none 140 21 (M.getL 10) (X.tcmp vGt (X.call bLen (X.cons (M.getL 21) X.nil)) (pure (.int 1))) (M.getL 21)))
 (M.seq (Y.assignSub (X.op2 (vAdd none) (X.op2 vItem (M.getL 4) (pure (.str (Xx "told")))) (M.getL 12)) (M.getL 4) (pure (.str (Xx "told"))))
 (M.seq (Y.ret (X.bAnd (X.op2 (vEq false) (X.lenSet (X.op2 vItem (M.getL 4) (pure (.str (Xx "told"))))) (X.call bLen (X.cons (X.op2 vItem (M.getL 4) (pure (.str (Xx "told")))) X.nil))) (X.bOr (X.op2 (vEq false) (X.call bLen (X.cons (M.getL 12) X.nil)) (X.call bLen (X.cons (M.getL 10) X.nil))) (X.op2 (vIn false) (pure (.int 1)) (M.getL 11)))))
 (Y.end))))))))))
noncomputable def m_law:M Fl :=
 M.seq (Y.assign 1 (X.comp none 120 23 (X.op2 (vUpto none) (M.getL 0) (pure (.int 60))) (X.and0) (X.op2 vMod (X.call bInt (X.cons (M.getL 23) X.nil)) (pure (.int 5040)))))
 (M.seq (Y.assignDisp [2,3] (X.cons (X.dictS 100 (X.dcons (pure (.str (Xx "at"))) (pure (.int 0)) (X.dcons (pure (.str (Xx "row"))) (M.getL 1) (X.dcons (pure (.str (Xx "all"))) (X.op2 vMod (X.call bSum (X.cons (M.getL 1) X.nil)) (pure (.int 997))) X.dnil)))) (X.cons (X.call (newM 1 2 222 (runF 560 1 m_Circuit_init__)) X.nil) X.nil)))
 (M.seq (Y.assignSwap [5,4] (X.cons (X.call (callM (runF 580 2 m__law_sip)) (X.cons (M.getL 2) (X.cons (pure (.int 2)) X.nil))) (X.cons (X.dictI 101 (X.dcons (pure (.int 1)) (pure (.int 255)) X.dnil)) X.nil)))
 (M.seq (Y.assign 7 (X.comp (some 15) 120 24 (X.call bRange (X.cons (pure (.int 3)) X.nil)) (X.and0) (X.meth (instOk 222 (Xx "new_input")) (callM (runF 460 1 m_Circuit_new_input)) (M.getL 3) X.nil)))
 (M.seq (Y.forZip 100 (M.getL 7) (X.tup (X.cons (pure (.int 170)) (X.cons (pure (.int 204)) (X.cons (pure (.int 240)) X.nil)))) 8 9 (M.seq (Y.assignSub (M.getL 9) (M.getL 5) (M.getL 8))
 (Y.end)))
 (M.seq (Y.for 100 (X.call bRange (X.cons (X.op2 (vAdd none) (pure (.int 1)) (X.call (callM (runF 580 2 m__law_sip)) (X.cons (M.getL 2) (X.cons (pure (.int 3)) X.nil)))) X.nil)) (fun v=>M.setL 6 v) (M.seq (Y.ite (X.tnot (X.truth (X.call (callM (runF 160 4 m__law_gate)) (X.cons (M.getL 2) (X.cons (M.getL 3) (X.cons (M.getL 7) (X.cons (M.getL 5) X.nil))))))) (M.seq (Y.ret (pure (.bool false)))
 (Y.end)) (Y.end))
 (Y.end)))
 (M.seq (Y.assignSwap [11,10] (X.cons (X.call (newM 6 7 112 (runF 280 3 m_Clauses_init__)) (X.cons (M.getL 3) (X.cons (M.getL 4) X.nil))) (X.cons (X.dictS 103 (X.dcons (pure (.str (Xx "tops"))) (X.list (some 13) X.nil) (X.dcons (pure (.str (Xx "asked"))) (X.list (some 14) X.nil) (X.dcons (pure (.str (Xx "told"))) (X.list none X.nil) X.dnil)))) X.nil)))
 (M.seq (Y.for 100 (X.call bRange (X.cons (X.op2 (vAdd none) (pure (.int 3)) (X.call (callM (runF 580 2 m__law_sip)) (X.cons (M.getL 2) (X.cons (pure (.int 2)) X.nil)))) X.nil)) (fun v=>M.setL 6 v) (M.seq (Y.ite ((X.and1 (X.tcmp (vEq false) (M.getL 6) (pure (.int 2))) (X.and1 (X.tnot (X.truth (X.call (callM (runF 160 4 m__law_gate)) (X.cons (M.getL 2) (X.cons (M.getL 3) (X.cons (M.getL 7) (X.cons (M.getL 5) X.nil))))))) X.and0))) (M.seq (Y.ret (pure (.bool false)))
 (Y.end)) (Y.end))
 (M.seq (Y.ite ((X.or1 (X.tnot (X.truth (X.call (callM (runF 120 5 m__law_deed_right)) (X.cons (M.getL 2) (X.cons (M.getL 10) (X.cons (M.getL 3) (X.cons (M.getL 7) (X.cons (M.getL 11) X.nil)))))))) (X.or1 (X.tnot (X.truth (X.call (callM (runF 660 1 m__law_are_plain)) (X.cons (X.op1 (getAC 112 (Xx "clauses")) (M.getL 10)) X.nil)))) X.or0))) (M.seq (Y.ret (pure (.bool false)))
 (Y.end)) (Y.end))
 (M.seq (Y.for 100 (X.call bRange (X.cons (pure (.int 8)) X.nil)) (fun v=>M.setL 12 v) (M.seq (Y.ite (X.tnot (X.truth (X.call (callM (runF 140 5 m__law_row_right)) (X.cons (M.getL 10) (X.cons (M.getL 5) (X.cons (M.getL 12) (X.cons (X.op2 vItem (M.getL 11) (pure (.str (Xx "tops")))) (X.cons (X.op2 vItem (M.getL 11) (pure (.str (Xx "asked")))) X.nil)))))))) (M.seq (Y.ret (pure (.bool false)))
 (Y.end)) (Y.end))
 (Y.end)))
 (Y.end)))))
 (M.seq (Y.ret (pure (.bool true)))
 (Y.end)))))))))
end L03
end Lay
namespace Lay
theorem nle(m n:Nat)(h:m.ble n=true):m≤n:=Nat.le_of_ble_eq_true h
theorem nlt(m n:Nat)(h:(m+1).ble n=true):m<n:=Nat.le_of_ble_eq_true h
theorem un_int{i:Int}:un V.int (.int i)=some i:=un_self fun _ _ e=>V.int.inj e
theorem un_str{i:Str}:un V.str (.str i)=some i:=un_self fun _ _ e=>V.str.inj e
theorem un_tup{i:List V}:un V.tup (.tup i)=some i:=un_self fun _ _ e=>V.tup.inj e
theorem un_lst{i:List V}:un V.lst (.lst i)=some i:=un_self fun _ _ e=>V.lst.inj e
theorem un_dct{i:List (Int×V)}:un V.dct (.dct i)=some i:=un_self fun _ _ e=>V.dct.inj e
theorem oL{xs ys:List V}(e:O.list xs=O.list ys):xs=ys:=O.list.inj e
theorem oI{xs ys:List (Int×V)}(e:O.idict xs=O.idict ys):xs=ys:=O.idict.inj e
theorem oS{xs ys:List (Str×V)}(e:O.sdict xs=O.sdict ys):xs=ys:=O.sdict.inj e
theorem oT{xs ys:List (List Int×V)}(e:O.tdict xs=O.tdict ys):xs=ys:=O.tdict.inj e
theorem lst_at{v:List V}{s:St}:lView (.lst v) s=some v:=ors un_lst
theorem ref_at{n:Nat}{xs:List V}{s:St}(h:s.hp n=some (.list xs)):lView (.ref n) s=some xs:=orn (un_none fun _=>V.noConfusion) (slot_self (fun _ _=>oL) h)
theorem Y3{n:Nat}{xs:List (Int×V)}{s:St}(h:s.hp n=some (.idict xs)):dView (.ref n) s=some xs:=orn (un_none fun _=>V.noConfusion) (slot_self (fun _ _=>oI) h)
theorem dct_at{xs:List (Int×V)}{s:St}:dView (.dct xs) s=some xs:=ors un_dct
theorem sdict_at{n:Nat}{xs:List (Str×V)}{s:St}(h:s.hp n=some (.sdict xs)):sView (.ref n) s=some xs:=slot_self (fun _ _=>oS) h
theorem tdict_at'{n:Nat}{xs:List (List Int×V)}{s:St}(h:s.hp n=some (.tdict xs)):tView (.ref n) s=some xs:=slot_self (fun _ _=>oT) h
theorem slot_none{α:Type}{mk:α→O}{n:Nat}{s:St}{o:O}(h:s.hp n=some o)(k : ∀ a,o≠mk a):((un V.ref (.ref n)).bind s.hp).bind (un mk)=none:=by
 rw [un_ref]
 show (s.hp n).bind _=_
 rw [h];exact un_none k
theorem slot_val{α:Type}{mk:α→O}{v:V}{s:St}(h : ∀ n,v≠ .ref n):((un V.ref v).bind s.hp).bind (un mk)=none:=by
 rw [un_none h];rfl
theorem dict_only{v:V}{kvs:List (Int×V)}{s:St}(h:dView v s=some kvs):(un V.tup v)=none∧lView v s=none:=by
 rcases oro h with h|h
 ·rw [Zk h];exact⟨un_none fun _=>V.noConfusion,orn (un_none fun _=>V.noConfusion) (slot_val fun _=>V.noConfusion)⟩
 ·obtain⟨n,rfl,q⟩:=slot_some h;exact⟨un_none fun _=>V.noConfusion,orn (un_none fun _=>V.noConfusion) (slot_none q fun _=>O.noConfusion)⟩
section
variable{s:St}{Q:V→St→Prop}{a b:Int}
theorem on_ints{g:Int→Int→M V}:onInts g (.int a) (.int b) s=g a b s:=bs un_int (bs un_int rfl)
theorem W.add{c:Option Nat}(k:Q (.int (a+b)) s):Wp (vAdd c (.int a) (.int b)) s Q:=⟨_,_,ors (bs un_int (bs un_int rfl)),k⟩
theorem W.sub(k:Q (.int (a-b)) s):Wp (vSub (.int a) (.int b)) s Q:=⟨_,_,on_ints,k⟩
theorem W.mul(h:a.natAbs<2^63∨b.natAbs<2^63)(k:Q (.int (a*b)) s):Wp (vMul (.int a) (.int b)) s Q:=⟨_,_,on_ints.trans (R.bind (a:=()) (R.guard (by simpa using h)) R.pure),k⟩
theorem W.mod(h:0<b)(k:Q (.int (a%b)) s):Wp (vMod (.int a) (.int b)) s Q:=⟨_,_,on_ints.trans (R.bind (a:=()) (R.guard (decide_eq_true (Int.ne_of_gt h))) R.pure),by rw [Int.fmod_eq_emod_of_nonneg _ (Int.le_of_lt h)];exact k⟩
theorem W.fdiv2(k:Q (.int (a/2)) s):Wp (vFloorDiv (.int a) (.int 2)) s Q:=⟨_,_,on_ints.trans (R.bind (a:=()) (R.guard rfl) R.pure),by rw [Int.fdiv_eq_ediv_of_nonneg _ (by decide)];exact k⟩
theorem W.band(k:Q (.int (Builtin.bitAnd a b)) s):Wp (vAnd (.int a) (.int b)) s Q:=⟨_,_,on_ints,k⟩
theorem W.bor(k:Q (.int (Builtin.bitOr a b)) s):Wp (vOr (.int a) (.int b)) s Q:=⟨_,_,on_ints,k⟩
theorem W.bxor(k:Q (.int (Builtin.bitXor a b)) s):Wp (vXor (.int a) (.int b)) s Q:=⟨_,_,on_ints,k⟩
theorem W.rsh(h:0≤b)(k:Q (.int (a.fdiv (2^b.toNat))) s):Wp (vRShift (.int a) (.int b)) s Q:=⟨_,_,on_ints.trans (R.bind (a:=()) (R.guard (decide_eq_true h)) R.pure),k⟩
theorem W.lt(k:Q (.bool (decide (a<b))) s):Wp (vLt (.int a) (.int b)) s Q:=⟨_,_,on_ints,k⟩
theorem W.le(k:Q (.bool (decide (a≤b))) s):Wp (vLe (.int a) (.int b)) s Q:=⟨_,_,on_ints,k⟩
theorem W.gt(k:Q (.bool (decide (b<a))) s):Wp (vGt (.int a) (.int b)) s Q:=⟨_,_,on_ints,k⟩
theorem W.neg(k:Q (.int (-a)) s):Wp (vNeg (.int a)) s Q:=⟨_,_,bs un_int rfl,k⟩
theorem one_run{g:V→M V}{v:V}(h:Wp (g v) s Q):Wp (one g [v]) s Q:=by
 obtain⟨u,s',h1,h2⟩:=h
 exact⟨u,s',bs un_one h1,h2⟩
theorem W.abs(k:Q (.int a.natAbs) s):Wp (bAbs [.int a]) s Q:=one_run ⟨_,_,bs un_int rfl,by
 have:(if a<0 then -a else a)=(a.natAbs:Int):=by
  by_cases h:a<0
  ·rw [if_pos h,Int.ofNat_natAbs_of_nonpos (Int.le_of_lt h)]
  ·rw [if_neg h,Int.natAbs_of_nonneg (Int.not_lt.mp h)]
 rw [this];exact k⟩
theorem W.int(k:Q (.int a) s):Wp (bInt [.int a]) s Q:=one_run ⟨_,_,bs un_int rfl,k⟩
theorem W.sum{v:V}{l:List Int}(h:lView v s=some (l.map .int))(k:Q (.int l.sum) s):Wp (bSum [v]) s Q:=one_run ⟨_,_,bs h (bs (ints_map l) rfl),k⟩
theorem W.len{v:V}{n:Nat}(h:lenOf v s=some n)(hl:n≤lim)(k:Q (.int n) s):Wp (bLen [v]) s Q:=one_run ⟨_,_,bs h (if_pos hl),k⟩
theorem W.range1(k:Q (.rng 0 b 1) s):Wp (bRange [.int b]) s Q:=⟨_,_,by
 unfold R bRange
 rw [show un (fun n:Int => [V.int n]) [.int b]=some b from un_self (f:=fun n:Int => [V.int n]) fun _ _ e=>V.int.inj (List.cons.inj e).1];rfl,k⟩
theorem W.range2(k:Q (.rng a b 1) s):Wp (bRange [.int a,.int b]) s Q:=⟨_,_,by
 unfold R bRange
 rw [un_none fun _ h=>List.noConfusion rfl (heq_of_eq (List.cons.inj h).2),show un (fun p:Int×Int => [V.int p.1,V.int p.2]) [.int a,.int b]=some (a,b) from un_self (f:=fun p:Int×Int => [V.int p.1,V.int p.2]) (a:=(a,b)) fun _ _ e=>Prod.ext (V.int.inj (List.cons.inj e).1) (V.int.inj (List.cons.inj (List.cons.inj e).2).1)];rfl,k⟩
theorem len_tup{xs:List V}:lenOf (.tup xs) s=some xs.length:=ors (bs un_tup rfl)
theorem len_lst{v:V}{xs:List V}(h:lView v s=some xs):lenOf v s=some xs.length:=by
 rcases oro h with q|q
 ·rw [Zk q] at h ⊢;exact orn (bn (un_none fun _=>V.noConfusion)) (ors (bs h rfl))
 ·obtain⟨n,rfl,_⟩:=slot_some q;exact orn (bn (un_none fun _=>V.noConfusion)) (ors (bs h rfl))
theorem len_dct{v:V}{kvs:List (Int×V)}(h:dView v s=some kvs):lenOf v s=some kvs.length:=orn (bn (dict_only h).1) (orn (bn (dict_only h).2) (bs h rfl))
end
theorem lmLe{α β:Type}{f:α→β}{l:List α}{n:Nat}(h:l.length≤n):(l.map f).length≤n:=by rw [X4];exact h
theorem lmLt{α β:Type}{f:α→β}{l:List α}{n:Nat}(h:l.length<n):(l.map f).length<n:=by rw [X4];exact h
theorem len_lm{α:Type}{f:α→V}{l:List α}{s:St}:lenOf (.lst (l.map f)) s=some l.length:=by rw [len_lst lst_at,X4]
theorem len_rm{α:Type}{f:α→V}{l:List α}{s:St}{n:Nat}(h:s.hp n=some (.list (l.map f))):lenOf (.ref n) s=some l.length:=by rw [len_lst (ref_at h),X4]
end Lay
namespace Lay
section
variable{s:St}{Q:V→St→Prop}{a b:Int}
theorem idx_nat{k:Int}{n:Nat}(h0:0≤k)(h1:k<n):seqIndex? k n=some k.toNat:=by
 unfold seqIndex?
 have : ¬ k<0:=by exact(Int.not_lt.mpr h0)
 simp only [this,if_false]
 rw [if_pos (by simp;exact⟨h0,h1⟩)]
theorem seqIx_nat{xs:List V}{k:Int}{u:V}(h0:0≤k)(hk:k<2^40)(hu:xs[k.toNat]?=some u):seqIx k xs s=some (u,s) :=
 have hlt:=(X5.mp hu).1
 (if_pos ⟨by lia,by lia⟩).trans (bs (idx_nat h0 (by lia)) (bs hu rfl))
theorem seqIx_last{xs:List V}{u:V}(hl:xs.length<2^40)(hu:xs.getLast?=some u):seqIx (-1) xs s=some (u,s):=by
 have h0:0<xs.length:=by cases xs with|nil=>cases hu|cons _ _=>exact Nat.succ_pos _
 rw [List.getLast?_eq_getElem?] at hu
 refine(if_pos (by decide)).trans (bs (a:=xs.length-1) ?_ (bs hu rfl))
 unfold seqIndex?
 simp only [show (-1:Int)<0 from by decide,if_true]
 rw [if_pos (by simp;lia)]
 rw [Int.add_comm];exact congrArg some (Int.toNat_sub xs.length 1)
theorem W.itemT{xs:List V}{k:Int}{u:V}(h0:0≤k)(hk:k<2^40)(hu:xs[k.toNat]?=some u)(q:Q u s):Wp (vItem (.tup xs) (.int k)) s Q :=
 ⟨_,_,ors (bs un_int (ors (bs un_tup (seqIx_nat h0 hk hu)))),q⟩
theorem W.itemL{v:V}{xs:List V}{k:Int}{u:V}(hv:lView v s=some xs)(h0:0≤k)(hk:k<2^40)(hu:xs[k.toNat]?=some u)(q:Q u s):Wp (vItem v (.int k)) s Q:=by
 have e:un V.tup v=none:=by
  rcases oro hv with h|h
  ·rw [Zk h];exact un_none fun _=>V.noConfusion
  ·obtain⟨n,rfl,_⟩:=slot_some h;exact un_none fun _=>V.noConfusion
 exact⟨_,_,ors (bs un_int (orn (bn e) (ors (bs hv (seqIx_nat h0 hk hu))))),q⟩
theorem W.last{xs:List V}{u:V}(hl:xs.length<2^40)(hu:xs.getLast?=some u)(q:Q u s):Wp (vItem (.lst xs) (.int (-1))) s Q :=
 ⟨_,_,ors (bs un_int (orn (bn (un_none fun _=>V.noConfusion)) (ors (bs lst_at (seqIx_last hl hu))))),q⟩
theorem W.itemD{v:V}{kvs:List (Int×V)}{k:Int}{u:V}(h:dView v s=some kvs)(hu:kvGet kvs k=some u)(q:Q u s):Wp (vItem v (.int k)) s Q :=
 ⟨_,_,ors (bs un_int (orn (bn (dict_only h).1) (orn (bn (dict_only h).2) (bs h (bs hu rfl))))),q⟩
theorem W.itemS{n:Nat}{kvs:List (Str×V)}{x:Str}{u:V}(h:s.hp n=some (.sdict kvs))(hu:kvGet kvs x=some u)(q:Q u s):Wp (vItem (.ref n) (.str x)) s Q :=
 ⟨_,_,orn (bn (un_none fun _=>V.noConfusion)) (ors (bs un_str (bs (sdict_at h) (bs hu rfl)))),q⟩
theorem W.itemK{n:Nat}{kvs:List (List Int×V)}{l:List Int}{u:V}(h:s.hp n=some (.tdict kvs))(hu:kvGet kvs l=some u)(q:Q u s):Wp (vItem (.ref n) (tupI l)) s Q :=
 ⟨_,_,orn (bn (un_none fun _=>V.noConfusion)) (orn (bn (un_none fun _=>V.noConfusion)) (bs un_tup (bs (tdict_at' h) (bs (ints_map l) (bs hu rfl))))),q⟩
theorem put_run{K:Type} [DecidableEq K]{mk:List (K×V)→O}(i : ∀ x y,mk x=mk y→x=y){n:Nat}{k:K}{u:V}{kvs:List (K×V)}(h:s.hp n=some (mk kvs))(hl:kvs.length<lim):putK mk n k u s=some ((),{s with hp:=upd s.hp n (some (mk (kvSet kvs k u)))}) :=
 bs (bs h (un_self i)) (if_pos hl)
theorem W.setD{n:Nat}{kvs:List (Int×V)}{x:Int}{u:V}{Q:Unit→St→Prop}(h:s.hp n=some (.idict kvs))(hu:u.low=true)(hl:kvs.length<lim)(k:Q () {s with hp:=upd s.hp n (some (.idict (kvSet kvs x u)))}):Wp (setI (.ref n) (.int x) u) s Q :=
 ⟨_,_,bs un_ref ((if_pos hu).trans (ors (bs un_int (put_run (fun _ _=>oI) h hl)))),k⟩
theorem W.setS{n:Nat}{kvs:List (Str×V)}{x:Str}{u:V}{Q:Unit→St→Prop}(h:s.hp n=some (.sdict kvs))(hu:u.low=true)(hl:kvs.length<lim)(k:Q () {s with hp:=upd s.hp n (some (.sdict (kvSet kvs x u)))}):Wp (setI (.ref n) (.str x) u) s Q :=
 ⟨_,_,bs un_ref ((if_pos hu).trans (orn (bn (un_none fun _=>V.noConfusion)) (ors (bs un_str (put_run (fun _ _=>oS) h hl))))),k⟩
theorem W.setT{n:Nat}{kvs:List (List Int×V)}{x:List Int}{u:V}{Q:Unit→St→Prop}(h:s.hp n=some (.tdict kvs))(hu:u.low=true)(hl:kvs.length<lim)(k:Q () {s with hp:=upd s.hp n (some (.tdict (kvSet kvs x u)))}):Wp (setI (.ref n) (tupI x) u) s Q :=
 ⟨_,_,bs un_ref ((if_pos hu).trans (orn (bn (un_none fun _=>V.noConfusion)) (orn (bn (un_none fun _=>V.noConfusion)) (bs un_tup (bs (ints_map x) (put_run (fun _ _=>oT) h hl)))))),k⟩
theorem W.inD{neg:Bool}{c:V}{x:Int}{kvs:List (Int×V)}(h:dView c s=some kvs)(k:Q (.bool ((kvGet kvs x).isSome^^neg)) s):Wp (vIn neg (.int x) c) s Q :=
 ⟨_,_,ors (bs un_int (bs h rfl)),k⟩
theorem W.inT{neg:Bool}{n:Nat}{l:List Int}{kvs:List (List Int×V)}(h:s.hp n=some (.tdict kvs))(k:Q (.bool ((kvGet kvs l).isSome^^neg)) s):Wp (vIn neg (tupI l) (.ref n)) s Q :=
 ⟨_,_,orn (bn (un_none fun _=>V.noConfusion)) (ors (bs un_tup (bs (ints_map l) (bs un_ref (bs (bs h (un_self fun _ _=>oT)) rfl))))),k⟩
theorem pys_ints(L:List Int):V.pys (L.map .int)=some (L.map .int):=by
 induction L with
 |nil=>rfl
 |cons x r ih=>change (V.py (.int x)).bind (fun d=>(V.pys (r.map .int)).bind fun ds=>some (d::ds))=_;rw [ih];rfl
theorem any_ints(L:List Int)(x:Int):((L.map PyData.int).any fun y=>PyData.eqv y (.int x))=decide (x∈L):=by
 induction L with
 |nil=>rfl
 |cons y r ih =>
  rw [Xb,List.any_cons,ih]
  simp only [PyData.eqv,Xd]
  by_cases h:y=x
  ·subst h;simp
  ·have : ¬ x=y:=fun e=>h e.symm
   simp [h,this]
theorem eqv_ints(a:List Int) : ∀ b,PyData.eqvAll (a.map PyData.int) (b.map PyData.int)=decide (a=b):=by
 induction a with
 |nil=>intro b;cases b<;>rfl
 |cons x a ih =>
  intro b
  cases b with
  |nil=>rfl
  |cons y b=>simp only [Xb,PyData.eqvAll,PyData.eqv,ih b];by_cases h:x=y<;>simp [h]
theorem data_val{v:V}(h : ∀ n,v≠ .ref n):dataOf v s=v.py:=by
 unfold dataOf;rw [slot_val h];rfl
theorem data_ints(L:List Int):dataOf (.lst (L.map .int)) s=some (.list (L.map .int)):=(data_val fun _=>V.noConfusion).trans (congrArg (Option.map PyData.list) (pys_ints L))
theorem W.inL{neg:Bool}{x:Int}{L:List Int}(k:Q (.bool (decide (x∈L)^^neg)) s):Wp (vIn neg (.int x) (.lst (L.map .int))) s Q :=
 ⟨_,_,orn ((bs un_int (bn (orn (un_none fun _=>V.noConfusion) (slot_val fun _=>V.noConfusion))))) (orn (bn (un_none fun _=>V.noConfusion)) (bs (data_val fun _=>V.noConfusion) (bs (data_ints L) (bs (un_self fun _ _=>PyData.list.inj) ((if_pos (by rw [ke_shaped_ints];rfl)).trans (by rw [any_ints])))))),k⟩
theorem W.eqv{neg:Bool}{u v:V}{d e:PyData}(h1:dataOf u s=some d)(h2:dataOf v s=some e)(hd:SeqAt.shaped d=true)(he:SeqAt.shaped e=true)(k:Q (.bool (PyData.eqv d e^^neg)) s):Wp (vEq neg u v) s Q :=
 ⟨_,_,bs h1 (bs h2 (if_pos (by rw [hd,he];rfl))),k⟩
theorem W.eqI{neg:Bool}(k:Q (.bool (decide (a=b)^^neg)) s):Wp (vEq neg (.int a) (.int b)) s Q:=W.eqv (data_val fun _=>V.noConfusion) (data_val fun _=>V.noConfusion) rfl rfl k
theorem W.eqL{neg:Bool}{x y:List Int}(k:Q (.bool (decide (x=y)^^neg)) s):Wp (vEq neg (.lst (x.map .int)) (.lst (y.map .int))) s Q :=
 W.eqv (data_ints x) (data_ints y) (ke_shaped_ints x) (ke_shaped_ints y) (by rw [show PyData.eqv (.list (x.map .int)) (.list (y.map .int))=_ from eqv_ints x y];exact k)
end
end Lay
namespace Lay
section
variable{s:St}{Q:V→St→Prop}{a b:Int}
theorem W.eqB{neg x y:Bool}(k:Q (.bool ((x==y)^^neg)) s):Wp (vEq neg (.bool x) (.bool y)) s Q:=by
 refine W.eqv (data_val fun _=>V.noConfusion) (data_val fun _=>V.noConfusion) rfl rfl ?_
 simpa only [PyData.eqv] using k
theorem W.eqS{neg:Bool}{x y:Str}(hx:SeqAt.shaped (.str x)=true)(hy:SeqAt.shaped (.str y)=true)(k:Q (.bool ((x==y)^^neg)) s):Wp (vEq neg (.str x) (.str y)) s Q:=by
 refine W.eqv (data_val fun _=>V.noConfusion) (data_val fun _=>V.noConfusion) hx hy ?_
 simpa only [PyData.eqv] using k
theorem pys_tups(RS:List (List Int)):V.pys (RS.map tupI)=some (RS.map fun r=>PyData.tuple (r.map PyData.int)):=by
 induction RS with
 |nil=>rfl
 |cons x r ih=>rw [Xb];unfold V.pys;rw [ih,show V.py (tupI x)=some (.tuple (x.map .int)) from by unfold tupI V.py;rw [pys_ints];rfl];rfl
theorem lay_tups(RS:List (List Int)):PyData.canLayAll0 (RS.map fun r=>PyData.tuple (r.map PyData.int))=true∧PyData.depthAll (RS.map fun r=>PyData.tuple (r.map PyData.int))≤1:=by
 induction RS with
 |nil=>exact⟨rfl,Yx _⟩
 |cons r rs ih =>
  simp only [Xb,PyData.canLayAll0,PyData.depthAll,PyData.canLay0,PyData.depth,ke_canLayAll0,ke_depthAll]
  exact⟨by rw [ih.1];rfl,by lia⟩
theorem shaped_tups(RS:List (List Int)):SeqAt.shaped (.list (RS.map fun r=>PyData.tuple (r.map PyData.int)))=true:=by
 obtain⟨h1,h2⟩:=lay_tups RS
 simp only [SeqAt.shaped,PyData.canLay0,PyData.depth,h1,Bool.true_and]
 exact decide_eq_true (by lia)
theorem eqv_tups(x:List (List Int)) : ∀ y,PyData.eqvAll (x.map fun r=>PyData.tuple (r.map PyData.int)) (y.map fun r=>PyData.tuple (r.map PyData.int))=decide (x=y):=by
 induction x with
 |nil=>intro y;cases y<;>rfl
 |cons a r ih =>
  intro y
  cases y with
  |nil=>rfl
  |cons b q=>simp only [Xb,PyData.eqvAll,PyData.eqv,ih q,eqv_ints];by_cases h:a=b<;>simp [h]
theorem data_tups(L:List (List Int)):dataOf (.lst (L.map tupI)) s=some (.list (L.map fun r=>PyData.tuple (r.map PyData.int))):=(data_val fun _=>V.noConfusion).trans (by unfold V.py;rw [pys_tups];rfl)
theorem W.eqTs{neg:Bool}{x y:List (List Int)}(k:Q (.bool (decide (x=y)^^neg)) s):Wp (vEq neg (.lst (x.map tupI)) (.lst (y.map tupI))) s Q :=
 W.eqv (data_tups x) (data_tups y) (shaped_tups x) (shaped_tups y) (by rw [show PyData.eqv (.list _) (.list _)=_ from eqv_tups x y];exact k)
theorem W.isNone{neg:Bool}{v:V}(h:v.isVal=false)(k:Q (.bool (v.isNone^^neg)) s):Wp (vIsNone neg v .none) s Q:=by
 refine⟨_,_,?_,k⟩
 unfold R vIsNone
 rw [h];rfl
theorem Yd(L:List Int):(L.map V.int).all V.low=true:=by
 induction L with
 |nil=>rfl
 |cons _ _ ih=>exact ih
theorem tups_low(L:List (List Int)):(L.map tupI).all V.low=true:=by
 induction L with
 |nil=>rfl
 |cons _ _ ih=>exact ih
theorem W.addL{v u:V}{x y:List V}(hi:un V.int v=none)(h1:lView v s=some x)(h2:lView u s=some y)(hl:(x++y).all V.low=true)(hn:(x++y).length≤lim)(k:Q (.lst (x++y)) s):Wp (vAdd none v u) s Q :=
 ⟨_,_,orn (bn hi) (bs h1 (bs h2 (R.mkLst hl hn))),k⟩
theorem W.tuple{v:V}{x:List V}(h1:lView v s=some x)(hl:x.all V.low=true)(hn:x.length≤lim)(k:Q (.tup x) s):Wp (bTuple [v]) s Q:=one_run ⟨_,_,bs h1 (R.mkTup hl hn),k⟩
theorem W.sorted{v:V}{L:List Int}(h1:collItems v s=some (L.map .int))(hn:L.length<64)(k:Q (.lst ((sortI L).map .int)) s):Wp (bSorted none [v]) s Q :=
 one_run ⟨_,_,bs h1 (bs (ints_map L) ((if_pos hn).trans (R.mkLst (Yd _) (by rw [X4,(sortI_perm L).length_eq];exact Ys (Yw hn) (by decide))))),k⟩
theorem coll_lst{v:V}{xs:List V}(ht:un V.tup v=none)(h:lView v s=some xs):collItems v s=some xs:=orn ht (ors h)
theorem coll_dict{v:V}{kvs:List (Int×V)}(h:dView v s=some kvs):collItems v s=some ((kvs.map (·.1)).map .int):=by
 refine orn (dict_only h).1 (orn (dict_only h).2 (ors (bs h ?_)))
 rw [List.map_map];rfl
theorem W.list{v:V}{xs:List V}(h:collItems v s=some xs)(hl:xs.all V.low=true)(hn:xs.length≤lim)(k:Q (.lst xs) s):Wp (bList none [v]) s Q:=one_run ⟨_,_,bs h (R.mkLst hl hn),k⟩
theorem W.upto{v:V}{x:List V}{k:Int}(h:lView v s=some x)(hk:0≤k)(hl:x.length≤lim)(hw:x.all V.low=true)(q:Q (.lst (x.take k.toNat)) s):Wp (vUpto none v (.int k)) s Q :=
 ⟨_,_,bs h (bs un_int ((if_pos ⟨hk,hl⟩).trans (R.mkLst (List.all_eq_true.mpr fun u hu=>List.all_eq_true.mp hw u (List.mem_of_mem_take hu)) (Ys (List.length_take_le' _ _) hl)))),q⟩
theorem W.from{v:V}{x:List V}{k:Int}(h:lView v s=some x)(hk:0≤k)(hl:x.length≤lim)(hw:x.all V.low=true)(q:Q (.lst (x.drop k.toNat)) s):Wp (vFrom none v (.int k)) s Q :=
 ⟨_,_,bs h (bs un_int ((if_pos ⟨hk,hl⟩).trans (R.mkLst (List.all_eq_true.mpr fun u hu=>List.all_eq_true.mp hw u (List.mem_of_mem_drop hu)) (by rw [List.length_drop];lia)))),q⟩
theorem isLst_ref{n:Nat}{xs:List V}(h:s.hp n=some (.list xs)):isLst (.ref n) s=true:=by unfold isLst;rw [ref_at h];rfl
theorem un_v2{u v:V}:un v2 [u,v]=some (u,v):=un_self (f:=v2) (a:=(u,v)) fun _ _ e=>Prod.ext (List.cons.inj e).1 (List.cons.inj (List.cons.inj e).2).1
theorem W.app{n:Nat}{xs:List V}{u:V}(h:s.hp n=some (.list xs))(hu:u.low=true)(hl:xs.length<lim)(k:Q .none {s with hp:=upd s.hp n (some (.list (xs ++ [u])))}):Wp (mApp [.ref n,u]) s Q :=
 ⟨_,_,bs un_v2 (bs un_ref (bs (bs h (un_self fun _ _=>oL)) (if_pos ⟨hu,hl⟩))),k⟩
theorem W.pop{n:Nat}{xs:List V}{u:V}(h:s.hp n=some (.list (xs ++ [u])))(hl:xs.length<lim)(k:Q u {s with hp:=upd s.hp n (some (.list xs))}):Wp (mPop [.ref n]) s Q :=
 one_run ⟨_,_,bs un_ref (bs (bs h (un_self fun _ _=>oL)) (bs List.getLast?_concat ((if_pos (by simp;lia)).trans (by rw [List.dropLast_concat])))),k⟩
theorem W.extRev{n:Nat}{xs ys:List V}(h:s.hp n=some (.list xs))(hl:(xs++ys).length<lim)(k:Q .none {s with hp:=upd s.hp n (some (.list (xs++ys.reverse)))}):Wp (mExtRev (.ref n) (.tup ys)) s Q :=
 ⟨_,_,bs un_ref (bs un_tup (bs (bs h (un_self fun _ _=>oL)) (if_pos hl))),k⟩
theorem W.lenSetI{L:List Int}(hd:L.Nodup)(hl:L.length≤300)(k:Q (.int L.length) s):Wp (bLenSet (.lst (L.map .int))) s Q:=⟨_,_,bs lst_at (ors (bs (ints_map L) (if_pos ⟨hd,hl⟩))),k⟩
theorem W.sortedSet{L:List Int}(hd:L.Nodup)(hl:L.length<64)(k:Q (.lst ((sortI L).map .int)) s):Wp (bSortedSet none (.lst (L.map .int))) s Q :=
 ⟨_,_,bs lst_at (bs (ints_map L) ((if_pos ⟨hd,hl⟩).trans (R.mkLst (Yd _) (by rw [X4,(sortI_perm L).length_eq];exact Ys (Yw hl) (by decide))))),k⟩
theorem tups_none{L:List (List Int)}(h:L≠[]):intsOf (L.map tupI)=none:=un_none fun l e=>by
 cases L with
 |nil=>exact h rfl
 |cons x r=>cases l with
  |nil=>exact(List.cons_ne_nil _ _ e)
  |cons y q=>exact V.noConfusion (List.cons.inj e).1
theorem W.lenSetT{L:List (List Int)}(hd:L.Nodup)(hl:L.length≤300)(k:Q (.int L.length) s):Wp (bLenSet (.lst (L.map tupI))) s Q:=by
 cases L with
 |nil=>exact W.lenSetI (L := []) Xf (Yx _) k
 |cons x r=>exact⟨_,_,bs lst_at (orn (bn (tups_none (List.cons_ne_nil _ _))) (bs (tupsOf_self _) (if_pos ⟨hd,hl⟩))),k⟩
theorem W.dictI{n:Nat}{v:V}{ps:List (Int×V)}(h:lView v s=some (ps.map ip))(hl:ps.length≤lim)(hn:s.hp n=none)(k:Q (.ref n) {s with hp:=upd s.hp n (some (.idict (foldSet ps)))}):Wp (bDictI n [v]) s Q :=
 one_run ⟨_,_,bs h (bs (un_self (map_inj ip_inj)) ((if_pos hl).trans (R.new hn))),k⟩
theorem W.dictD{n:Nat}{v:V}{ps:List (Int×V)}(h:dView v s=some ps)(hl:ps.length≤lim)(hn:s.hp n=none)(k:Q (.ref n) {s with hp:=upd s.hp n (some (.idict ps))}):Wp (bDictD n [v]) s Q :=
 one_run ⟨_,_,bs h ((if_pos hl).trans (R.new hn)),k⟩
end
end Lay
namespace Lay
theorem small_one'{a b:Int}(h0:a.natAbs<2^40)(h1:b.natAbs<2^40):Builtin.Range.small a b 1=true:=small_one (by lia) (by lia) (by lia) (by lia)
theorem Yh{a b:Int}{s:St}(h0:a.natAbs<2^40)(h1:b.natAbs<2^40):seqItems (.rng a b 1) s=some ((List.range (b-a).toNat).map fun(i:Nat)=>V.int (a+i)):=by
 have e:Builtin.Range.rangeSize a b 1=((b-a).toNat:Int):=by
  unfold Builtin.Range.rangeSize
  rw [if_pos (by decide)]
  split
  ·rename_i h
   rw [Int.ediv_one,Int.sub_add_cancel];exact(Int.toNat_of_nonneg (Int.le_of_lt (Int.sub_pos_of_lt h))).symm
  ·rename_i h
   rw [Int.toNat_of_nonpos (Int.sub_nonpos_of_le (Int.not_lt.mp h))];rfl
 rw [seq_rng (small_one' h0 h1)]
 unfold rngItems
 rw [e,Int.toNat_natCast]
 simp only [Int.mul_one]
theorem rng_get{a b:Int}{i:Nat}{x:V}(h:((List.range (b-a).toNat).map fun(i:Nat)=>V.int (a+i))[i]?=some x):x = .int (a+i)∧a+i<b:=by
 rw [X8] at h
 obtain⟨y,hy,rfl⟩:=Xl.mp h
 obtain⟨h1,h2⟩:=X5.mp hy
 rw [List.getElem_range] at h2
 rw [List.length_range] at h1
 subst h2
 exact⟨rfl,by lia⟩
theorem seq_list{v:V}{xs:List V}{s:St}(h:lView v s=some xs):seqItems v s=some xs:=by
 rcases oro h with q|q
 ·have:=Zk q
  subst this
  exact(seq_lst (fun _=>V.noConfusion) (fun _ _ _=>V.noConfusion)).trans h
 ·obtain⟨n,rfl,_⟩:=slot_some q
  exact(seq_lst (fun _=>V.noConfusion) (fun _ _ _=>V.noConfusion)).trans h
inductive FiltI{α:Type}(s:St)(j j2:Nat)(e:α→V)(p:α→Bool)(RS:List α)(i:Nat)(acc:List V)(s':St):Prop
 |mk (h1:s'.hp=s.hp) (h2 : ∀ k,k≠j→k≠j2→s'.loc k=s.loc k) (h3:acc=((RS.take i).filter p).map e)
theorem W.filt2{α:Type}{RS:List α}{emb e:α→V}{p:α→Bool}{T j:Nat}(j2:Nat){mi:M V}{mt:M Bool}{me:M V}{s:St}{Q:V→St→Prop}{v:V}
  (hi:Wp mi s (fun u s1=>u=v∧s1=s)) (hst:v.stays T=true) (hit : ∀ s':St,s'.hp=s.hp→seqItems v s'=some (RS.map emb))
  (ht : ∀ a∈RS,∀ s':St,s'.hp=s.hp→(∀ k,k≠j→k≠j2→s'.loc k=s.loc k)→s'.loc j=some (emb a)→Wp mt s' (fun b s2=>b=p a∧s2.hp=s'.hp∧(∀ k,k≠j2→s2.loc k=s'.loc k)∧s2.loc j=some (emb a)))
  (he : ∀ a∈RS,p a=true→∀ s':St,s'.hp=s.hp→(∀ k,k≠j→k≠j2→s'.loc k=s.loc k)→s'.loc j=some (emb a)→Wp me s' (fun y s2=>y=e a∧s2=s'))
  (low : ∀ a∈RS,(e a).low=true) (len:RS.length<lim) (k : ∀ s':St,s'.hp=s.hp→(∀ k,k≠j→k≠j2→s'.loc k=s.loc k)→Q (.lst ((RS.filter p).map e)) s'):Wp (X.comp none T j mi mt me) s Q:=by
 refine .comp (hi.mono ?_)
 rintro u s1 ⟨rfl,rfl⟩
 refine⟨hst,.compM (xs:=RS.map emb) (FiltI s1 j j2 e p RS) ⟨rfl,fun _ _ _=>rfl,by simp⟩ ?_ ?_ ?_⟩
 ·rintro i acc s' ⟨h,_⟩;exact hit s' h
 ·rintro i acc s' x ⟨a1,a2,a3⟩ hx
  rw [X8] at hx
  obtain⟨y,hy,rfl⟩:=Xl.mp hx
  have hm:=Xa hy
  have htk:RS.take (i+1)=RS.take i ++ [y]:=by rw [List.take_add_one,hy];rfl
  have b2 : ∀ k,k≠j→k≠j2→upd s'.loc j (some (emb y)) k=s1.loc k:=fun k hk h2=>by rw [upd_ne _ _ hk];exact a2 k hk h2
  refine(ht y hm ⟨upd s'.loc j (some (emb y)),s'.hp⟩ a1 b2 (Zc _ _ _)).mono ?_
  rintro b s2 ⟨rfl,c1,c2,c3⟩
  have c1:=c1.trans a1
  have c2 : ∀ k,k≠j→k≠j2→s2.loc k=s1.loc k:=fun k q1 q2=>(c2 k q2).trans (b2 k q1 q2)
  refine⟨fun hb=>⟨c1,c2,?_⟩,fun hb=>(he y hm hb s2 c1 c2 c3).mono ?_⟩
  ·rw [htk,List.filter_append,a3];simp [hb]
  ·rintro z s3 ⟨rfl,rfl⟩
   refine⟨low y hm,?_,c1,c2,?_⟩
   ·rw [a3,X4]
    exact Yr (Ys (List.length_filter_le p _) (List.length_take_le' _ _)) len
   ·rw [htk,List.filter_append,a3];simp [hb]
 ·rintro acc s' ⟨a1,a2,a3⟩
  rw [X4,List.take_length] at a3
  subst a3
  refine .mkLst ?_ ?_ (k _ a1 fun k hk h2=>by show upd _ _ _ _=_;rw [upd_ne _ _ hk];exact a2 k hk h2)
  ·rw [List.all_eq_true]
   intro x hx
   obtain⟨y,hy,rfl⟩:=List.mem_map.mp hx
   exact low y (List.mem_filter.mp hy).1
  ·rw [X4]
   exact Ys (List.length_filter_le _ _) (Yw len)
theorem W.filt{α:Type}{RS:List α}{emb e:α→V}{p:α→Bool}{T j:Nat}{mi:M V}{mt:M Bool}{me:M V}{s:St}{Q:V→St→Prop}{v:V}
  (hi:Wp mi s (fun u s1=>u=v∧s1=s)) (hst:v.stays T=true) (hit : ∀ s':St,s'.hp=s.hp→seqItems v s'=some (RS.map emb))
  (ht : ∀ a∈RS,∀ s':St,s'.hp=s.hp→(∀ k,k≠j→s'.loc k=s.loc k)→s'.loc j=some (emb a)→Wp mt s' (fun b s2=>b=p a∧s2=s'))
  (he : ∀ a∈RS,p a=true→∀ s':St,s'.hp=s.hp→(∀ k,k≠j→s'.loc k=s.loc k)→s'.loc j=some (emb a)→Wp me s' (fun y s2=>y=e a∧s2=s'))
  (low : ∀ a∈RS,(e a).low=true) (len:RS.length<lim) (k : ∀ s':St,s'.hp=s.hp→(∀ k,k≠j→s'.loc k=s.loc k)→Q (.lst ((RS.filter p).map e)) s'):Wp (X.comp none T j mi mt me) s Q :=
 W.filt2 j hi hst hit (fun a ha s' e1 e2 e3=>(ht a ha s' e1 (fun k q=>e2 k q q) e3).mono fun b s2 q=>⟨q.1,by rw [q.2],fun _ _=>by rw [q.2],by rw [q.2];exact e3⟩) (fun a ha hp s' e1 e2 e3=>he a ha hp s' e1 (fun k q=>e2 k q q) e3) low len fun s' e1 e2=>k s' e1 fun k q=>e2 k q q
end Lay
namespace Lay
namespace L03
noncomputable def cupO(xs:List Int)(al k:Int):O:=.sdict [(Xx "at",.int k),(Xx "row",.lst (xs.map .int)),(Xx "all",.int al)]
theorem cup_at{xs:List Int}{al k:Int}:kvGet [(Xx "at",V.int k),(Xx "row",.lst (xs.map .int)),(Xx "all",.int al)] (Xx "at")=some (.int k):=by rw [Zr,if_pos rfl]
theorem cup_row{xs:List Int}{al k:Int}:kvGet [(Xx "at",V.int k),(Xx "row",.lst (xs.map .int)),(Xx "all",.int al)] (Xx "row")=some (.lst (xs.map .int)):=by rw [Zr,if_neg (by decide),Zr,if_pos rfl]
theorem cup_all{xs:List Int}{al k:Int}:kvGet [(Xx "at",V.int k),(Xx "row",.lst (xs.map .int)),(Xx "all",.int al)] (Xx "all")=some (.int al):=by rw [Zr,if_neg (by decide),Zr,if_neg (by decide),Zr,if_pos rfl]
theorem cup_set{xs:List Int}{al k:Int}:kvSet [(Xx "at",V.int k),(Xx "row",.lst (xs.map .int)),(Xx "all",.int al)] (Xx "at") (.int (k+1)) = [(Xx "at",V.int (k+1)),(Xx "row",.lst (xs.map .int)),(Xx "all",.int al)]:=by
 have e1:Xx "row" ≠Xx "at" :=by decide
 have e2:Xx "all" ≠Xx "at" :=by decide
 unfold kvSet;simp [e1,e2]
inductive Cup(xs:List Int)(al:Int)(n:Nat)(σ:Hp):Prop
 |mk (k:Int) (h0:0≤k) (h1:k≤n) (h:σ 100=some (cupO xs al k))
theorem sip_ws{xs:List Int}{al many:Int}{n:Nat}{σ:Hp}(hc:Cup xs al n σ)(hk:n<2^39)(hl:xs.length≤60)(hm:0<many)(hn:Free 580 σ) :
  Ws (runF 580 2 m__law_sip) [.ref 100,.int many] σ (fun v σ' => ∃ r,v = .int r∧0≤r∧r<many∧Cup xs al (n+1) σ'∧∀ m,m≠100→σ' m=σ m):=by
 obtain⟨k,h0,h1,h⟩:=hc
 refine Ws.fn rfl ?_
 unfold m__law_sip
 refine .seq (.assignSub (.op2 (.op2 (.getL (v:=.ref 100) rfl (.pure (W.itemS h cup_at (.pure (W.add (.getL (v:=.ref 100) rfl (.pure (W.setS h rfl (show 3<lim by decide) ?_)))))))))))
 rw [cup_set]
 have h2:(upd σ 100 (some (cupO xs al (k+1)))) 100=some (cupO xs al (k+1)):=Zc _ _ _
 have fin : ∀ r:Int,0≤r→r<many→∃ v v',flV (.ret (.int r))=some v∧leaveV 580 v (upd σ 100 (some (cupO xs al (k+1))))=some v'∧∃ r,v' = .int r∧0≤r∧r<many∧Cup xs al (n+1) (cut 580 (upd σ 100 (some (cupO xs al (k+1)))))∧∀ m,m≠100→(cut 580 (upd σ 100 (some (cupO xs al (k+1))))) m=σ m:=fun r a b=>by
  refine⟨_,_,rfl,Zi fun _=>V.noConfusion,r,rfl,a,b,?_,fun m hm=>?_⟩
  ·rw [cut_free (hn.upd (by decide))]
   exact⟨k+1,by exact ar27 h0,by lia,h2⟩
  ·rw [cut_free (hn.upd (by decide)),upd_ne _ _ hm]
 refine .seq (.ite (.tcmp (.op2 (.getL (v:=.ref 100) rfl (.pure (W.itemS h2 cup_at (.call (.cons (.op2 (.getL (v:=.ref 100) rfl (.pure (W.itemS h2 cup_row (.nil (W.len (len_lst lst_at) ?_ (W.le (.asBool ⟨fun hb=>?_,fun hb=>.end ?_⟩))))))))))))))))
 ·rw [X4];exact Ys hl (by decide)
 ·have hb:=of_decide_eq_true hb
  rw [X4] at hb
  have hj:k.toNat<xs.length:=by lia
  refine .seq (.ret (.op2 (.op2 (.op2 (.getL (v:=.ref 100) rfl (.pure (W.itemS h2 cup_row (.op2 (.op2 (.getL (v:=.ref 100) rfl (.pure (W.itemS h2 cup_at (.pure (W.sub (W.itemL (u:=.int xs[k.toNat]) lst_at (by lia) (by lia) ?_ (.getL (v:=.int many) rfl (W.mod hm (fin _ (Int.emod_nonneg _ (Int.ne_of_gt hm)) (Int.emod_lt_of_pos _ hm)))))))))))))))))))
  rw [show k+1-1=k by lia,X8,X3 hj];rfl
 ·refine .seq (.ret (.op2 (.op2 (.op2 (.op2 (.op2 (.op2 (.op2 (.getL (v:=.ref 100) rfl (.pure (W.itemS h2 cup_at (.op2 (.getL (v:=.ref 100) rfl (.pure (W.itemS h2 cup_at (W.mul (by lia) (.pure (W.mul (by lia) (.op2 (.op2 (.getL (v:=.ref 100) rfl (.pure (W.itemS h2 cup_at (.pure (W.mul (by lia) (W.add (.op2 (.getL (v:=.ref 100) rfl (.pure (W.itemS h2 cup_all (W.add (.pure (W.fdiv2 (.getL (v:=.int many) rfl (W.mod hm (fin _ (Int.emod_nonneg _ (Int.ne_of_gt hm)) (Int.emod_lt_of_pos _ hm)))))))))))))))))))))))))))))))))))))
end L03
end Lay
namespace Lay
theorem kv_keys_some{K:Type} [DecidableEq K]{α:Type}(kvs:List (K×α))(k:K):(kvGet kvs k).isSome=true↔k∈kvs.map (·.1):=by
 rw [←kvGet_some_of_any,List.any_eq_true]
 simp only [List.mem_map,decide_eq_true_eq]
theorem kvSet_keys{K:Type} [DecidableEq K]{α:Type}(kvs:List (K×α))(k:K)(v:α):(kvSet kvs k v).map (·.1)=if k∈kvs.map (·.1) then kvs.map (·.1) else kvs.map (·.1) ++ [k]:=by
 unfold kvSet
 have e:kvs.any (fun kv=>decide (kv.1=k))=true↔k∈kvs.map (·.1):=by rw [kvGet_some_of_any];exact kv_keys_some kvs k
 by_cases h:k∈kvs.map (·.1)
 ·rw [if_pos (e.mpr h),if_pos h,List.map_map]
  refine List.map_congr_left fun kv _=>?_
  simp only [Function.comp]
  split<;>rfl
 ·rw [if_neg (fun q=>h (e.mp q)),if_neg h,Xc];rfl
theorem kvSet_mem{K:Type} [DecidableEq K]{α:Type}(kvs:List (K×α))(k:K)(v:α)(x:K):x∈(kvSet kvs k v).map (·.1)↔x∈kvs.map (·.1)∨x=k:=by
 rw [kvSet_keys]
 by_cases h:k∈kvs.map (·.1)
 ·rw [if_pos h];exact⟨.inl,fun q=>q.elim id fun e=>e▸h⟩
 ·rw [if_neg h,X9,X7]
theorem kvSet_nodup{K:Type} [DecidableEq K]{α:Type}(kvs:List (K×α))(k:K)(v:α)(h:(kvs.map (·.1)).Nodup):((kvSet kvs k v).map (·.1)).Nodup:=by
 rw [kvSet_keys]
 by_cases hk:k∈kvs.map (·.1)
 ·rw [if_pos hk];exact h
 ·rw [if_neg hk];exact List.nodup_append.mpr ⟨h,List.pairwise_singleton _ _,fun a ha b hb e=>hk (by rw [←X7.mp hb,←e];exact ha)⟩
theorem Zt{α:Type} [DecidableEq α]{a:List α} : ∀ {b:List α},a.Nodup→(∀ x∈a,x∈b)→a.length≤b.length:=by
 induction a with
 |nil=>intro b _ _;exact Yx _
 |cons x r ih =>
  intro b h s
  have hx:=s x (List.mem_cons_self ..)
  have h2:=List.nodup_cons.mp h
  have:=ih (b:=b.erase x) h2.2 fun y hy=>(List.mem_erase_of_ne (by rintro rfl;exact h2.1 hy)).mpr (s y (List.mem_cons_of_mem _ hy))
  rw [List.length_erase_of_mem hx] at this
  have:=List.length_pos_of_mem hx
  simp only [Xg]
  exact ar46 (by assumption) this
theorem upd_upd{β:Type}{f:Nat→Option β}{n:Nat}{a b:Option β}:upd (upd f n a) n b=upd f n b:=by funext m;unfold upd;split<;>rfl
end Lay
namespace Lay
namespace L03
noncomputable def Asc(r:List Int):Prop:=r.Pairwise (fun a b=>a.natAbs<b.natAbs)
noncomputable def NormOf(L r:List Int):Prop:=(∀ x,x∈r↔x∈L)∧Asc r
noncomputable def Clash(L:List Int):Prop := ∃ x,x∈L∧ -x∈L
theorem Asc.nodup{r:List Int}(h:Asc r):r.Nodup:=h.imp fun q e=>by subst e;exact Nat.lt_irrefl _ q
noncomputable def Oc:Option (List Int)→V
 |none=>.none
 |some r=>tupI r
noncomputable def Res(L:List Int):Option (List Int)→Prop
 |none=>Clash L
 |some r => ¬ Clash L∧NormOf L r
theorem each_place{loc:Nat→Option V}{σ:Hp}(hn:Free 620 σ)(ks:List Int):R (callEach (runF 620 1 m_place_of) (ks.map .int)) ⟨loc,σ⟩ (ks.map fun x=>pk ((x.natAbs:Int),x)) ⟨loc,σ⟩:=by
 induction ks with
 |nil=>rfl
 |cons x r ih =>
  refine .bind (R.callM (v:=pk ((x.natAbs:Int),x)) (σ':=σ) ?_) (.bind ih .pure)
  obtain⟨v,σ',h1,rfl,rfl⟩:Ws (runF 620 1 m_place_of) [.int x] σ (fun v σ'=>v=pk ((x.natAbs:Int),x)∧σ'=σ):=by
   refine Ws.fn rfl ?_
   unfold m_place_of
   exact .seq (.ret (.tup (.cons (.call (.cons (.getL (v:=.int x) rfl (.nil (W.abs (.cons (.getL (v:=.int x) rfl (.nil (.mkTup rfl (show 2≤lim by decide) ⟨_,_,rfl,Zi fun _=>V.noConfusion,rfl,cut_free hn⟩))))))))))))
  exact h1
theorem sort_place{ks:List Int}(hnd:ks.Nodup)(hz : ∀ x∈ks,x≠0)(hc : ¬ Clash ks) : ∃ r,NormOf ks r∧sortP ((ks.map fun x=>((x.natAbs:Int),x)).zip (ks.map V.int))=r.map V.int:=by
 have hzip:(ks.map fun x=>((x.natAbs:Int),x)).zip (ks.map V.int)=ks.map fun x=>(((x.natAbs:Int),x),V.int x):=by
  clear hnd hz hc
  induction ks with
  |nil=>rfl
  |cons x r ih=>simp only [Xb,List.zip_cons_cons,ih]
 unfold sortP
 rw [hzip]
 have pm:=List.mergeSort_perm (ks.map fun x=>(((x.natAbs:Int),x),V.int x)) (fun a b => !lexLt b.1 a.1)
 have pw:=List.pairwise_mergeSort (le:=fun a b:(Int×Int)×V => !lexLt b.1 a.1) (fun a b c h1 h2=>by
    simp only [Bool.not_eq_true',lexLt_ff] at *;exact ar135 h1 h2) (fun a b=>by
    cases h1:lexLt b.1 a.1 with
    |false=>rfl
    |true =>
      rw [lexLt_iff] at h1;have:lexLt a.1 b.1=false:=by rw [lexLt_ff];exact ar136 h1
      rw [this];rfl) (ks.map fun x=>(((x.natAbs:Int),x),V.int x))
 generalize (ks.map fun x=>(((x.natAbs:Int),x),V.int x)).mergeSort (fun a b => !lexLt b.1 a.1)=l at pm pw
 have hm : ∀ t∈l,t=(((t.1.2.natAbs:Int),t.1.2),V.int t.1.2):=fun t ht=>by
  obtain⟨x,_,rfl⟩:=List.mem_map.mp (pm.mem_iff.mp ht);rfl
 have pm2:(l.map (·.1.2)).Perm ks:=by
  have:=pm.map (·.1.2)
  rw [List.map_map] at this
  rwa [show ((fun t:(Int×Int)×V=>t.1.2)∘fun x:Int=>(((x.natAbs:Int),x),V.int x))=id from rfl,List.map_id] at this
 refine⟨l.map (·.1.2),⟨fun x=>pm2.mem_iff,?_⟩,?_⟩
 ·have nd2:=List.pairwise_map.mp (pm2.nodup_iff.mpr hnd)
  unfold Asc
  rw [List.pairwise_map]
  refine(pw.and nd2).imp_of_mem fun {a b} ha hb h=>?_
  obtain⟨h1,h2⟩:=h
  have ea:=hm a ha
  have eb:=hm b hb
  have ka:a.1.2∈ks:=pm2.mem_iff.mp (List.mem_map.mpr ⟨a,ha,rfl⟩)
  have kb:b.1.2∈ks:=pm2.mem_iff.mp (List.mem_map.mpr ⟨b,hb,rfl⟩)
  have hne:b.1.2≠ -a.1.2:=fun e=>hc ⟨_,ka,e▸kb⟩
  have z1:=hz _ ka
  simp only [Bool.not_eq_true',lexLt_ff] at h1
  rw [ea,eb] at h1
  simp only at h1
  exact h1.elim (fun h=>Int.ofNat_lt.mp h) fun h=>(Int.natAbs_eq_natAbs_iff.mp (Int.ofNat.inj h.1)).elim (fun w=>absurd w.symm h2) fun w=>absurd w hne
 ·rw [List.map_map]
  exact List.map_congr_left fun t ht=>by rw [hm t ht];rfl
end L03
end Lay
namespace Lay
namespace L03
inductive ClI(L:List Int)(σ:Hp)(i:Nat)(s:St):Prop
 |mk (h1:s.loc 1=some (.ref 600)) (kvs:List (Int×V)) (h2:s.hp=upd σ 600 (some (.idict kvs))) (nd:(kvs.map (·.1)).Nodup) (hm : ∀ x,x∈kvs.map (·.1)↔x∈L.take i) (hc : ¬ Clash (L.take i))
theorem Yl{L:List V}{s:St}:seqItems (.lst L) s=some L:=seq_list lst_at
theorem clause_ws{L:List Int}{σ:Hp}(hn:Free 600 σ)(hl:L.length≤5)(hz : ∀ x∈L,x≠0) :
  Ws (runF 600 1 m_clause_of) [.lst (L.map .int)] σ (fun u σ'=>σ'=σ∧∃ o,Res L o∧u=Oc o):=by
 have lim64:64<lim:=by decide
 refine Ws.fn rfl ?_
 unfold m_clause_of
 refine .seq (.assign (.new (hn 600 (Yy _)) ?_))
 refine .seq (.for (.getL rfl ⟨rfl,.forS (xs:=L.map .int) (ClI L σ) ⟨rfl,[],rfl,Xf,fun x=>by simp,fun⟨x,h,_⟩=>by simp at h⟩ (fun _ _ _=>Yl) ?_ ?_⟩))
 ·rintro i s x ⟨h1,kvs,h2,nd,hm,hc⟩ hx
  rw [X8] at hx
  obtain⟨y,hy,rfl⟩:=Xl.mp hx
  have htk:L.take (i+1)=L.take i ++ [y]:=by rw [List.take_add_one,hy];rfl
  have hz2:y≠0:=hz y (Xa hy)
  have hk:s.hp 600=some (.idict kvs):=by rw [h2,Zc]
  refine .setL (.seq (.ite (.tcmp (.op1 (.getL (v:=.int y) rfl (W.neg (.getL (v:=.ref 600) h1 (W.inD (Y3 hk) (.asBool ⟨fun hb=>?_,fun hb=>.end ?_⟩)))))))))
  ·rw [W3] at hb
   refine .seq (.ret (.pure ⟨.none,.none,rfl,Zi fun _=>V.noConfusion,?_,none,⟨y,Xa hy,List.mem_of_mem_take ((hm _).mp ((kv_keys_some _ _).mp hb))⟩,rfl⟩))
   show cut 600 s.hp=σ
   rw [h2];exact cut_own hn (Yy _)
  ·rw [W3] at hb
   have hno : -y∉L.take i:=fun q=>Bool.noConfusion (hb.symm.trans ((kv_keys_some kvs (-y)).mpr ((hm _).mpr q)))
   have hkl:kvs.length<lim:=by
    have:=Zt nd (b:=L) fun x hx=>List.mem_of_mem_take ((hm x).mp hx)
    rw [X4] at this;exact(Yt (Yr (Ys this hl) (nlt 5 64 rfl)) lim64)
   refine .seq (.assignSub (.pure (.getL (v:=.ref 600) h1 (.getL (v:=.int y) rfl (W.setD hk rfl hkl (.end ⟨h1,kvSet kvs y (.bool true),?_,kvSet_nodup _ _ _ nd,fun x=>?_,?_⟩))))))
   ·show upd s.hp _ _=_
    rw [h2,upd_upd]
   ·rw [kvSet_mem,hm,htk,X9,X7]
   ·rintro⟨x,hx1,hx2⟩
    rw [htk,X9,X7] at hx1 hx2
    rcases hx1 with hx1|rfl<;>rcases hx2 with hx2|hx2
    ·exact hc ⟨x,hx1,hx2⟩
    ·exact hno (by rwa [←hx2,Int.neg_neg])
    ·exact hno hx2
    ·lia
 ·rintro s ⟨h1,kvs,h2,nd,hm,hc⟩
  rw [X4,List.take_length] at hm hc
  have hk:s.hp 600=some (.idict kvs):=by rw [h2,Zc]
  have hkl:(kvs.map (·.1)).length≤L.length:=Zt nd fun x hx=>(hm x).mp hx
  have hf:Free 620 s.hp:=by rw [h2];exact(hn.mono (by decide)).upd (by decide)
  obtain⟨r,hr1,hr2⟩:=sort_place nd (fun x hx=>hz x ((hm x).mp hx)) (fun⟨x,h1,h2⟩=>hc ⟨x,(hm _).mp h1,(hm _).mp h2⟩)
  have hrl:r.length≤L.length:=Zt hr1.2.nodup fun x hx=>(hm x).mp ((hr1.1 x).mp hx)
  have run:R (bSortedK none (runF 620 1 m_place_of) (.ref 600)) s (.lst (r.map .int)) s:=by
   refine bs (coll_dict (Y3 hk)) ((if_pos (by rw [X4];exact(Yr (Ys hkl hl) (nlt 5 6 rfl)))).trans (bs (each_place (loc:=s.loc) hf _) (bs (a:=(kvs.map (·.1)).map fun x=>((x.natAbs:Int),x)) ?_ ((if_pos ?_).trans ?_))))
   ·have:=pairKeys_self ((kvs.map (·.1)).map fun x=>((x.natAbs:Int),x))
    rwa [List.map_map (g:=pk)] at this
   ·rw [List.nodup_iff_pairwise_ne,List.pairwise_map]
    exact nd.imp fun h e=>h (Prod.mk.inj e).2
   ·rw [hr2]
    exact R.mkLst (Yd _) (by rw [X4];exact(Yw (Yt (Yr (Ys hrl hl) (nlt 5 64 rfl)) lim64)))
  refine .seq (.ret (.call (.cons (.sortedK (.getL h1 (Wp.ofR run (.nil (W.tuple lst_at (Yd _) (by rw [X4];exact(Yw (Yt (Yr (Ys hrl hl) (nlt 5 64 rfl)) lim64))) ⟨_,_,rfl,Zi fun _=>V.noConfusion,?_,some r,⟨hc,fun x=>(hr1.1 x).trans (hm x),hr1.2⟩,rfl⟩))))))))
  show cut 600 s.hp=σ
  rw [h2];exact cut_own hn (Yy _)
end L03
end Lay
namespace Lay
namespace L03
inductive G where
 |non|tru|inp|and (ps:List Int)
noncomputable def G.kind:G→Str
 |.non=>Xx ""
 |.tru=>Xx "true"
 |.inp=>Xx "input"
 |.and _=>Xx "and"
noncomputable def G.parts:G→List Int
 |.and ps=>ps
 |_ => []
structure CircR(K P:List V)(kn:List (List Int×V))(σ:Hp):Prop where
 i:σ 1=some (.inst 222 2)
 a:σ 2=some (.attrs [(Xx "kinds",.ref 3),(Xx "parts_now",.ref 4),(Xx "known",.ref 5)])
 k:σ 3=some (.list K)
 p:σ 4=some (.list P)
 n:σ 5=some (.tdict kn)
noncomputable abbrev CircAt(gs:List G)(kn:List (List Int×V))(σ:Hp):Prop:=CircR (gs.map fun g=>V.str g.kind) (gs.map fun g=>tupI g.parts) kn σ
noncomputable def Fr5(σ σ':Hp):Prop := ∀ n,n≠3→n≠4→n≠5→σ' n=σ n
theorem Fr5.refl(σ:Hp):Fr5 σ σ:=fun _ _ _ _=>rfl
theorem Fr5.trans{a b c:Hp}(h:Fr5 a b)(k:Fr5 b c):Fr5 a c:=fun n h1 h2 h3=>(k n h1 h2 h3).trans (h n h1 h2 h3)
theorem Fr5.free{a b:Hp}{B:Nat}(h:Fr5 a b)(hf:Free B a)(hB:5<B):Free B b:=fun n hn=>(h n (by exact(Yv (Yq (Yt (nlt 3 5 rfl) hB) hn))) (by exact(Yv (Yq (Yt (nlt 4 5 rfl) hB) hn))) (by exact(Yv (Yq hB hn)))).trans (hf n hn)
theorem CircR.mono{K P:List V}{kn:List (List Int×V)}{σ τ:Hp}(h:CircR K P kn σ)(e : ∀ n,n≤5→τ n=σ n):CircR K P kn τ :=
 ⟨(e 1 (by decide)).trans h.i,(e 2 (by decide)).trans h.a,(e 3 (by decide)).trans h.k,(e 4 (by decide)).trans h.p,(e 5 (by decide)).trans h.n⟩
section
variable{K P:List V}{kn:List (List Int×V)}{s:St}{Q:V→St→Prop}
noncomputable abbrev kvC:List (Str×V) := [(Xx "kinds",.ref 3),(Xx "parts_now",.ref 4),(Xx "known",.ref 5)]
theorem instOf_c(h:CircR K P kn s.hp):instOf (.ref 1) s=some (222,kvC):=instOf_self h.i h.a
theorem getAC_run{Cl:Addr}{name:Str}{v u:V}{kvs:List (Str×V)}(h:instOf v s=some (Cl,kvs))(hu:kvGet kvs name=some u)(hv:u.isVal=false)(k:Q u s):Wp (getAC Cl name v) s Q :=
 ⟨_,_,bs h ((if_pos rfl).trans (bs hu (if_neg (by rw [hv];exact Bool.false_ne_true)))),k⟩
theorem instOk_run{Cl:Addr}{name:Str}{v:V}{kvs:List (Str×V)}(h:instOf v s=some (Cl,kvs))(hu:kvGet kvs name=none):instOk Cl name v s=true:=by
 unfold instOk
 rw [h]
 show (decide (Cl=Cl)&&(kvGet kvs name).isNone)=true
 rw [hu,decide_eq_true rfl];rfl
theorem W.kinds(h:CircR K P kn s.hp)(k:Q (.ref 3) s):Wp (getAC 222 (Xx "kinds") (.ref 1)) s Q:=getAC_run (instOf_c h) (by rfl) rfl k
theorem W.partsNow(h:CircR K P kn s.hp)(k:Q (.ref 4) s):Wp (getAC 222 (Xx "parts_now") (.ref 1)) s Q:=getAC_run (instOf_c h) (by rfl) rfl k
theorem W.known(h:CircR K P kn s.hp)(k:Q (.ref 5) s):Wp (getAC 222 (Xx "known") (.ref 1)) s Q:=getAC_run (instOf_c h) (by rfl) rfl k
theorem okC(h:CircR K P kn s.hp){name:Str}(e:kvGet kvC name=none):instOk 222 name (.ref 1) s=true:=instOk_run (instOf_c h) e
end
end L03
end Lay
namespace Lay
namespace L03
variable{gs:List G}{kn:List (List Int×V)}{σ:Hp}
theorem size_ws(h:CircAt gs kn σ)(hl:gs.length≤1000)(hn:Free 540 σ):Ws (runF 540 1 m_Circuit_size) [.ref 1] σ (fun v σ'=>v = .int (gs.length-1)∧σ'=σ):=by
 refine Ws.fn rfl ?_
 unfold m_Circuit_size
 refine .seq (.ret (.op2 (.call (.cons (.op1 (.getL (v:=.ref 1) rfl (W.kinds h (.nil (W.len (n:=gs.length) ?_ ?_ (.pure (W.sub ⟨_,_,rfl,Zi fun _=>V.noConfusion,rfl,cut_free hn⟩)))))))))))
 ·rw [len_lst (ref_at h.k),X4]
 ·exact Ys hl (by decide)
theorem kind_ws{g:Int}{x:G}(h:CircAt gs kn σ)(hg:gs[g.natAbs]?=some x)(hl:gs.length≤1000)(hn:Free 520 σ):Ws (runF 520 2 m_Circuit_kind) [.ref 1,.int g] σ (fun v σ'=>v = .str x.kind∧σ'=σ):=by
 have hlt:=(X5.mp hg).1
 refine Ws.fn rfl ?_
 unfold m_Circuit_kind
 refine .seq (.ret (.op2 (.op1 (.getL (v:=.ref 1) rfl (W.kinds h (.call (.cons (.getL (v:=.int g) rfl (.nil (W.abs (W.itemL (u:=.str x.kind) (ref_at h.k) (Int.natCast_nonneg _) (by lia) (by rw [Int.toNat_natCast,X8,hg];rfl) ⟨_,_,rfl,Zi fun _=>V.noConfusion,rfl,cut_free hn⟩)))))))))))
theorem parts_ws{g:Int}{x:G}(h:CircAt gs kn σ)(hg:gs[g.natAbs]?=some x)(hl:gs.length≤1000)(hn:Free 500 σ):Ws (runF 500 2 m_Circuit_parts) [.ref 1,.int g] σ (fun v σ'=>v=tupI x.parts∧σ'=σ):=by
 have hlt:=(X5.mp hg).1
 refine Ws.fn rfl ?_
 unfold m_Circuit_parts
 refine .seq (.ret (.op2 (.op1 (.getL (v:=.ref 1) rfl (W.partsNow h (.call (.cons (.getL (v:=.int g) rfl (.nil (W.abs (W.itemL (u:=tupI x.parts) (ref_at h.p) (Int.natCast_nonneg _) (by lia) (by rw [Int.toNat_natCast,X8,hg];rfl) ⟨_,_,rfl,Zi fun _=>V.noConfusion,rfl,cut_free hn⟩)))))))))))
theorem newgate_ws(x:G)(h:CircAt gs kn σ)(hl:gs.length≤1000)(hn:Free 480 σ):Ws (runF 480 3 m_Circuit_new_gate) [.ref 1,.str x.kind,tupI x.parts] σ (fun v σ'=>v = .int gs.length∧CircAt (gs ++ [x]) kn σ'∧Fr5 σ σ'):=by
 have l1000:1001<lim:=by decide
 refine Ws.fn rfl ?_
 unfold m_Circuit_new_gate
 refine .seq (.expr (.meth (.op1 (.getL (v:=.ref 1) rfl (W.kinds h ⟨isLst_ref h.k,.cons (.getL (v:=.str x.kind) rfl (.nil (W.app h.k rfl (lmLt (by exact(Yt (Yr hl (nlt 1000 1001 rfl)) l1000))) ?_)))⟩)))))
 have h2:CircR ((gs ++ [x]).map fun g=>V.str g.kind) (gs.map fun g=>tupI g.parts) kn (upd σ 3 (some (.list ((gs.map fun g=>V.str g.kind) ++ [.str x.kind])))):=⟨h.i,h.a,by rw [Zc,Xc];rfl,h.p,h.n⟩
 have f2:Fr5 σ (upd σ 3 (some (.list ((gs.map fun g=>V.str g.kind) ++ [.str x.kind])))):=fun n h1 h2 h3=>by rw [upd_ne _ _ h1]
 dsimp only
 generalize upd σ 3 (some (.list ((gs.map fun g=>V.str g.kind) ++ [.str x.kind])))=σ2 at h2 f2
 refine .seq (.expr (.meth (.op1 (.getL (v:=.ref 1) rfl (W.partsNow h2 ⟨isLst_ref h2.p,.cons (.getL (v:=tupI x.parts) rfl (.nil (W.app h2.p rfl (lmLt (by exact(Yt (Yr hl (nlt 1000 1001 rfl)) l1000))) ?_)))⟩)))))
 have h3:CircAt (gs ++ [x]) kn (upd σ2 4 (some (.list ((gs.map fun g=>tupI g.parts) ++ [tupI x.parts])))):=⟨h2.i,h2.a,h2.k,by rw [Zc,Xc];rfl,h2.n⟩
 have f3:Fr5 σ (upd σ2 4 (some (.list ((gs.map fun g=>tupI g.parts) ++ [tupI x.parts])))):=fun n h1 h2 h3=>by rw [upd_ne _ _ h2];exact f2 n h1 h2 h3
 dsimp only
 generalize upd σ2 4 (some (.list ((gs.map fun g=>tupI g.parts) ++ [tupI x.parts])))=σ3 at h3 f3
 refine .seq (.ret (.op2 (.call (.cons (.op1 (.getL (v:=.ref 1) rfl (W.kinds h3 (.nil (W.len (n:=gs.length+1) ?_ (by lia) (.pure (W.sub ⟨_,_,rfl,Zi fun _=>V.noConfusion,?_⟩)))))))))))
 ·rw [len_lst (ref_at h3.k),X4,X6];rfl
 ·dsimp only
  rw [cut_free (f3.free hn (by decide))]
  exact⟨by congr 1;lia,h3,f3⟩
theorem input_ws(h:CircAt gs kn σ)(hl:gs.length≤1000)(hn:Free 460 σ):Ws (runF 460 1 m_Circuit_new_input) [.ref 1] σ (fun v σ'=>v = .int gs.length∧CircAt (gs ++ [.inp]) kn σ'∧Fr5 σ σ'):=by
 refine Ws.fn rfl ?_
 unfold m_Circuit_new_input
 refine .seq (.ret (.meth (.getL (v:=.ref 1) rfl ⟨okC h (by rfl),.cons (.pure (.cons (.tup (.nil (.mkTup rfl (Yx _) (.nil (.callM ((newgate_ws .inp h hl (hn.mono (by decide))).mono ?_))))))))⟩)))
 rintro v σ' ⟨rfl,h2,h3⟩
 refine⟨_,_,rfl,Zi fun _=>V.noConfusion,?_⟩
 dsimp only
 rw [cut_free (h3.free hn (by decide))]
 exact⟨rfl,h2,h3⟩
end L03
end Lay
namespace Lay
namespace L03
noncomputable def evG(f:Nat→Bool)(T:List Bool):G→Bool
 |.non=>false
 |.tru=>true
 |.inp=>f T.length
 |.and ps=>ps.all fun p=>(T[p.natAbs]?).getD false==decide (0<p)
noncomputable def tr(f:Nat→Bool)(gs:List G):List Bool:=gs.foldl (fun T x=>T ++ [evG f T x]) []
theorem tr_snoc(f:Nat→Bool)(gs:List G)(x:G):tr f (gs ++ [x])=tr f gs ++ [evG f (tr f gs) x]:=by unfold tr;rw [List.foldl_append];rfl
theorem tr_length(f:Nat→Bool)(gs:List G):(tr f gs).length=gs.length:=by
 suffices h : ∀ n (gs:List G),gs.length=n→(tr f gs).length=n from h _ gs rfl
 intro n
 induction n with
 |zero=>intro gs h;rw [List.eq_nil_of_length_eq_zero h];rfl
 |succ n ih =>
  intro gs h
  rcases List.eq_nil_or_concat gs with rfl|⟨q,x,rfl⟩
  ·cases h
  ·rw [List.concat_eq_append] at h ⊢
   rw [tr_snoc,X6,ih q (by simpa using h)];rfl
theorem tr_take(f:Nat→Bool){gs:List G}{i:Nat}{x:G}(h:gs[i]?=some x):tr f (gs.take (i+1))=tr f (gs.take i) ++ [evG f (tr f (gs.take i)) x]:=by
 rw [List.take_add_one,h];exact tr_snoc _ _ _
theorem tr_take_len(f:Nat→Bool){gs:List G}{i:Nat}(h:i≤gs.length):(tr f (gs.take i)).length=i:=by
 rw [tr_length,List.length_take];lia
theorem tr_get(f:Nat→Bool){gs:List G}{j:Nat}(hj:j<gs.length) : ∀ n,j<n→n≤gs.length→(tr f (gs.take n))[j]?=(tr f (gs.take (j+1)))[j]?:=by
 intro n
 induction n with
 |zero=>intro h;lia
 |succ n ih =>
  intro h1 h2
  by_cases e:n=j
  ·subst e;rfl
  ·have hx:gs[n]?=some gs[n]:=X3 h2
   rw [tr_take f hx,Xj (by rw [tr_take_len f (by exact ar8 h2)];lia)]
   exact ih (by lia) (by exact ar8 h2)
noncomputable def val(f:Nat→Bool)(gs:List G)(i:Nat):Bool:=((tr f gs)[i]?).getD false
theorem tr_val(f:Nat→Bool){gs:List G}{j n:Nat}(hj:j<n)(hn:n≤gs.length):(tr f (gs.take n))[j]?=some (val f gs j):=by
 have hl:j<(tr f gs).length:=by rw [tr_length];exact(Yq hj hn)
 have e:(tr f gs)[j]?=some (tr f gs)[j]:=X3 hl
 have h1:=tr_get f (gs:=gs) (by exact(Yq hj hn)) n hj hn
 have h2:=tr_get f (gs:=gs) (j:=j) (by exact(Yq hj hn)) gs.length (by exact(Yq hj hn)) (Yy _)
 rw [List.take_length] at h2
 unfold val
 rw [h1,←h2,e];rfl
theorem val_eq(f:Nat→Bool){gs:List G}{i:Nat}{x:G}(h:gs[i]?=some x):val f gs i=evG f (tr f (gs.take i)) x:=by
 have hl:=(X5.mp h).1
 have h1:=tr_val f (gs:=gs) (j:=i) (n:=i+1) (by lia) (by lia)
 rw [tr_take f h,List.getElem?_append_right (by rw [tr_take_len f (by exact(Yw hl))];exact(Yy _)),tr_take_len f (by exact(Yw hl)),Nat.sub_self] at h1
 exact(Xm h1).symm
theorem val_inp(f:Nat→Bool){gs:List G}{i:Nat}(h:gs[i]?=some .inp):val f gs i=f i:=by
 have hl:=(X5.mp h).1
 rw [val_eq f h];unfold evG;rw [tr_take_len f (by exact(Yw hl))]
theorem val_take(f:Nat→Bool){gs t:List G}{j:Nat}(hj:j<gs.length):val f (gs++t) j=val f gs j:=by
 have h1:=tr_val f (gs:=gs++t) (j:=j) (n:=gs.length) hj (by rw [X6];exact X1 _ _)
 have h2:=tr_val f (gs:=gs) (j:=j) (n:=gs.length) hj (Yy _)
 rw [List.take_append_of_le_length (Yy _)] at h1
 exact Xm (h1.symm.trans h2)
end L03
end Lay
namespace Lay
namespace L03
noncomputable def Yes(τ:Nat→Bool)(x:Int):Prop:=τ x.natAbs=decide (0<x)
theorem Yes.neg{τ:Nat→Bool}{x:Int}(h:x≠0):Yes τ (-x)↔¬ Yes τ x:=by
 unfold Yes
 rw [W5]
 by_cases q:0<x
 ·rw [decide_eq_true q,decide_eq_false (show ¬ 0 < -x by lia)];cases τ x.natAbs<;>simp
 ·rw [decide_eq_false q,decide_eq_true (show 0 < -x by lia)];cases τ x.natAbs<;>simp
structure PsOk(i:Nat)(ps:List Int):Prop where
 two:2≤ps.length
 four:ps.length≤4
 lt : ∀ p∈ps,2≤p.natAbs∧p.natAbs<i
 ne:ps.Pairwise fun a b=>a.natAbs≠b.natAbs
inductive Well(i:Nat):G→Prop
 |non (h:i=0):Well i .non
 |tru (h:i=1):Well i .tru
 |inp (h:2≤i) (k:i<5):Well i .inp
 |and (h:5≤i) {ps:List Int} (k:PsOk i ps):Well i (.and ps)
structure COk(gs:List G)(kn:List (List Int×V)):Prop where
 len:5≤gs.length
 well : ∀ i x,gs[i]?=some x→Well i x
 known : ∀ ps u,kvGet kn ps=some u→∃ i:Nat,u = .int i∧gs[i]?=some (.and ps)
 knl:kn.length≤gs.length
variable{gs:List G}{kn:List (List Int×V)}
theorem COk.add{ps:List Int}(h:COk gs kn)(hp:PsOk gs.length ps):COk (gs ++ [.and ps]) (kvSet kn ps (.int gs.length)):=by
 refine⟨by rw [X6];exact Ys h.len (X1 _ _),fun i x hx=>?_,fun qs u hu=>?_,?_⟩
 ·by_cases hi:i<gs.length
  ·rw [Xj hi] at hx;exact h.well i x hx
  ·have hl:=(X5.mp hx).1
   rw [X6] at hl
   obtain rfl:i=gs.length:=Nat.le_antisymm (Nat.le_of_lt_succ hl) (X0 hi)
   rw [List.getElem?_append_right (Yy _),Nat.sub_self] at hx
   obtain rfl:G.and ps=x:=Xm hx
   exact .and h.len hp
 ·rw [Y8] at hu
  by_cases e:qs=ps
  ·rw [if_pos e] at hu
   exact⟨_,(Xm hu).symm,by rw [List.getElem?_append_right (Yy _),Nat.sub_self,e];rfl⟩
  ·rw [if_neg e] at hu
   obtain⟨i,h1,h2⟩:=h.known _ _ hu
   exact⟨i,h1,by rw [Xj (X5.mp h2).1];exact h2⟩
 ·have:=kvSet_length kn ps (.int gs.length)
  have:=h.knl
  rw [X6]
  exact Ys (kvSet_length _ _ _) (Nat.succ_le_succ h.knl)
theorem COk.parts{i:Nat}{ps:List Int}(h:COk gs kn)(hi:gs[i]?=some (.and ps)):5≤i∧PsOk i ps:=by
 cases h.well i _ hi with
 |and a b=>exact⟨a,b⟩
theorem val_and(h:COk gs kn)(f:Nat→Bool){i:Nat}{ps:List Int}(hi:gs[i]?=some (.and ps)):val f gs i=true↔∀ p∈ps,Yes (val f gs) p:=by
 have hl:=(X5.mp hi).1
 rw [val_eq f hi]
 unfold evG
 rw [List.all_eq_true]
 refine forall_congr' fun p=>forall_congr' fun hp=>?_
 rw [tr_val f (gs:=gs) ((h.parts hi).2.lt p hp).2 (Yw hl),beq_iff_eq]
 rfl
end L03
end Lay
namespace Lay
namespace L03
theorem Fr5.cut{B:Nat}{σ τ:Hp}{o:Option O}(h:Fr5 (upd σ B o) τ)(hn:Free B σ)(hB:5<B):Fr5 σ (cut B τ):=fun n h1 h2 h3=>by
 unfold Lay.cut
 by_cases q:n<B
 ·rw [if_pos q,h n h1 h2 h3,upd_ne _ _ (Yu q)]
 ·rw [if_neg q];exact(hn n (X0 q)).symm
theorem CircR.cut{K P:List V}{kn:List (List Int×V)}{B:Nat}{τ:Hp}(h:CircR K P kn τ)(hB:5<B):CircR K P kn (cut B τ):=h.mono fun n hn=>if_pos (Yr hn hB)
inductive GateR(gs:List G)(P:(Nat→Bool)→Prop)(d:Nat)(σ:Hp)(v:V)(σ':Hp):Prop
 |mk (g:Int) (t:List G) (kn':List (List Int×V)) (h1:v = .int g) (h2:1≤g.natAbs) (h3:g.natAbs<(gs++t).length) (h4:COk (gs++t) kn') (h5:CircAt (gs++t) kn' σ') (h6:Fr5 σ σ') (h7:t.length≤d)
   (sem : ∀ f,Yes (val f (gs++t)) g↔P f)
theorem val_tru{gs:List G}{kn:List (List Int×V)}(h:COk gs kn)(f:Nat→Bool):val f gs 1=true:=by
 have hl:1<gs.length:=Yq (by decide) h.len
 have hx:gs[1]?=some gs[1]:=X3 hl
 have w:=h.well 1 _ hx
 generalize gs[1]=x at hx w
 cases w with
 |non q=>exact absurd q (by decide)
 |tru _=>rw [val_eq f hx];rfl
 |inp q _=>exact absurd q (by decide)
 |and q _=>exact absurd q (by decide)
theorem yes_one{gs:List G}{kn:List (List Int×V)}(h:COk gs kn)(f:Nat→Bool):Yes (val f gs) 1:=by
 unfold Yes;rw [show (1:Int).natAbs=1 from rfl,val_tru h];rfl
theorem no_one{gs:List G}{kn:List (List Int×V)}(h:COk gs kn)(f:Nat→Bool) : ¬ Yes (val f gs) (-1):=fun q=>(Yes.neg (by decide)).mp q (yes_one h f)
theorem Yes.take{gs t:List G}{f:Nat→Bool}{x:Int}(h:x.natAbs<gs.length):Yes (val f (gs++t)) x↔Yes (val f gs) x:=by unfold Yes;rw [val_take f h]
inductive AllI(v:V)(L:List Int)(σ:Hp)(i:Nat)(s:St):Prop
 |mk (h1:s.loc 0=some (.ref 1)) (h2:s.loc 1=some v) (h3:s.loc 2=some (.ref 440)) (kvs:List (Int×V)) (h4:s.hp=upd σ 440 (some (.idict kvs))) (nd:(kvs.map (·.1)).Nodup) (km : ∀ x,x∈kvs.map (·.1)↔x∈L.take i∧x≠1)
   (no : ∀ x∈kvs.map (·.1),x≠ -1∧ -x∉kvs.map (·.1))
end L03
end Lay
namespace Lay
namespace L03
variable{gs:List G}{kn:List (List Int×V)}{σ:Hp}
theorem allof_ws{v:V}{L:List Int}(h:CircAt gs kn σ)(ok:COk gs kn)(hl:gs.length≤900)(hn:Free 440 σ)(hst:v.stays 440=true)(hit : ∀ s:St,seqItems v s=some (L.map .int))(hL:L.length≤4)(hg : ∀ x∈L,1≤x.natAbs∧x.natAbs<gs.length) :
  Ws (runF 440 2 m_Circuit_all_of) [.ref 1,v] σ (GateR gs (fun f => ∀ x∈L,Yes (val f gs) x) 1 σ):=by
 have l1000:1001<lim:=by decide
 have l5:=ok.len
 refine Ws.fn rfl ?_
 unfold m_Circuit_all_of
 refine .seq (.assign (.new (hn 440 (Yy _)) ?_))
 refine .seq (.for (.getL (v:=v) rfl ⟨hst,.forS (xs:=L.map .int) (AllI v L σ) ⟨rfl,rfl,rfl,[],rfl,Xf,fun x=>by simp,fun _ h=>nomatch h⟩ (fun _ s _=>hit s) ?_ ?_⟩))
 ·rintro i s x ⟨a0,a1,a2,kvs,a3,a4,km,no⟩ hx
  rw [X8] at hx
  obtain⟨y,hy,rfl⟩:=Xl.mp hx
  have hyL:=Xa hy
  have y1:=(hg y hyL).1
  have htk:L.take (i+1)=L.take i ++ [y]:=by rw [List.take_add_one,hy];rfl
  have hk:s.hp 440=some (.idict kvs):=by rw [a3,Zc]
  have hkl:kvs.length≤L.length:=by have:=Zt a4 (b:=L) fun x hx=>List.mem_of_mem_take ((km x).mp hx).1;rwa [X4] at this
  have stop:(∀ f,¬ ∀ x∈L,Yes (val f gs) x)→∃ v v',flV (.ret (.int (-1)))=some v∧leaveV 440 v s.hp=some v'∧GateR gs (fun f => ∀ x∈L,Yes (val f gs) x) 1 σ v' (cut 440 s.hp):=fun w=>by
   refine⟨_,_,rfl,Zi fun _=>V.noConfusion,-1,[],kn,rfl,by decide,by rw [Xe];show 1<_;exact(Yq (nlt 1 5 rfl) l5),by rw [Xe];exact ok,?_,?_,Yx _,fun f=>⟨fun q=>?_,fun q=>absurd q (w f)⟩⟩
   ·rw [a3,cut_own hn (Yy _),Xe];exact h
   ·rw [a3,cut_own hn (Yy _)];exact Fr5.refl _
   ·rw [Xe] at q;exact absurd q (no_one ok f)
  refine .setL (.seq (.ite (.or1 (.tcmp (.getL (v:=.int y) rfl (.op1 (.pure (W.neg (W.eqI (.asBool ⟨fun hb=>⟨fun _=>.seq (.ret (.op1 (.pure (W.neg (stop fun f q=>?_))))),nofun⟩,fun hb=>?_⟩))))))))))
  ·have hb:y = -1:=by simpa using hb
   subst hb
   exact no_one ok f (q _ hyL)
  have hb:y≠ -1:=by simpa using hb
  refine .or1 (.tcmp (.op1 (.getL (v:=.int y) rfl (W.neg (.getL (v:=.ref 440) a2 (W.inD (Y3 hk) (.asBool ⟨fun hc=>⟨fun _=>.seq (.ret (.op1 (.pure (W.neg (stop fun f q=>?_))))),nofun⟩,fun hc=>.or0 ⟨nofun,fun _=>.end ?_⟩⟩)))))))
  ·rw [W3] at hc
   have h1:=(km _).mp ((kv_keys_some _ _).mp hc)
   exact(Yes.neg (by lia)).mp (q _ (List.mem_of_mem_take h1.1)) (q _ hyL)
  rw [W3] at hc
  have hno : -y∉kvs.map (·.1):=fun q=>Bool.noConfusion (hc.symm.trans ((kv_keys_some _ _).mpr q))
  refine .seq (.ite (.tcmp (.getL (v:=.int y) rfl (.pure (W.eqI (.asBool ⟨fun hb2=>?_,fun hb2=>.end (.end ⟨a0,a1,a2,kvs,a3,a4,fun x=>?_,no⟩)⟩))))))
  ·have hb2:y≠1:=by simpa using hb2
   refine .seq (.assignSub (.pure (.getL (v:=.ref 440) a2 (.getL (v:=.int y) rfl (W.setD hk rfl (by exact(Yt (Yr (Ys hkl hL) (nlt 4 1001 rfl)) l1000)) (.end (.end ⟨a0,a1,a2,kvSet kvs y (.bool true),by dsimp only;rw [a3,upd_upd],kvSet_nodup _ _ _ a4,fun x=>?_,fun x hx=>?_⟩)))))))
   ·rw [kvSet_mem,km,htk,X9,X7]
    constructor
    ·rintro(⟨q1,q2⟩|rfl)
     ·exact⟨.inl q1,q2⟩
     ·exact⟨.inr rfl,hb2⟩
    ·rintro⟨q|q,q2⟩
     ·exact .inl ⟨q,q2⟩
     ·exact .inr q
   ·rw [kvSet_mem] at hx ⊢
    rcases hx with q|rfl
    ·exact⟨(no x q).1,fun w=>w.elim (no x q).2 fun e=>hno (by rw [←e,Int.neg_neg];exact q)⟩
    ·exact⟨hb,fun w=>w.elim hno fun e=>by lia⟩
  ·have hb2:y=1:=by simpa using hb2
   rw [km,htk,X9,X7]
   exact⟨fun q=>⟨.inl q.1,q.2⟩,fun q=>⟨q.1.elim id fun e=>absurd (e.trans hb2) q.2,q.2⟩⟩
 ·rintro s ⟨a0,a1,a2,kvs,a3,a4,km,no⟩
  rw [X4,List.take_length] at km
  have hk:s.hp 440=some (.idict kvs):=by rw [a3,Zc]
  have hkl:(kvs.map (·.1)).length≤L.length:=Zt a4 fun x hx=>((km x).mp hx).1
  have pm:=sortI_perm (kvs.map (·.1))
  have nd:=pm.nodup_iff.mpr a4
  have sl:=pm.length_eq
  refine .seq (.assign (.call (.cons (.call (.cons (.getL (v:=.ref 440) a2 (.nil (W.sorted (coll_dict (Y3 hk)) (by exact(Yr (Ys hkl hL) (nlt 4 64 rfl))) (.nil (W.tuple lst_at (Yd _) (lmLe (by lia)) ?_))))))))))
  have sm : ∀ x,x∈sortI (kvs.map (·.1))↔x∈L∧x≠1:=fun x=>pm.mem_iff.trans (km x)
  have no' : ∀ x∈sortI (kvs.map (·.1)),x≠ -1∧ -x∉sortI (kvs.map (·.1)):=fun x hx=>⟨(no x (pm.mem_iff.mp hx)).1,fun q=>(no x (pm.mem_iff.mp hx)).2 (pm.mem_iff.mp q)⟩
  generalize sortI (kvs.map (·.1))=ps at sm sl nd no'
  have pl:ps.length≤4:=by exact(Ys (Ys (Yz sl) hkl) hL)
  have pg : ∀ p∈ps,2≤p.natAbs∧p.natAbs<gs.length:=fun p hp=>by
   have q1:=hg p ((sm p).mp hp).1
   have q2:=((sm p).mp hp).2
   have q3:=(no' p hp).1
   lia
  have psem : ∀ f,(∀ x∈L,Yes (val f gs) x)↔∀ p∈ps,Yes (val f gs) p:=fun f=>⟨fun q p hp=>q p ((sm p).mp hp).1,fun q x hx=>by
   by_cases e:x=1
   ·rw [e];exact yes_one ok f
   ·exact q x ((sm x).mpr ⟨hx,e⟩)⟩
  have h':CircAt gs kn s.hp:=h.mono fun n q=>by rw [a3,upd_ne _ _ (by exact(Yu (Yr q (nlt 5 440 rfl))))]
  have fin : ∀ g:Int,1≤g.natAbs→g.natAbs<gs.length→(∀ f,Yes (val f gs) g↔∀ p∈ps,Yes (val f gs) p)→∃ v v',flV (.ret (.int g))=some v∧leaveV 440 v s.hp=some v'∧GateR gs (fun f => ∀ x∈L,Yes (val f gs) x) 1 σ v' (cut 440 s.hp):=fun g q1 q2 q3=>by
   refine⟨_,_,rfl,Zi fun _=>V.noConfusion,g,[],kn,rfl,q1,by rwa [Xe],by rwa [Xe],by rw [Xe];exact h'.cut (by decide),?_,Yx _,fun f=>?_⟩
   ·rw [a3,cut_own hn (Yy _)];exact Fr5.refl _
   ·rw [Xe,psem f];exact q3 f
  have tail : ∀ (t:List G) (kn':List (List Int×V)) (τ:Hp) (loc:Nat→Option V),CircAt (gs++t) kn' τ→COk (gs++t) kn'→Fr5 s.hp τ→t.length≤1→(kvGet kn' ps).isSome=true→loc 0=some (.ref 1)→loc 4=some (tupI ps)→
    Wp (M.seq (Y.ret (X.op2 vItem (X.op1 (getAC 222 (Xx "known")) (M.getL 0)) (M.getL 4))) (Y.end)) ⟨loc,τ⟩ (Qk.fn 440 (GateR gs (fun f => ∀ x∈L,Yes (val f gs) x) 1 σ)):=fun t kn' τ loc c1 c2 c3 c5 c6 c7 c8=>by
   obtain⟨u,hu⟩:=Option.isSome_iff_exists.mp c6
   obtain⟨i,rfl,hi⟩:=c2.known _ _ hu
   have i1:=(c2.parts hi).1
   refine .seq (.ret (.op2 (.op1 (.getL (v:=.ref 1) c7 (W.known c1 (.getL (v:=tupI ps) c8 (W.itemK c1.n hu ⟨_,_,rfl,Zi fun _=>V.noConfusion,i,t,kn',rfl,by lia,(X5.mp hi).1,c2,c1.cut (by decide),?_,c5,fun f=>?_⟩)))))))
   ·refine Fr5.cut (o:=s.hp 440) ?_ hn (by decide)
    intro n q1 q2 q3
    dsimp only
    rw [c3 n q1 q2 q3,hk,a3]
   ·refine Iff.trans ?_ (((val_and c2 f hi).trans (forall_congr' fun p=>forall_congr' fun hp=>Yes.take (pg p hp).2)).trans (psem f).symm)
    unfold Yes
    rw [Int.natAbs_natCast,decide_eq_true (show 0<(i:Int) by lia)]
  have rest:2≤ps.length→∀ loc:Nat→Option V,loc 0=some (.ref 1)→loc 4=some (tupI ps)→Wp (M.seq (Y.ite (X.tcmp (vIn true) (M.getL 4) (X.op1 (getAC 222 (Xx "known")) (M.getL 0))) (M.seq (Y.assignSub (X.meth (instOk 222 (Xx "new_gate")) (callM (runF 480 3 m_Circuit_new_gate)) (M.getL 0) (X.cons (pure (.str (Xx "and"))) (X.cons (M.getL 4) X.nil))) (X.op1 (getAC 222 (Xx "known")) (M.getL 0)) (M.getL 4))
 (Y.end)) (Y.end))
 (M.seq (Y.ret (X.op2 vItem (X.op1 (getAC 222 (Xx "known")) (M.getL 0)) (M.getL 4)))
 (Y.end))) ⟨loc,s.hp⟩ (Qk.fn 440 (GateR gs (fun f => ∀ x∈L,Yes (val f gs) x) 1 σ)):=fun p2 loc c7 c8=>by
   refine .seq (.ite (.tcmp (.getL (v:=tupI ps) c8 (.op1 (.getL (v:=.ref 1) c7 (W.known h' (W.inT h'.n (.asBool ⟨fun hb=>?_,fun hb=>.end (tail [] kn _ _ (by rw [Xe];exact h') (by rw [Xe];exact ok) (Fr5.refl _) (Yx _) (by simpa using hb) c7 c8)⟩))))))))
   refine .seq (.assignSub (.meth (.getL (v:=.ref 1) c7 ⟨okC h' (by rfl),.cons (.pure (.cons (.getL (v:=tupI ps) c8 (.nil (.callM ((newgate_ws (.and ps) h' (by exact(Ys hl (nle 900 1000 rfl))) (by rw [a3];exact(hn.mono (by decide)).upd (by decide))).mono ?_))))))⟩)))
   rintro _ τ ⟨rfl,h5,f5⟩
   have k1:=ok.knl
   refine .op1 (.getL (v:=.ref 1) c7 (W.known h5 (.getL (v:=tupI ps) c8 (W.setT h5.n rfl (by exact(Yt (Yr (Ys k1 hl) (nlt 900 1001 rfl)) l1000)) (.end (tail [.and ps] (kvSet kn ps (.int gs.length)) (upd τ 5 (some (.tdict (kvSet kn ps (.int gs.length))))) loc ⟨h5.i,h5.a,h5.k,h5.p,Zc _ _ _⟩ (ok.add ⟨p2,pl,pg,?_⟩) (fun n q1 q2 q3=>by rw [upd_ne _ _ q3];exact f5 n q1 q2 q3) (Yy _) (by rw [Y8,if_pos rfl];rfl) c7 c8))))))
   refine nd.imp_of_mem fun {a b} ha hb q e=>?_
   rcases Int.natAbs_eq_natAbs_iff.mp e with w|w
   ·exact q w
   ·exact(no' b hb).2 (w▸ha)
  refine .seq (.ite (.tcmp (.call (.cons (.getL (v:=tupI ps) rfl (.nil (W.len (n:=ps.length) (by rw [show tupI ps = .tup (ps.map .int) from rfl,len_tup,X4]) (by exact(Yw (Yt (Yr pl (nlt 4 1001 rfl)) l1000))) (.pure (W.lt (.asBool ⟨fun hb=>?_,fun hb=>.end (rest (by simp at hb;lia) _ a0 rfl)⟩))))))))))
  have hb:ps.length<2:=by have:=of_decide_eq_true hb;lia
  refine .seq (.ret (.ife (.tcmp (.call (.cons (.getL (v:=tupI ps) rfl (.nil (W.len (n:=ps.length) (by rw [show tupI ps = .tup (ps.map .int) from rfl,len_tup,X4]) (by exact(Yw (Yt (Yr pl (nlt 4 1001 rfl)) l1000))) (.pure (W.eqI (.asBool ⟨fun hb2=>?_,fun hb2=>.pure (fin 1 (by decide) (by show 1<_;exact(Yq (nlt 1 5 rfl) l5)) fun f=>?_)⟩)))))))))))
  ·have hb2:ps.length=1:=by simp at hb2;lia
   obtain⟨p,rfl⟩:=len1 hb2
   have pg:=pg p (X7.mpr rfl)
   exact .op2 (.getL (v:=tupI [p]) rfl (.pure (W.itemT (u:=.int p) (by decide) (by decide) rfl (fin p (by exact(Ys (nle 1 2 rfl) pg.1)) pg.2 fun f=>by simp))))
  ·obtain rfl:ps = []:=List.eq_nil_of_length_eq_zero (by simp at hb2;lia)
   exact iff_of_true (yes_one ok f) fun _ q=>nomatch q
end L03
end Lay
namespace Lay
namespace L03
variable{gs:List G}{kn:List (List Int×V)}{σ:Hp}{a b:Int}
theorem Y9{L:List Int}(s:St):seqItems (.tup (L.map .int)) s=some (L.map .int):=seq_tup
noncomputable abbrev In(gs:List G)(a:Int):Prop:=1≤a.natAbs∧a.natAbs<gs.length
theorem In.neg{gs:List G}{a:Int}(h:In gs a):In gs (-a):=by unfold In;rw [W5];exact h
theorem In.nz{gs:List G}{a:Int}(h:In gs a):a≠0:=fun e=>by have:=h.1;subst e;exact absurd this (by decide)
theorem In.app{gs t:List G}{a:Int}(h:In gs a):In (gs++t) a:=⟨h.1,by rw [X6];exact Yq h.2 (X1 _ _)⟩
theorem implies_ws(h:CircAt gs kn σ)(ok:COk gs kn)(hl:gs.length≤900)(hn:Free 400 σ)(ha:In gs a)(hb:In gs b) :
  Ws (runF 400 3 m_Circuit_implies) [.ref 1,.int a,.int b] σ (GateR gs (fun f=>Yes (val f gs) a→Yes (val f gs) b) 1 σ):=by
 refine Ws.fn rfl ?_
 unfold m_Circuit_implies
 refine .seq (.ret (.op1 (.meth (.getL (v:=.ref 1) rfl ⟨okC h (by rfl),.cons (.tup (.cons (.getL (v:=.int a) rfl (.cons (.op1 (.getL (v:=.int b) rfl (W.neg (.nil (.mkTup rfl (show 2≤lim by decide) (.nil (.callM ((allof_ws (L := [a,-b]) h ok hl (hn.mono (by decide)) rfl Y9 (show 2≤4 by decide) ?_).mono ?_))))))))))))⟩))))
 ·intro x hx
  simp only [Xd,List.not_mem_nil,or_false] at hx
  rcases hx with rfl|rfl
  ·exact ha
  ·exact hb.neg
 ·rintro v σ' ⟨g,t,kn',rfl,h1,h2,h3,h4,h5,h6,sem⟩
  refine W.neg ⟨_,_,rfl,Zi fun _=>V.noConfusion,-g,t,kn',rfl,by rwa [W5],by rwa [W5],h3,?_,?_,h6,fun f=>?_⟩
  ·rw [show cut _ _=_ from cut_free (h5.free hn (by decide))];exact h4
  ·rw [show cut _ _=_ from cut_free (h5.free hn (by decide))];exact h5
  ·rw [Yes.neg (fun e=>by subst e;exact absurd h1 (by decide)),sem f]
   simp only [List.forall_mem_cons,List.not_mem_nil,false_implies,implies_true,and_true,Yes.neg hb.nz,not_and,Classical.not_not]
end L03
end Lay
namespace Lay
namespace L03
variable{gs:List G}{kn:List (List Int×V)}{σ:Hp}{a b c:Int}
theorem anyof_ws{L:List Int}{n:Nat}(h:CircAt gs kn σ)(ok:COk gs kn)(hl:gs.length≤900)(hn:Free 420 σ)(hL:L.length≤4)(hg : ∀ x∈L,In gs x) :
  Ws (runF 420 2 m_Circuit_any_of) [.ref 1,.lst (L.map .int)] σ (GateR gs (fun f => ∃ x∈L,Yes (val f gs) x) 1 σ):=by
 have hlim:64≤lim:=by decide
 refine Ws.fn rfl ?_
 unfold m_Circuit_any_of
 refine .seq (.ret (.op1 (.meth (.getL (v:=.ref 1) rfl ⟨okC h (by rfl),.cons (W.filt (RS:=L) (emb:=V.int) (e:=fun x=>V.int (-x)) (p:=fun _=>true) (v:=.lst (L.map .int)) (.getL rfl ⟨rfl,rfl⟩) rfl (fun _ _=>Yl) ?_ ?_ (fun _ _=>rfl) (by exact(Yq (Yr hL (nlt 4 64 rfl)) hlim)) fun s' e1 e2=>.nil (.callM (Ws.mono (Q:=GateR gs (fun f => ∀ x∈L.map (fun x => -x),Yes (val f gs) x) 1 σ) ?_ ?_)))⟩))))
 ·intro a ha s' _ _ _;exact .and0 ⟨rfl,rfl⟩
 ·intro a ha _ s' _ _ a3;exact .op1 (.getL a3 (W.neg ⟨rfl,rfl⟩))
 ·rw [List.filter_eq_self.mpr fun _ _=>rfl,e1,show L.map (fun x=>V.int (-x))=(L.map (fun x => -x)).map V.int by rw [List.map_map];rfl]
  refine allof_ws h ok hl (hn.mono (by decide)) rfl (fun _=>Yl) (by rw [X4];exact hL) fun x hx=>?_
  obtain⟨y,hy,rfl⟩:=List.mem_map.mp hx
  exact(hg y hy).neg
 ·rintro v σ' ⟨g,t,kn',rfl,h1,h2,h3,h4,h5,h6,sem⟩
  refine W.neg ⟨_,_,rfl,Zi fun _=>V.noConfusion,-g,t,kn',rfl,by rwa [W5],by rwa [W5],h3,?_,?_,h6,fun f=>?_⟩
  ·rw [show cut _ _=_ from cut_free (h5.free hn (by decide))];exact h4
  ·rw [show cut _ _=_ from cut_free (h5.free hn (by decide))];exact h5
  ·rw [Yes.neg (fun e=>by subst e;exact absurd h1 (by decide)),sem f]
   constructor
   ·intro q
    exact Xr fun w=>q fun x hx=>by
     obtain⟨y,hy,rfl⟩:=List.mem_map.mp hx
     exact(Yes.neg (hg y hy).nz).mpr fun z=>w ⟨y,hy,z⟩
   ·rintro⟨x,hx,q⟩ w
    exact(Yes.neg (hg x hx).nz).mp (w _ (List.mem_map.mpr ⟨x,hx,rfl⟩)) q
end L03
end Lay
namespace Lay
namespace L03
variable{gs:List G}{kn:List (List Int×V)}{σ:Hp}{a b c:Int}
theorem GateR.cut{P:(Nat→Bool)→Prop}{d B:Nat}{g:Int}{t:List G}{kn':List (List Int×V)}{σ':Hp}(hn:Free B σ)(hB:5<B)(h2:In (gs++t) g)(h4:COk (gs++t) kn')(h5:CircAt (gs++t) kn' σ')(h6:Fr5 σ σ')(h7:t.length≤d)(sem : ∀ f,Yes (val f (gs++t)) g↔P f) :
  GateR gs P d σ (.int g) (Lay.cut B σ'):=by
 rw [cut_free (h6.free hn hB)]
 exact⟨g,t,kn',rfl,h2.1,h2.2,h4,h5,h6,h7,sem⟩
theorem two_ws{P1 P2:(Nat→Bool)→Prop}{B:Nat}{t1 t2:List G}{kn':List (List Int×V)}{σ':Hp}{g1 g2:Int}(hl:gs.length≤880)(l1:t1.length≤1)(l2:t2.length≤1)(hn:Free B σ)(hB:B≤440)(h5B:5<B)(i1:In (gs++t1) g1)(i2:In (gs++t1++t2) g2)
  (ok:COk (gs++t1++t2) kn') (h:CircAt (gs++t1++t2) kn' σ') (fr:Fr5 σ σ') (s1 : ∀ f,Yes (val f (gs++t1)) g1↔P1 f) (s2 : ∀ f,Yes (val f (gs++t1++t2)) g2↔P2 f) :
  Ws (runF 440 2 m_Circuit_all_of) [.ref 1,.tup [.int g1,.int g2]] σ' (fun v σ''=>GateR gs (fun f=>P1 f∧P2 f) 3 σ v (Lay.cut B σ'')):=by
 refine(allof_ws (L := [g1,g2]) h ok (by simp only [X6];lia) (fr.free (hn.mono hB) (by decide)) rfl Y9 (show 2≤4 by decide) ?_).mono ?_
 ·intro x hx
  simp only [Xd,List.not_mem_nil,or_false] at hx
  rcases hx with rfl|rfl
  ·exact i1.app
  ·exact i2
 ·rintro v σ'' ⟨g,t,kn',rfl,h1,h2,h3,h4,h5,h6,sem⟩
  have e:gs++t1++t2++t=gs++(t1++t2++t):=by simp only [List.append_assoc]
  rw [e] at h2 h3 h4 sem
  refine GateR.cut hn h5B ⟨h1,h2⟩ h3 h4 (fr.trans h5) (by simp only [X6];lia) fun f=>(sem f).trans ?_
  simp only [List.forall_mem_cons,List.not_mem_nil,false_implies,implies_true,and_true]
  rw [Yes.take i1.2,s1,s2]
theorem iff_ws(h:CircAt gs kn σ)(ok:COk gs kn)(hl:gs.length≤880)(hn:Free 380 σ)(ha:In gs a)(hb:In gs b) :
  Ws (runF 380 3 m_Circuit_iff) [.ref 1,.int a,.int b] σ (GateR gs (fun f=>(Yes (val f gs) a→Yes (val f gs) b)∧(Yes (val f gs) b→Yes (val f gs) a)) 3 σ):=by
 refine Ws.fn rfl ?_
 unfold m_Circuit_iff
 refine .seq (.ret (.meth (.getL (v:=.ref 1) rfl ⟨okC h (by rfl),.cons (.tup (.cons (.meth (.getL (v:=.ref 1) rfl ⟨okC h (by rfl),.cons (.getL (v:=.int a) rfl (.cons (.getL (v:=.int b) rfl (.nil (.callM ((implies_ws h ok (by exact(Ys hl (nle 880 900 rfl))) (hn.mono (by decide)) ha hb).mono ?_))))))⟩))))⟩)))
 rintro v σ1 ⟨g,t1,k1,rfl,a1,a2,a3,a4,a5,a6,a7⟩
 refine .cons (.meth (.getL (v:=.ref 1) rfl ⟨okC a4 (by rfl),.cons (.getL (v:=.int b) rfl (.cons (.getL (v:=.int a) rfl (.nil (.callM ((implies_ws a4 a3 (by simp only [X6];lia) (a5.free (hn.mono (by decide)) (by decide)) hb.app ha.app).mono ?_))))))⟩))
 rintro v σ2 ⟨g',t2,k2,rfl,b1,b2,b3,b4,b5,b6,b7⟩
 refine .nil (.mkTup rfl (show 2≤lim by decide) (.nil (.callM ((two_ws hl a6 b6 hn (by decide) (by decide) ⟨a1,a2⟩ ⟨b1,b2⟩ b3 b4 (a5.trans b5) a7 b7).mono fun v σ' q=>?_))))
 obtain⟨g,t,kn',rfl,q⟩:=q
 refine⟨_,_,rfl,Zi fun _=>V.noConfusion,g,t,kn',rfl,‹_›,‹_›,‹_›,‹_›,‹_›,‹_›,fun f=>?_⟩
 rename_i sem
 rw [sem f,Yes.take ha.2,Yes.take hb.2]
end L03
end Lay
namespace Lay
namespace L03
variable{gs:List G}{kn:List (List Int×V)}{σ:Hp}{a b c:Int}
theorem choose_ws(h:CircAt gs kn σ)(ok:COk gs kn)(hl:gs.length≤880)(hn:Free 360 σ)(hc:In gs c)(ha:In gs a)(hb:In gs b) :
  Ws (runF 360 4 m_Circuit_choose) [.ref 1,.int c,.int a,.int b] σ (GateR gs (fun f=>(Yes (val f gs) c→Yes (val f gs) a)∧(¬ Yes (val f gs) c→Yes (val f gs) b)) 3 σ):=by
 refine Ws.fn rfl ?_
 unfold m_Circuit_choose
 refine .seq (.ret (.meth (.getL (v:=.ref 1) rfl ⟨okC h (by rfl),.cons (.tup (.cons (.meth (.getL (v:=.ref 1) rfl ⟨okC h (by rfl),.cons (.getL (v:=.int c) rfl (.cons (.getL (v:=.int a) rfl (.nil (.callM ((implies_ws h ok (by exact(Ys hl (nle 880 900 rfl))) (hn.mono (by decide)) hc ha).mono ?_))))))⟩))))⟩)))
 rintro v σ1 ⟨g,t1,k1,rfl,a1,a2,a3,a4,a5,a6,a7⟩
 refine .cons (.meth (.getL (v:=.ref 1) rfl ⟨okC a4 (by rfl),.cons (.op1 (.getL (v:=.int c) rfl (W.neg (.cons (.getL (v:=.int b) rfl (.nil (.callM ((implies_ws a4 a3 (by simp only [X6];lia) (a5.free (hn.mono (by decide)) (by decide)) hc.neg.app hb.app).mono ?_))))))))⟩))
 rintro v σ2 ⟨g',t2,k2,rfl,b1,b2,b3,b4,b5,b6,b7⟩
 refine .nil (.mkTup rfl (show 2≤lim by decide) (.nil (.callM ((two_ws hl a6 b6 hn (by decide) (by decide) ⟨a1,a2⟩ ⟨b1,b2⟩ b3 b4 (a5.trans b5) a7 b7).mono fun v σ' q=>?_))))
 obtain⟨g,t,kn',rfl,q⟩:=q
 refine⟨_,_,rfl,Zi fun _=>V.noConfusion,g,t,kn',rfl,‹_›,‹_›,‹_›,‹_›,‹_›,‹_›,fun f=>?_⟩
 rename_i sem
 rw [sem f,Yes.take hc.neg.2,Yes.take hb.2,Yes.neg hc.nz]
end L03
end Lay
namespace Lay
namespace L03
noncomputable def Msk(P:Nat→Prop)(m:Nat):Prop:=m<2^8∧∀ r,r<8→(m.testBit r=true↔P r)
theorem Msk.eq{P:Nat→Prop}{m k:Nat}(h:Msk P m)(h':Msk P k):m=k:=by
 refine Nat.eq_of_testBit_eq fun i=>?_
 by_cases q:i<8
 ·exact Bool.eq_iff_iff.mpr ((h.2 i q).trans (h'.2 i q).symm)
 ·have q:2^8≤2^i:=Nat.pow_le_pow_right (by decide) (X0 q)
  rw [Nat.testBit_lt_two_pow (Yq h.1 q),Nat.testBit_lt_two_pow (Yq h'.1 q)]
theorem Msk.iff{P Q:Nat→Prop}{m:Nat}(h:Msk P m)(k : ∀ r,r<8→(P r↔Q r)):Msk Q m:=⟨h.1,fun r q=>(h.2 r q).trans (k r q)⟩
section
variable{P Q:Nat→Prop}{m k:Nat}(h:Msk P m)(h':Msk Q k)
include h
theorem Msk.not:Msk (fun r => ¬ P r) (255-m):=by
 have e:255-m=2^8-(m+1):=(Nat.sub_add_eq 256 1 m).symm.trans (congrArg (256 - ·) (Nat.add_comm 1 m))
 refine⟨Yr (Nat.sub_le 255 m) (by decide),fun r q=>?_⟩
 rw [e,Nat.testBit_two_pow_sub_succ h.1]
 show _↔¬ P r
 rw [←h.2 r q];simp [q]
include h'
theorem Msk.and:Msk (fun r=>P r∧Q r) (m&&&k):=⟨Nat.and_lt_two_pow _ h'.1,fun r q=>by rw [Nat.testBit_and,W4,h.2 r q,h'.2 r q]⟩
theorem Msk.or:Msk (fun r=>P r∨Q r) (m|||k):=⟨Nat.or_lt_two_pow h.1 h'.1,fun r q=>by rw [Nat.testBit_or,Bool.or_eq_true,h.2 r q,h'.2 r q]⟩
theorem Msk.xor:Msk (fun r => ¬ (P r↔Q r)) (m^^^k):=⟨Nat.xor_lt_two_pow h.1 h'.1,fun r q=>by rw [Nat.testBit_xor];show _↔¬ (P r↔Q r);rw [←h.2 r q,←h'.2 r q];cases m.testBit r<;>cases k.testBit r<;>decide⟩
end
theorem not_nat{a:Nat}:Builtin.bitNot (a:Int)=Int.negSucc a:=by
 show -(a:Int)-1=_
 rw [Int.negSucc_eq,Int.neg_add];rfl
theorem not_neg{a:Nat}:Builtin.bitNot (Int.negSucc a)=a:=by
 show -Int.negSucc a-1=_
 rw [Int.neg_negSucc];exact Int.add_sub_cancel (a:Int) 1
theorem bor_nat{a b:Nat}:Builtin.bitOr a b=((a|||b:Nat):Int):=by
 unfold Builtin.bitOr
 rw [not_nat,not_nat]
 show Builtin.bitNot (Builtin.bitNot (((Builtin.bitNot (Int.negSucc a)).toNat|||(Builtin.bitNot (Int.negSucc b)).toNat:Nat):Int))=_
 rw [not_neg,not_neg,not_nat,not_neg];rfl
theorem band_nat{a b:Nat}:Builtin.bitAnd a b=((a&&&b:Nat):Int):=rfl
theorem xor_add{a b:Nat}(ha:a<2^8)(hb:b<2^8):(a^^^b)+(a&&&b)=a|||b:=by
 have hx:=Nat.xor_lt_two_pow ha hb
 have hy:=Nat.and_lt_two_pow a hb
 have z:(a^^^b)&&&(a&&&b)=0:=Nat.eq_of_testBit_eq fun i=>by
  rw [Nat.testBit_and,Nat.testBit_xor,Nat.testBit_and,Nat.zero_testBit]
  cases a.testBit i<;>cases b.testBit i<;>rfl
 have e : ∀ {n:Nat},n<2^8→(BitVec.ofNat 9 n).toNat=n:=fun h=>Nat.mod_eq_of_lt (Yt h (by decide))
 have h:=congrArg BitVec.toNat (BitVec.add_eq_or_of_and_eq_zero (BitVec.ofNat 9 (a^^^b)) (BitVec.ofNat 9 (a&&&b)) (BitVec.eq_of_toNat_eq (by rw [BitVec.toNat_and,e hx,e hy,z];rfl)))
 rw [BitVec.toNat_add,BitVec.toNat_or,e hx,e hy,Nat.mod_eq_of_lt (Nat.add_lt_add hx hy)] at h
 rw [h]
 exact Nat.eq_of_testBit_eq fun i=>by
  rw [Nat.testBit_or,Nat.testBit_or,Nat.testBit_xor,Nat.testBit_and]
  cases a.testBit i<;>cases b.testBit i<;>rfl
theorem bxor_nat{a b:Nat}(ha:a<2^8)(hb:b<2^8):Builtin.bitXor a b=((a^^^b:Nat):Int):=by
 rw [Builtin.bitXor,bor_nat,band_nat,←xor_add ha hb,Int.natCast_add];exact Int.add_sub_cancel _ _
theorem rsh_nat{a r:Nat}:Builtin.bitAnd ((a:Int).fdiv (2^(r:Int).toNat)) 1=((if a.testBit r then 1 else 0:Nat):Int):=by
 rw [Int.toNat_natCast,show ((2:Int)^r)=((2^r:Nat):Int) by simp,Int.fdiv_eq_ediv_of_nonneg _ (Int.natCast_nonneg _),←Int.natCast_ediv,show (1:Int)=((1:Nat):Int) from rfl,band_nat,Nat.testBit_eq_decide_div_mod_eq,show a/2^r&&&1=a/2^r%2 from Nat.and_two_pow_sub_one_eq_mod _ 1]
 congr 1
 split<;>rename_i q<;>simp at q<;>lia
noncomputable def row(r i:Nat):Bool:=r.testBit (i-2)
theorem msk_all:Msk (fun _=>True) 255:=⟨by decide,by decide⟩
theorem msk_in{i m:Nat}(h:(i=2∧m=170)∨(i=3∧m=204)∨(i=4∧m=240)):Msk (fun r=>row r i=true) m:=by
 rcases h with⟨rfl,rfl⟩|⟨rfl,rfl⟩|⟨rfl,rfl⟩<;>exact⟨by decide,by decide⟩
end L03
end Lay
namespace Lay
namespace L03
variable{gs:List G}{kn:List (List Int×V)}{σ:Hp}{kvs:List (Int×V)}{n:Nat}
noncomputable def upK(n:Nat):List Int:=(List.range n).map fun i=>((i+1:Nat):Int)
structure MkOk(gs:List G)(n:Nat)(kvs:List (Int×V)):Prop where
 keys:kvs.map (·.1)=upK n
 val : ∀ i:Nat,1≤i→i≤n→∃ m:Nat,kvGet kvs i=some (.int m)∧Msk (fun r=>val (row r) gs i=true) m
theorem upK_mem{k i:Nat}:((i:Nat):Int)∈upK k↔1≤i∧i≤k:=by
 unfold upK
 rw [List.mem_map]
 constructor
 ·rintro⟨j,hj,e⟩;rw [List.mem_range] at hj;lia
 ·rintro⟨h1,h2⟩;exact⟨i-1,List.mem_range.mpr (by lia),by lia⟩
theorem upK_succ{k:Nat}:upK (k+1)=upK k ++ [((k+1:Nat):Int)]:=by unfold upK;rw [List.range_succ,Xc];rfl
theorem MkOk.set{v:V}(h:kvs.map (·.1)=upK n):(kvSet kvs ((n+1:Nat):Int) v).map (·.1)=upK (n+1):=by
 rw [kvSet_keys,if_neg,upK_succ,h]
 rw [h,upK_mem];lia
theorem MkOk.set'{v:V}(h:kvs.map (·.1)=upK (n+1)):(kvSet kvs ((n+1:Nat):Int) v).map (·.1)=upK (n+1):=by
 rw [kvSet_keys,if_pos,h]
 rw [h,upK_mem];lia
theorem mask_ws{g:Int}(h:σ 101=some (.idict kvs))(ok : ∀ i:Nat,1≤i→i≤n→∃ m:Nat,kvGet kvs i=some (.int m)∧Msk (fun r=>L03.val (row r) gs i=true) m)(hn:Free 700 σ)(hg:1≤g.natAbs∧g.natAbs≤n) :
  Ws (runF 700 2 m__law_mask) [.ref 101,.int g] σ (fun v σ'=>σ'=σ∧∃ m:Nat,v = .int m∧Msk (fun r=>Yes (L03.val (row r) gs) g) m):=by
 obtain⟨m,h1,h2⟩:=ok _ hg.1 hg.2
 refine Ws.fn rfl ?_
 unfold m__law_mask
 refine .seq (.ret (.ife (.tcmp (.getL (v:=.int g) rfl (.pure (W.gt (.asBool ⟨fun hb=>?_,fun hb=>?_⟩)))))))
 ·have hb:=of_decide_eq_true hb
  refine .op2 (.getL (v:=.ref 101) rfl (.getL (v:=.int g) rfl (W.itemD (Y3 h) (u:=.int m) (by rw [←h1];congr 1;lia) ⟨_,_,rfl,Zi fun _=>V.noConfusion,cut_free hn,m,rfl,h2.iff fun r _=>?_⟩)))
  unfold Yes;rw [decide_eq_true hb]
 ·have hb:=of_decide_eq_false hb
  have l:=h2.1
  refine .op2 (.pure (.op2 (.getL (v:=.ref 101) rfl (.op1 (.getL (v:=.int g) rfl (W.neg (W.itemD (Y3 h) (u:=.int m) (by rw [←h1];congr 1;lia) (W.sub ⟨_,_,rfl,Zi fun _=>V.noConfusion,cut_free hn,255-m,?_,h2.not.iff fun r _=>?_⟩))))))))
  ·congr 1;lia
  ·unfold Yes;rw [decide_eq_false hb,Bool.not_eq_true]
inductive FiI(gs:List G)(σ:Hp)(n:Nat)(i:Nat)(s:St):Prop
 |mk (h0:s.loc 0=some (.ref 1)) (h1:s.loc 1=some (.ref 101)) (kvs:List (Int×V)) (h:s.hp=upd σ 101 (some (.idict kvs))) (ok:MkOk gs (n+i) kvs)
inductive FiJ(gs:List G)(σ:Hp)(n:Nat)(ps:List Int)(i:Nat)(s:St):Prop
 |mk (h0:s.loc 0=some (.ref 1)) (h1:s.loc 1=some (.ref 101)) (h2:s.loc 2=some (.int (n+1:Nat))) (kvs:List (Int×V)) (h:s.hp=upd σ 101 (some (.idict kvs))) (keys:kvs.map (·.1)=upK (n+1))
  (ok : ∀ i:Nat,1≤i→i≤n→∃ m:Nat,kvGet kvs i=some (.int m)∧Msk (fun r=>val (row r) gs i=true) m) (m:Nat) (hm:kvGet kvs ((n+1:Nat):Int)=some (.int m)) (ms:Msk (fun r => ∀ p∈ps.take i,Yes (val (row r) gs) p) m)
noncomputable def FrM(σ σ':Hp):Prop := ∀ m,m≠101→σ' m=σ m
theorem filled_ws(hc:CircAt gs kn σ)(cok:COk gs kn)(hl:gs.length≤900)(h:σ 101=some (.idict kvs))(ok:MkOk gs n kvs)(hn:Free 170 σ)(h4:4≤n)(hle:n+1≤gs.length) :
  Ws (runF 170 2 m__law_filled) [.ref 1,.ref 101] σ (fun _ σ'=>FrM σ σ'∧∃ kvs,σ' 101=some (.idict kvs)∧MkOk gs (gs.length-1) kvs):=by
 have l1000:1001<lim:=by decide
 have kl : ∀ {kvs:List (Int×V)} {n:Nat},kvs.map (·.1)=upK n→kvs.length=n:=fun e=>by have:=congrArg List.length e;simpa [upK] using this
 have hC : ∀ o,CircAt gs kn (upd σ 101 o):=fun o=>hc.mono fun n q=>by rw [upd_ne _ _ (by exact(Yu (Yr q (nlt 5 101 rfl))))]
 have hF : ∀ o,Free 170 (upd σ 101 o):=fun o=>hn.upd (by decide)
 have e0:upd σ 101 (some (.idict kvs))=σ:=by
  funext k
  by_cases q:k=101
  ·rw [q,Zc,h]
  ·rw [upd_ne _ _ q]
 refine Ws.fn rfl ?_
 unfold m__law_filled
 refine .seq (.for (.call (.cons (.op2 (.call (.cons (.getL (v:=.ref 101) rfl (.nil (W.len (len_dct (Y3 h)) (by rw [kl ok.keys];lia) (.pure (W.add (.cons (.op2 (.meth (.getL (v:=.ref 1) rfl ⟨okC hc (by rfl),.nil (.callM ((size_ws hc (by exact(Ys hl (nle 900 1000 rfl))) (hn.mono (by decide))).mono ?_))⟩)))))))))))))))
 rintro v τ ⟨rfl,rfl⟩
 rw [kl ok.keys]
 refine .pure (W.add (.nil (W.range2 ⟨rfl,?_⟩)))
 refine .forS (xs:=_) (FiI gs τ n) ⟨rfl,rfl,kvs,e0.symm,ok⟩ (fun i s _=>Yh (by lia) (by lia)) ?_ ?_
 ·rintro i s x ⟨a0,a1,kv,a2,a3⟩ hx
  obtain⟨rfl,hi⟩:=rng_get hx
  have hlt:n+i+1<gs.length:=by lia
  have hg2:gs[n+i+1]?=some gs[n+i+1]:=X3 hlt
  generalize gs[n+i+1]=x at hg2
  obtain⟨ps,rfl⟩ : ∃ ps,x = .and ps:=by
   cases cok.well _ _ hg2 with
   |non q=>lia
   |tru q=>lia
   |inp q k=>lia
   |and q k=>exact⟨_,rfl⟩
  have pk:=(cok.parts hg2).2
  have k3:=kl a3.keys
  have eg:(n:Int)+1+i=((n+i+1:Nat):Int):=by lia
  have h101:s.hp 101=some (.idict kv):=by rw [a2,Zc]
  refine .setL (.seq (.assignSub (.pure (.getL (v:=.ref 101) a1 (.getL (v:=.int (n+1+i)) rfl (W.setD h101 rfl (by lia) ?_))))))
  dsimp only
  rw [a2,upd_upd,eg]
  refine .seq (.for (.meth (.getL (v:=.ref 1) a0 ⟨okC (hC _) (by rfl),.cons (.getL (v:=.int (n+i+1:Nat)) rfl (.nil (.callM ((parts_ws (g:=((n+i+1:Nat):Int)) (x:=.and ps) (hC _) hg2 (by exact(Ys hl (nle 900 1000 rfl))) ((hF _).mono (by decide))).mono ?_))))⟩)))
  rintro v τ2 ⟨rfl,rfl⟩
  refine⟨rfl,.forS (xs:=ps.map .int) (FiJ gs τ (n+i) ps) ⟨a0,a1,rfl,_,rfl,MkOk.set a3.keys,fun j q1 q2=>?_,255,by rw [Y8,if_pos rfl];rfl,msk_all.iff fun r _=>⟨fun _ _ q=>(nomatch q),fun _=>trivial⟩⟩ (fun _ _ _=>Y9 _) ?_ ?_⟩
  ·rw [Y8,if_neg (by lia)];exact a3.val j q1 q2
  ·rintro j s' y ⟨b0,b1,b2,kw,b3,b4,b5,m,b6,b7⟩ hy
   rw [X8] at hy
   obtain⟨p,hp,rfl⟩:=Xl.mp hy
   have hpm:=pk.lt p (Xa hp)
   have h101:s'.hp 101=some (.idict kw):=by rw [b3,Zc]
   have kw3:=kl b4
   refine .setL (.seq (.assignSub (.op2 (.op2 (.getL (v:=.ref 101) b1 (.getL (v:=.int (n+i+1:Nat)) b2 (W.itemD (Y3 h101) b6 (.call (.cons (.getL (v:=.ref 101) b1 (.cons (.getL (v:=.int p) rfl (.nil (.callM ((mask_ws (gs:=gs) (g:=p) h101 b5 (by rw [b3];exact(hF _).mono (by decide)) ⟨by exact(Ys (nle 1 2 rfl) hpm.1),by lia⟩).mono ?_)))))))))))))))
   rintro v τ3 ⟨rfl,m',rfl,hm'⟩
   refine W.band (.getL (v:=.ref 101) b1 (.getL (v:=.int (n+i+1:Nat)) b2 (W.setD h101 rfl (by lia) (.end ⟨b0,b1,b2,_,by dsimp only;rw [b3,upd_upd],MkOk.set' b4,fun j q1 q2=>?_,m&&&m',by rw [Y8,if_pos rfl];rfl,(b7.and hm').iff fun r _=>?_⟩))))
   ·rw [Y8,if_neg (by lia)];exact b5 j q1 q2
   ·rw [List.take_add_one,hp]
    simp only [Option.toList,List.forall_mem_append,List.forall_mem_singleton]
  ·rintro s' ⟨b0,b1,b2,kw,b3,b4,b5,m,b6,b7⟩
   rw [X4,List.take_length] at b7
   refine .end ⟨b0,b1,kw,b3,b4,fun j q1 q2=>?_⟩
   by_cases q:j≤n+i
   ·exact b5 j q1 q
   ·obtain rfl:j=n+i+1:=by lia
    exact⟨m,b6,b7.iff fun r _=>(val_and cok (row r) hg2).symm⟩
 ·rintro s ⟨a0,a1,kv,a2,a3⟩
  rw [X4,List.length_range,show n+((gs.length:Int)-1+1-(n+1)).toNat=gs.length-1 by lia] at a3
  refine .end ⟨_,_,rfl,Zi fun _=>V.noConfusion,?_⟩
  rw [a2,cut_free (hF _)]
  exact⟨fun m q=>upd_ne _ _ q,kv,Zc _ _ _,a3⟩
end L03
end Lay
namespace Lay
namespace L03
variable{gs:List G}{kn:List (List Int×V)}{σ:Hp}{kvs:List (Int×V)}{n:Nat}{xs pool:List Int}{al:Int}
noncomputable def FrC(σ σ':Hp):Prop := ∀ m,m≠100→σ' m=σ m
theorem FrC.free{B:Nat}(h:FrC σ σ')(hf:Free B σ)(hB:100<B):Free B σ':=fun n hn=>(h n (by exact(Yv (Yq hB hn)))).trans (hf n hn)
structure Drw(xs:List Int)(al:Int)(n:Nat)(pool:List Int)(σ:Hp):Prop where
 cup:Cup xs al n σ
 poo:σ 15=some (.list (pool.map .int))
 xl:xs.length≤60
 nl:n<2^39
 p0:0<pool.length
 pl:pool.length≤40
theorem signed_ws(h:Drw xs al n pool σ)(hn:Free 570 σ)(hl:n+2<2^39) :
  Ws (runF 570 2 m__law_signed) [.ref 100,.ref 15] σ (fun v σ' => ∃ g p,v = .int g∧p∈pool∧g.natAbs=p.natAbs∧Drw xs al (n+2) pool σ'∧FrC σ σ'):=by
 have l1000:1001<lim:=by decide
 have pl:=h.pl
 have p0:=h.p0
 have ln:lenOf (.ref 15) ⟨fun i => [V.ref 100,V.ref 15][i]?,σ⟩=some pool.length:=by rw [len_lst (ref_at h.poo),X4]
 refine Ws.fn rfl ?_
 unfold m__law_signed
 refine .seq (.assign (.op2 (.getL (v:=.ref 15) rfl (.op2 (.op2 (.call (.cons (.getL (v:=.ref 15) rfl (.nil (W.len ln (by exact(Yw (Yt (Yr pl (nlt 40 1001 rfl)) l1000))) (.pure (W.sub (.call (.cons (.getL (v:=.ref 100) rfl (.cons (.call (.cons (.getL (v:=.ref 15) rfl (.nil (W.len ln (by exact(Yw (Yt (Yr pl (nlt 40 1001 rfl)) l1000))) (.nil (.callM ((sip_ws h.cup h.nl h.xl (by lia) (hn.mono (by decide))).mono ?_))))))))))))))))))))))))
 rintro v σ1 ⟨r,rfl,r0,r1,c1,f1⟩
 obtain⟨k,hk⟩ : ∃ k:Nat,(pool.length:Int)-1-r=k:=⟨_,(Int.toNat_of_nonneg (by lia)).symm⟩
 have hk2:k<pool.length:=by lia
 have hp1:σ1 15=some (.list (pool.map .int)):=(f1 _ (by decide)).trans h.poo
 refine W.sub (W.itemL (u:=.int pool[k]) (ref_at hp1) (by lia) (by lia) ?_ ?_)
 ·rw [hk,Int.toNat_natCast,X8,X3 hk2];rfl
 refine .seq (.ret (.ife (.tcmp (.call (.cons (.getL (v:=.ref 100) rfl (.cons (.pure (.nil (.callM ((sip_ws c1 (by lia) h.xl (by decide) ((FrC.free (σ:=σ) f1 hn (by decide)).mono (by decide))).mono ?_)))))))))))
 rintro v σ2 ⟨r',rfl,_,_,c2,f2⟩
 have fr:FrC σ σ2:=fun m q=>(f2 m q).trans (f1 m q)
 have d2:Drw xs al (n+2) pool σ2:=⟨c2,(fr _ (by decide)).trans h.poo,h.xl,hl,h.p0,h.pl⟩
 have hf:=cut_free (fr.free hn (by decide))
 refine .pure (W.eqI (.asBool ⟨fun _=>.getL (v:=.int pool[k]) rfl ?_,fun _=>.op1 (.getL (v:=.int pool[k]) rfl (W.neg ?_))⟩))
 ·refine⟨_,_,rfl,Zi fun _=>V.noConfusion,_,_,rfl,List.getElem_mem hk2,rfl,?_⟩
  dsimp only
  rw [hf];exact⟨d2,fr⟩
 ·refine⟨_,_,rfl,Zi fun _=>V.noConfusion,_,_,rfl,List.getElem_mem hk2,W5 _,?_⟩
  dsimp only
  rw [hf];exact⟨d2,fr⟩
theorem in_of{g p:Int}(h : ∀ p∈pool,In gs p)(hp:p∈pool)(e:g.natAbs=p.natAbs):In gs g:=by unfold In;rw [e];exact h p hp
inductive SmI(gs:List G)(xs:List Int)(al:Int)(pool:List Int)(s0:St)(n:Nat)(i:Nat)(acc:List V)(s:St):Prop
 |mk (h1 : ∀ k,k≠13→s.loc k=s0.loc k) (f:FrC s0.hp s.hp) (d:Drw xs al (n+2*i) pool s.hp) (L:List Int) (e:acc=L.map .int) (l:L.length=i) (hg : ∀ x∈L,In gs x)
theorem some_w{Q:V→St→Prop}{s:St}{k:Int}(h:Drw xs al n pool s.hp)(hp : ∀ p∈pool,In gs p)(hn:Free 170 s.hp)(hk:0≤k∧k≤4)(hl:n+8<2^39)(l0:s.loc 0=some (.ref 100))(l2:s.loc 2=some (.ref 15))
  (q : ∀ (L:List Int) (s':St),L.length=k.toNat→(∀ x∈L,In gs x)→Drw xs al (n+8) pool s'.hp→FrC s.hp s'.hp→(∀ k,k≠13→s'.loc k=s.loc k)→Q (.lst (L.map .int)) s') :
  Wp (M.comp none (.rng 0 k 1) 13 (X.and0) (X.call (callM (runF 570 2 m__law_signed)) (X.cons (M.getL 0) (X.cons (M.getL 2) X.nil)))) s Q:=by
 have l1000:1001<lim:=by decide
 refine .compM (xs:=_) (SmI gs xs al pool s n) ⟨fun _ _=>rfl,fun _ _=>rfl,h,[],rfl,rfl,fun _ q=>nomatch q⟩ (fun i acc s _=>Yh (by decide) (by lia)) ?_ ?_
 ·rintro i acc s' x ⟨b1,b2,b3,L,rfl,b4,b5⟩ hx
  obtain⟨_,hi⟩:=rng_get hx
  refine .and0 ⟨nofun,fun _=>.call (.cons (.getL (v:=.ref 100) ((b1 0 (by decide)).trans l0) (.cons (.getL (v:=.ref 15) ((b1 2 (by decide)).trans l2) (.nil (.callM ((signed_ws b3 ((b2.free hn (by decide)).mono (by decide)) (by lia)).mono ?_)))))))⟩
  rintro v τ ⟨g,p,rfl,g1,g2,g3,g4⟩
  refine⟨rfl,by rw [X4];lia,fun k hk=>?_,fun m q=>(g4 m q).trans (b2 m q),g3,L ++ [g],by rw [Xc];rfl,by rw [X6,b4];rfl,fun x hx=>?_⟩
  ·show upd _ _ _ _=_
   rw [upd_ne _ _ hk];exact b1 k hk
  ·rcases X9.mp hx with q|q
   ·exact b5 x q
   ·rw [X7.mp q];exact in_of hp g1 g2
 ·rintro acc s' ⟨b1,b2,b3,L,rfl,b4,b5⟩
  rw [X4,List.length_range] at b3 b4
  have kt:(k-0).toNat≤4:=by lia
  refine .mkLst (Yd _) (lmLe (by lia)) (q L _ (by rw [b4,Int.sub_zero]) b5 ?_ b2 fun k hk=>?_)
  ·exact⟨by obtain⟨k,k0,k1,k2⟩:=b3.cup;exact⟨k,k0,by lia,k2⟩,b3.poo,b3.xl,by lia,b3.p0,b3.pl⟩
  ·show upd _ _ _ _=_
   rw [upd_ne _ _ hk];exact b1 k hk
end L03
end Lay
namespace Lay
namespace L03
variable{gs:List G}{kn:List (List Int×V)}{σ:Hp}{kvs:List (Int×V)}{n:Nat}{xs pool:List Int}{al:Int}
inductive GtR(gs:List G)(xs:List Int)(al:Int)(n:Nat)(pool:List Int)(σ σ':Hp):Prop
 |mk (t:List G) (kn':List (List Int×V)) (g:Int) (kvs':List (Int×V)) (ok:COk (gs++t) kn') (hc:CircAt (gs++t) kn' σ') (ht:t.length≤3) (hm:σ' 101=some (.idict kvs')) (mo:MkOk (gs++t) ((gs++t).length-1) kvs')
   (d:Drw xs al (n+12) (pool ++ [g]) σ') (hg:In (gs++t) g) (fr : ∀ m,5<m→m≠15→m≠100→m≠101→σ' m=σ m)
noncomputable def gTail:M Fl:=(M.seq (Y.expr (X.call (callM (runF 170 2 m__law_filled)) (X.cons (M.getL 1) (X.cons (M.getL 3) X.nil))))
 (M.seq (Y.expr (X.meth isLst mApp (M.getL 2) (X.cons (M.getL 6) X.nil)))
 (M.seq (Y.ret (X.op2 (vEq false) (X.call (callM (runF 700 2 m__law_mask)) (X.cons (M.getL 3) (X.cons (M.getL 6) X.nil))) (M.getL 8)))
 (Y.end))))
theorem gtail_w{P:(Nat→Bool)→Prop}{dd:Nat}{v:V}{σ0 τ:Hp}{due:Nat}{loc:Nat→Option V}(ok0:COk gs kn)(hl:gs.length≤800)(hm:σ 101=some (.idict kvs))(mo:MkOk gs (gs.length-1) kvs)(d:Drw xs al (n+12) pool σ)(pl:pool.length≤39)(hn:Free 160 σ)(fr : ∀ m,5<m→m≠15→m≠100→m≠101→σ m=σ0 m)
  (hd:dd≤3) (h:GateR gs P dd σ v τ) (hdue:Msk (fun r=>P (row r)) due) (l1:loc 1=some (.ref 1)) (l2:loc 2=some (.ref 15)) (l3:loc 3=some (.ref 101)) (l6:loc 6=some v) (l8:loc 8=some (.int due)) :
  Wp gTail ⟨loc,τ⟩ (Qk.fn 160 (fun v σ'=>v = .bool true∧GtR gs xs al n pool σ0 σ')):=by
 have l1000:1001<lim:=by decide
 obtain⟨g,t,kn',rfl,g1,g2,ok,hc,f5,td,sem⟩:=h
 have l5:=ok0.len
 have hgt:(gs++t).length=gs.length+t.length:=X6
 have ft:Free 160 τ:=f5.free hn (by decide)
 have m1:τ 101=some (.idict kvs):=(f5 _ (by decide) (by decide) (by decide)).trans hm
 refine .seq (.expr (.call (.cons (.getL (v:=.ref 1) l1 (.cons (.getL (v:=.ref 101) l3 (.nil (.callM ((filled_ws (n:=gs.length-1) hc ok (by lia) m1 ⟨mo.keys,fun i q1 q2=>?_⟩ (ft.mono (by decide)) (by lia) (by lia)).mono ?_)))))))))
 ·obtain⟨m,q3,q4⟩:=mo.val i q1 q2
  exact⟨m,q3,q4.iff fun r _=>by rw [val_take (row r) (by lia)]⟩
 rintro _ τ2 ⟨f2,kvs',m2,mo2⟩
 have p2:τ2 15=some (.list (pool.map .int)):=(f2 _ (by decide)).trans ((f5 _ (by decide) (by decide) (by decide)).trans d.poo)
 refine .seq (.expr (.meth (.getL (v:=.ref 15) l2 ⟨isLst_ref p2,.cons (.getL (v:=.int g) l6 (.nil (W.app p2 rfl (lmLt (by exact(Yt (Yr pl (nlt 39 1001 rfl)) l1000))) ?_)))⟩)))
 dsimp only
 have fr3 : ∀ m,5<m→m≠101→m≠15→upd τ2 15 (some (.list (pool.map .int ++ [.int g]))) m=σ m:=fun m q1 q2 q3=>by
  rw [upd_ne _ _ q3,f2 m q2,f5 m (by exact(Yv (Yt (nlt 3 5 rfl) q1))) (by exact(Yv (Yt (nlt 4 5 rfl) q1))) (by exact(Yv q1))]
 have m3:upd τ2 15 (some (.list (pool.map .int ++ [.int g]))) 101=some (.idict kvs'):=m2
 have c3:CircAt (gs++t) kn' (upd τ2 15 (some (.list (pool.map .int ++ [.int g])))):=hc.mono fun m q=>by rw [upd_ne _ _ (by exact(Yu (Yr q (nlt 5 15 rfl)))),f2 m (by exact(Yu (Yr q (nlt 5 101 rfl))))]
 have p3:upd τ2 15 (some (.list (pool.map .int ++ [.int g]))) 15=some (.list ((pool ++ [g]).map .int)):=by rw [Zc,Xc];rfl
 generalize upd τ2 15 (some (.list (pool.map .int ++ [.int g])))=τ3 at fr3 m3 c3 p3
 have f3:Free 160 τ3:=fun m q=>(fr3 m (by exact(Yq (nlt 5 160 rfl) q)) (by exact(Yv (Yq (nlt 101 160 rfl) q))) (by exact(Yv (Yq (nlt 15 160 rfl) q)))).trans (hn m q)
 refine .seq (.ret (.op2 (.call (.cons (.getL (v:=.ref 101) l3 (.cons (.getL (v:=.int g) l6 (.nil (.callM ((mask_ws (g:=g) m3 mo2.val (f3.mono (by decide)) ⟨g1,by lia⟩).mono ?_))))))))))
 rintro _ τ4 ⟨rfl,m,rfl,hmm⟩
 obtain rfl:m=due:=hmm.eq (hdue.iff fun r _=>(sem _).symm)
 refine .getL (v:=.int m) l8 (W.eqI ⟨_,_,rfl,Zi fun _=>V.noConfusion,by rw [decide_eq_true rfl];rfl,?_⟩)
 dsimp only
 rw [cut_free f3]
 refine⟨t,kn',g,kvs',ok,c3,Ys td hd,m3,mo2,⟨?_,p3,d.xl,d.nl,by simp,by simp;exact pl⟩,⟨g1,g2⟩,fun m q1 q2 q3 q4=>(fr3 m q1 q4 q2).trans (fr m q1 q2 q3 q4)⟩
 obtain⟨k,k0,k1,k2⟩:=d.cup
 exact⟨k,k0,k1,(fr3 100 (by decide) (by decide) (by decide)).trans k2⟩
theorem mask_fn(ok:MkOk gs (gs.length-1) kvs) : ∃ mf:Int→Nat,∀ g,In gs g→Msk (fun r=>Yes (val (row r) gs) g) (mf g):=by
 refine(Classical.skolem (p:=fun(g:Int) (m:Nat)=>In gs g→Msk (fun r=>Yes (val (row r) gs) g) m)).mp fun g=>?_
 by_cases h:In gs g
 ·obtain⟨m,_,q⟩:=ok.val g.natAbs h.1 (by have:=h.2;lia)
  by_cases hg:0<g
  ·exact⟨m,fun _=>q.iff fun r _=>by unfold Yes;rw [decide_eq_true hg]⟩
  ·exact⟨255-m,fun _=>q.not.iff fun r _=>by unfold Yes;rw [decide_eq_false hg,Bool.not_eq_true]⟩
 ·exact⟨0,fun q=>absurd q h⟩
theorem cover4{L:List Int}(h3:3≤L.length)(h4:L.length≤4) : ∃ a b c z,L[0]?=some a∧L[1]?=some b∧L[2]?=some c∧L.getLast?=some z∧∀ x,x∈L↔x=a∨x=b∨x=c∨x=z:=by
 rcases L with _|⟨a,_|⟨b,_|⟨c,_|⟨d,_|⟨e,L⟩⟩⟩⟩⟩
 ·exact absurd h3 (by simp)
 ·exact absurd h3 (by simp)
 ·exact absurd h3 (by simp)
 ·exact⟨a,b,c,c,rfl,rfl,rfl,rfl,fun x=>by simp⟩
 ·exact⟨a,b,c,d,rfl,rfl,rfl,rfl,fun x=>by simp⟩
 ·simp at h4
end L03
end Lay
namespace Lay
namespace L03
variable{gs:List G}{kn:List (List Int×V)}{σ:Hp}{kvs:List (Int×V)}{n:Nat}{xs pool:List Int}{al:Int}
inductive WayR(xs:List Int)(al:Int)(n:Nat)(pool:List Int)(σ:Hp)(way:Int)(v:V)(s:St):Prop
 |mk (k:Int) (h:v = .rng 0 k 1) (k0:0≤k) (k4:k≤4) (a:way<2→3≤k) (b : ¬ way<2→k=way) (d:Drw xs al (n+2) pool s.hp) (f:FrC σ s.hp) (l0:s.loc 0=some (.ref 100)) (l1:s.loc 1=some (.ref 1)) (l2:s.loc 2=some (.ref 15)) (l3:s.loc 3=some (.ref 101)) (l4:s.loc 4=some (.int way))
theorem gate_ws(hc:CircAt gs kn σ)(ok:COk gs kn)(hl:gs.length≤800)(hm:σ 101=some (.idict kvs))(mo:MkOk gs (gs.length-1) kvs)(d:Drw xs al n pool σ)(pl:pool.length≤39)(hp : ∀ p∈pool,In gs p)(hn:Free 160 σ)(hl2:n+12<2^39) :
  Ws (runF 160 4 m__law_gate) [.ref 100,.ref 1,.ref 15,.ref 101] σ (fun v σ'=>v = .bool true∧GtR gs xs al n pool σ σ'):=by
 have l1000:1001<lim:=by decide
 obtain⟨mf,hmf⟩:=mask_fn mo
 refine Ws.fn rfl ?_
 unfold m__law_gate
 refine .seq (.assign (.call (.cons (.getL (v:=.ref 100) rfl (.cons (.pure (.nil (.callM ((sip_ws d.cup d.nl d.xl (show (0:Int)<4 by decide) (hn.mono (by decide))).mono ?_)))))))))
 rintro _ σ1 ⟨way,rfl,w0,w1,c1,f1⟩
 have n1:Free 160 σ1:=FrC.free (σ:=σ) f1 hn (by decide)
 have d1:Drw xs al (n+1) pool σ1:=⟨c1,(f1 _ (by decide)).trans d.poo,d.xl,by lia,d.p0,d.pl⟩
 have d2:Drw xs al (n+2) pool σ1:=⟨by obtain⟨k,k0,k1,k2⟩:=c1;exact⟨k,k0,by lia,k2⟩,d1.poo,d.xl,by lia,d.p0,d.pl⟩
 refine .seq (.assign (.comp (Wp.mono (Q:=WayR xs al n pool σ way) ?_ ?_)))
 ·refine .call (.cons (.ife (.tcmp (.getL (v:=.int way) rfl (.pure (W.lt (.asBool ⟨fun hb=>?_,fun hb=>?_⟩)))))))
  ·have hb:=of_decide_eq_true hb
   refine .op2 (.pure (.call (.cons (.getL (v:=.ref 100) rfl (.cons (.pure (.nil (.callM ((sip_ws c1 d1.nl d1.xl (show (0:Int)<2 by decide) (n1.mono (by decide))).mono ?_)))))))))
   rintro _ σ2 ⟨r,rfl,r0,r1,c2,f2⟩
   exact W.add (.nil (W.range1 ⟨_,rfl,by lia,by lia,fun _=>by lia,fun q=>absurd hb q,⟨c2,(f2 _ (by decide)).trans d1.poo,d.xl,by lia,d.p0,d.pl⟩,fun m q=>(f2 m q).trans (f1 m q),rfl,rfl,rfl,rfl,rfl⟩))
  ·have hb:=of_decide_eq_false hb
   exact .getL (v:=.int way) rfl (.nil (W.range1 ⟨way,rfl,w0,by exact(Int.le_of_lt w1),fun q=>absurd q hb,fun _=>rfl,d2,f1,rfl,rfl,rfl,rfl,rfl⟩))
 rintro _ ⟨loc,τ⟩ ⟨k,rfl,k0,k4,kA,kB,ds,fs,l0,l1,l2,l3,l4⟩
 clear d2 d1 c1 f1 n1
 refine⟨rfl,some_w ds hp ((fs.free hn (by decide)).mono (by decide)) ⟨k0,k4⟩ (by lia) l0 l2 fun L s' hL hin dL fL lL=>?_⟩
 replace l1:=(lL 1 (by decide)).trans l1
 replace l2:=(lL 2 (by decide)).trans l2
 replace l3:=(lL 3 (by decide)).trans l3
 replace l4:=(lL 4 (by decide)).trans l4
 have fs':FrC σ s'.hp:=fun m q=>(fL m q).trans (fs m q)
 clear lL l0 fL ds fs
 obtain⟨loc2,τ⟩:=s'
 dsimp only at l1 l2 l3 l4 dL fs'
 have n2:Free 160 τ:=fs'.free hn (by decide)
 have hc2:CircAt gs kn τ:=hc.mono fun m q=>fs' m (by exact(Yu (Yr q (nlt 5 100 rfl))))
 have hm2:τ 101=some (.idict kvs):=(fs' _ (by decide)).trans hm
 refine .seq (.assign (W.filt (RS:=L) (emb:=V.int) (e:=fun x=>V.int (mf x)) (p:=fun _=>true) (v:=.lst (L.map .int)) (.getL rfl ⟨rfl,rfl⟩) rfl (fun _ _=>Yl) ?_ ?_ (fun _ _=>rfl) (by lia) fun s3 e1 e2=>?_))
 ·intro a ha s3 _ _ _;exact .and0 ⟨rfl,rfl⟩
 ·intro a ha _ s3 e1 e2 e3
  have i1:=hin a ha
  refine .call (.cons (.getL (v:=.ref 101) ((e2 3 (by decide)).trans l3) (.cons (.getL (v:=.int a) e3 (.nil (.callM ((mask_ws (g:=a) (e1▸hm2) mo.val (e1▸n2.mono (by decide)) ⟨i1.1,by have:=i1.2;lia⟩).mono ?_)))))))
  rintro _ _ ⟨rfl,m,rfl,q⟩
  exact⟨by rw [q.eq (hmf a i1)],rfl⟩
 rw [List.filter_eq_self.mpr fun _ _=>rfl]
 obtain⟨loc3,τ'⟩:=s3
 dsimp only at e1 e2
 subst e1
 have c1:=(e2 1 (by decide)).trans l1
 have c2:=(e2 2 (by decide)).trans l2
 have c3:=(e2 3 (by decide)).trans l3
 have c4:=(e2 4 (by decide)).trans l4
 have c5:loc3 5=some (.lst (L.map .int)):=(e2 5 (by decide)).trans rfl
 clear e2 l1 l2 l3 l4
 have fin : ∀ {P:(Nat→Bool)→Prop} {dd:Nat} {v:V} {τ:Hp} {due:Nat} {loc:Nat→Option V},dd≤3→GateR gs P dd τ' v τ→Msk (fun r=>P (row r)) due→loc 1=some (.ref 1)→loc 2=some (.ref 15)→loc 3=some (.ref 101)→loc 6=some v→loc 8=some (.int due)→
  Wp gTail ⟨loc,τ⟩ (Qk.fn 160 (fun v σ'=>v = .bool true∧GtR gs xs al n pool σ σ')) :=
  gtail_w ok hl hm2 mo ⟨by obtain⟨k,k0,k1,k2⟩:=dL.cup;exact⟨k,k0,by lia,k2⟩,dL.poo,d.xl,hl2,d.p0,d.pl⟩ pl n2 (fun m _ _ q _=>fs' m q)
 have ix : ∀ {i:Nat} {x:Int},L[i]?=some x→(L.map fun x=>V.int (mf x))[i]?=some (.int (mf x)):=fun h=>by rw [X8,h];rfl
 have iL : ∀ {i:Nat} {x:Int},L[i]?=some x→(L.map V.int)[i]?=some (.int x):=fun h=>by rw [X8,h];rfl
 have mm : ∀ {x:Int},x∈L→Msk (fun r=>Yes (val (row r) gs) x) (mf x):=fun h=>hmf _ (hin _ h)
 refine .seq (.ite (.tcmp (.getL (v:=.int way) c4 (.pure (W.eqI (.asBool ⟨fun hb=>?_,fun hb=>?_⟩))))))
 ·rw [W3] at hb
  have hb:=of_decide_eq_true hb
  have kA:=kA (by exact(Int.lt_of_le_of_lt (Int.le_of_eq hb) (by decide:(0:Int)<(2:Int))))
  obtain⟨a,b,c,z,ea,eb,ec,ez,all⟩:=cover4 (L:=L) (by lia) (by lia)
  have ez2:(L.map fun x=>V.int (mf x)).getLast?=some (.int (mf z)):=by rw [List.getLast?_map,ez];rfl
  refine .seq (.assignSwap (.cons (.meth (.getL (v:=.ref 1) c1 ⟨okC hc2 (by rfl),.cons (.getL (v:=.lst (L.map .int)) c5 (.nil (.callM ((allof_ws (L:=L) hc2 ok (by exact(Ys hl (nle 800 900 rfl))) (n2.mono (by decide)) rfl (fun _=>Yl) (by lia) hin).mono ?_))))⟩))))
  intro v σ2 hg
  refine .cons (.op2 (.op2 (.op2 (.op2 (.getL (v:=.lst (L.map fun x=>V.int (mf x))) rfl (.pure (W.itemL lst_at (by decide) (by decide) (ix (i:=0) ea) (.op2 (.getL (v:=.lst (L.map fun x=>V.int (mf x))) rfl (.pure (W.itemL lst_at (by decide) (by decide) (ix (i:=1) eb) (W.band (.op2 (.getL (v:=.lst (L.map fun x=>V.int (mf x))) rfl (.pure (W.itemL lst_at (by decide) (by decide) (ix (i:=2) ec) (W.band (.op2 (.getL (v:=.lst (L.map fun x=>V.int (mf x))) rfl (.op1 (.pure (W.neg (W.last (lmLt (by lia)) ez2 (W.band (.nil ⟨show 2≤100 by decide,.sets1 (.sets1 (.sets0 (.end ?_)))⟩)))))))))))))))))))))))))
  refine fin (due:=mf a&&&mf b&&&mf c&&&mf z) (by decide) hg ?_ c1 c2 c3 rfl rfl
  refine((((mm ((all a).mpr (.inl rfl))).and (mm ((all b).mpr (.inr (.inl rfl))))).and (mm ((all c).mpr (.inr (.inr (.inl rfl)))))).and (mm ((all z).mpr (.inr (.inr (.inr rfl)))))).iff fun r _=>?_
  simp only [all,forall_eq_or_imp,forall_eq,and_assoc]
 rw [W3] at hb
 have hb:=of_decide_eq_false hb
 refine .seq (.ite (.tcmp (.getL (v:=.int way) c4 (.pure (W.eqI (.asBool ⟨fun hb2=>?_,fun hb2=>?_⟩))))))
 ·rw [W3] at hb2
  have hb2:=of_decide_eq_true hb2
  have kA:=kA (by exact(Int.lt_of_le_of_lt (Int.le_of_eq hb2) (by decide:(1:Int)<(2:Int))))
  obtain⟨a,b,c,z,ea,eb,ec,ez,all⟩:=cover4 (L:=L) (by lia) (by lia)
  have ez2:(L.map fun x=>V.int (mf x)).getLast?=some (.int (mf z)):=by rw [List.getLast?_map,ez];rfl
  refine .seq (.assignSwap (.cons (.meth (.getL (v:=.ref 1) c1 ⟨okC hc2 (by rfl),.cons (.getL (v:=.lst (L.map .int)) c5 (.nil (.callM ((anyof_ws (L:=L) (n:=0) hc2 ok (by exact(Ys hl (nle 800 900 rfl))) (n2.mono (by decide)) (by lia) hin).mono ?_))))⟩))))
  intro v σ2 hg
  refine .cons (.op2 (.op2 (.op2 (.op2 (.getL (v:=.lst (L.map fun x=>V.int (mf x))) rfl (.pure (W.itemL lst_at (by decide) (by decide) (ix (i:=0) ea) (.op2 (.getL (v:=.lst (L.map fun x=>V.int (mf x))) rfl (.pure (W.itemL lst_at (by decide) (by decide) (ix (i:=1) eb) (W.bor (.op2 (.getL (v:=.lst (L.map fun x=>V.int (mf x))) rfl (.pure (W.itemL lst_at (by decide) (by decide) (ix (i:=2) ec) (W.bor (.op2 (.getL (v:=.lst (L.map fun x=>V.int (mf x))) rfl (.op1 (.pure (W.neg (W.last (lmLt (by lia)) ez2 (W.bor (.nil ⟨show 2≤100 by decide,.sets1 (.sets1 (.sets0 (.end (.end ?_))))⟩)))))))))))))))))))))))))
  refine fin (due:=mf a|||mf b|||mf c|||mf z) (by decide) hg ?_ c1 c2 c3 rfl (by rw [bor_nat,bor_nat,bor_nat];rfl)
  refine((((mm ((all a).mpr (.inl rfl))).or (mm ((all b).mpr (.inr (.inl rfl))))).or (mm ((all c).mpr (.inr (.inr (.inl rfl)))))).or (mm ((all z).mpr (.inr (.inr (.inr rfl)))))).iff fun r _=>?_
  simp only [all,exists_eq_or_imp,exists_eq_left,or_assoc]
 rw [W3] at hb2
 have hb2:=of_decide_eq_false hb2
 obtain rfl:=kB (by lia)
 obtain⟨a,ea⟩ : ∃ a,L[0]?=some a:=⟨_,X3 (by lia)⟩
 obtain⟨b,eb⟩ : ∃ a,L[1]?=some a:=⟨_,X3 (by lia)⟩
 have ma:=Xa ea
 have mb:=Xa eb
 refine .seq (.ite (.tcmp (.getL (v:=.int k) c4 (.pure (W.eqI (.asBool ⟨fun hb3=>?_,fun hb3=>?_⟩))))))
 ·refine .seq (.assignSwap (.cons (.meth (.getL (v:=.ref 1) c1 ⟨okC hc2 (by rfl),.cons (.op2 (.getL (v:=.lst (L.map .int)) c5 (.pure (W.itemL lst_at (by decide) (by decide) (iL (i:=0) ea) (.cons (.op2 (.getL (v:=.lst (L.map .int)) c5 (.pure (W.itemL lst_at (by decide) (by decide) (iL (i:=1) eb) (.nil (.callM ((iff_ws hc2 ok (by exact(Ys hl (nle 800 880 rfl))) (n2.mono (by decide)) (hin a ma) (hin b mb)).mono ?_))))))))))))⟩))))
  intro v σ2 hg
  refine .cons (.op2 (.pure (.op2 (.op2 (.getL (v:=.lst (L.map fun x=>V.int (mf x))) rfl (.pure (W.itemL lst_at (by decide) (by decide) (ix (i:=0) ea) (.op2 (.getL (v:=.lst (L.map fun x=>V.int (mf x))) rfl (.pure (W.itemL lst_at (by decide) (by decide) (ix (i:=1) eb) (W.bxor (W.sub (.nil ⟨show 2≤100 by decide,.sets1 (.sets1 (.sets0 (.end (.end (.end ?_)))))⟩))))))))))))))
  have mx:=((mm ma).xor (mm mb)).not
  have ml:=((mm ma).xor (mm mb)).1
  refine fin (due:=255-(mf a^^^mf b)) (by decide) hg ?_ c1 c2 c3 rfl ?_
  ·refine mx.iff fun r _=>?_
   rw [Classical.not_not]
   exact⟨fun q=>⟨q.mp,q.mpr⟩,fun q=>⟨q.1,q.2⟩⟩
  ·rw [bxor_nat (mm ma).1 (mm mb).1]
   show some (V.int _)=_
   congr 2;lia
 rw [W3] at hb3
 have hb3:=of_decide_eq_false hb3
 obtain⟨c,ec⟩ : ∃ a,L[2]?=some a:=⟨_,X3 (by lia)⟩
 have mc:=Xa ec
 refine .seq (.assignSwap (.cons (.meth (.getL (v:=.ref 1) c1 ⟨okC hc2 (by rfl),.cons (.op2 (.getL (v:=.lst (L.map .int)) c5 (.pure (W.itemL lst_at (by decide) (by decide) (iL (i:=0) ea) (.cons (.op2 (.getL (v:=.lst (L.map .int)) c5 (.pure (W.itemL lst_at (by decide) (by decide) (iL (i:=1) eb) (.cons (.op2 (.getL (v:=.lst (L.map .int)) c5 (.pure (W.itemL lst_at (by decide) (by decide) (iL (i:=2) ec) (.nil (.callM ((choose_ws hc2 ok (by exact(Ys hl (nle 800 880 rfl))) (n2.mono (by decide)) (hin a ma) (hin b mb) (hin c mc)).mono ?_)))))))))))))))))⟩))))
 intro v σ2 hg
 refine .cons (.op2 (.op2 (.op2 (.getL (v:=.lst (L.map fun x=>V.int (mf x))) rfl (.pure (W.itemL lst_at (by decide) (by decide) (ix (i:=0) ea) (.op2 (.getL (v:=.lst (L.map fun x=>V.int (mf x))) rfl (.pure (W.itemL lst_at (by decide) (by decide) (ix (i:=1) eb) (W.band (.op2 (.op2 (.pure (.op2 (.getL (v:=.lst (L.map fun x=>V.int (mf x))) rfl (.pure (W.itemL lst_at (by decide) (by decide) (ix (i:=0) ea) (W.sub (.op2 (.getL (v:=.lst (L.map fun x=>V.int (mf x))) rfl (.pure (W.itemL lst_at (by decide) (by decide) (ix (i:=2) ec) (W.band (W.bor (.nil ⟨show 2≤100 by decide,.sets1 (.sets1 (.sets0 (.end (.end (.end ?_)))))⟩))))))))))))))))))))))))))
 have ml:=(mm ma).1
 refine fin (due:=mf a&&&mf b|||(255-mf a)&&&mf c) (by decide) hg ?_ c1 c2 c3 rfl ?_
 ·refine(((mm ma).and (mm mb)).or ((mm ma).not.and (mm mc))).iff fun r _=>?_
  by_cases q:Yes (val (row r) gs) a
  ·exact⟨fun w=>⟨fun _=>w.elim (·.2) fun w=>absurd q w.1,fun w=>absurd q w⟩,fun w=>.inl ⟨q,w.1 q⟩⟩
  ·exact⟨fun w=>⟨fun w=>absurd w q,fun _=>w.elim (fun w=>absurd w.1 q) (·.2)⟩,fun w=>.inr ⟨q,w.2 q⟩⟩
 ·rw [show (255:Int)-(mf a:Nat)=((255-mf a:Nat):Int) by lia,band_nat,band_nat,bor_nat];rfl
end L03
end Lay
namespace Lay
namespace L03
structure Cl where
 w:Int
 cs:List (List Int)
 ga:List Int
 nu:List (Int×V)
 op:List (Int×V)
 wa:List Int
noncomputable abbrev kvK(w:Int):List (Str×V) := [(Xx "circuit",.ref 1),(Xx "whole",.int w),(Xx "clauses",.ref 8),(Xx "gates",.ref 9),(Xx "numbers",.ref 10),(Xx "opened",.ref 11),(Xx "waiting",.ref 12)]
structure ClsAt(d:Cl)(σ:Hp):Prop where
 i:σ 6=some (.inst 112 7)
 a:σ 7=some (.attrs (kvK d.w))
 cs:σ 8=some (.list (d.cs.map tupI))
 ga:σ 9=some (.list (d.ga.map .int))
 nu:σ 10=some (.idict d.nu)
 op:σ 11=some (.idict d.op)
 wa:σ 12=some (.list (d.wa.map .int))
theorem ClsAt.mono{d:Cl}{σ τ:Hp}(h:ClsAt d σ)(e : ∀ n,6≤n→n≤12→τ n=σ n):ClsAt d τ :=
 ⟨(e 6 (by decide) (by decide)).trans h.i,(e 7 (by decide) (by decide)).trans h.a,(e 8 (by decide) (by decide)).trans h.cs,(e 9 (by decide) (by decide)).trans h.ga,(e 10 (by decide) (by decide)).trans h.nu,(e 11 (by decide) (by decide)).trans h.op,(e 12 (by decide) (by decide)).trans h.wa⟩
noncomputable def Fr8(σ σ':Hp):Prop := ∀ n,n<8∨12<n→σ' n=σ n
theorem Fr8.refl(σ:Hp):Fr8 σ σ:=fun _ _=>rfl
theorem Fr8.trans{a b c:Hp}(h:Fr8 a b)(k:Fr8 b c):Fr8 a c:=fun n q=>(k n q).trans (h n q)
theorem Fr8.free{a b:Hp}{B:Nat}(h:Fr8 a b)(hf:Free B a)(hB:12<B):Free B b:=fun n hn=>(h n (.inr (by exact(Yq hB hn)))).trans (hf n hn)
theorem Fr8.circ{a b:Hp}{gs:List G}{kn:List (List Int×V)}(h:Fr8 a b)(hc:CircAt gs kn a):CircAt gs kn b:=hc.mono fun n q=>h n (.inl (by exact(Yr q (nlt 5 8 rfl))))
theorem Fr8.upd{σ τ:Hp}{n:Nat}{o:Option O}(f:Fr8 σ τ)(h:8≤n∧n≤12):Fr8 σ (upd τ n o):=fun m q=>by rw [upd_ne _ _ (by lia)];exact f m q
section
variable{d:Cl}{s:St}{Q:V→St→Prop}
theorem instOf_k(h:ClsAt d s.hp):instOf (.ref 6) s=some (112,kvK d.w):=instOf_self h.i h.a
theorem W.kCircuit(h:ClsAt d s.hp)(k:Q (.ref 1) s):Wp (getAC 112 (Xx "circuit") (.ref 6)) s Q:=getAC_run (instOf_k h) (by rfl) rfl k
theorem W.kWhole(h:ClsAt d s.hp)(k:Q (.int d.w) s):Wp (getAC 112 (Xx "whole") (.ref 6)) s Q:=getAC_run (instOf_k h) (by rfl) rfl k
theorem W.kClauses(h:ClsAt d s.hp)(k:Q (.ref 8) s):Wp (getAC 112 (Xx "clauses") (.ref 6)) s Q:=getAC_run (instOf_k h) (by rfl) rfl k
theorem W.kGates(h:ClsAt d s.hp)(k:Q (.ref 9) s):Wp (getAC 112 (Xx "gates") (.ref 6)) s Q:=getAC_run (instOf_k h) (by rfl) rfl k
theorem W.kNumbers(h:ClsAt d s.hp)(k:Q (.ref 10) s):Wp (getAC 112 (Xx "numbers") (.ref 6)) s Q:=getAC_run (instOf_k h) (by rfl) rfl k
theorem W.kOpened(h:ClsAt d s.hp)(k:Q (.ref 11) s):Wp (getAC 112 (Xx "opened") (.ref 6)) s Q:=getAC_run (instOf_k h) (by rfl) rfl k
theorem W.kWaiting(h:ClsAt d s.hp)(k:Q (.ref 12) s):Wp (getAC 112 (Xx "waiting") (.ref 6)) s Q:=getAC_run (instOf_k h) (by rfl) rfl k
theorem okK(h:ClsAt d s.hp){name:Str}(e:kvGet (kvK d.w) name=none):instOk 112 name (.ref 6) s=true:=instOk_run (instOf_k h) e
end
noncomputable def addC(cs:List (List Int)):Option (List Int)→List (List Int)
 |none=>cs
 |some r=>cs ++ [r]
theorem tell_ws{d:Cl}{σ:Hp}{L:List Int}(h:ClsAt d σ)(hn:Free 340 σ)(hl:L.length≤5)(hz : ∀ x∈L,x≠0)(hc:d.cs.length≤1000) :
  Ws (runF 340 2 m_Clauses_tell) [.ref 6,.lst (L.map .int)] σ (fun u σ'=>Fr8 σ σ'∧∃ o,Res L o∧ClsAt {d with cs:=addC d.cs o} σ'):=by
 have l1000:1001<lim:=by decide
 refine Ws.fn rfl ?_
 unfold m_Clauses_tell
 refine .seq (.assign (.call (.cons (.getL (v:=.lst (L.map .int)) rfl (.nil (.callM ((clause_ws (L:=L) (hn.mono (by decide)) hl hz).mono ?_)))))))
 rintro _ σ ⟨rfl,o,ho,rfl⟩
 cases o with
 |none =>
  refine .seq (.ite (.tcmp (.getL (v:=Oc none) rfl (.pure (W.isNone rfl (.asBool ⟨nofun,fun _=>.end (.end ⟨_,_,rfl,Zi fun _=>V.noConfusion,?_⟩)⟩))))))
  dsimp only
  rw [cut_free hn]
  exact⟨Fr8.refl _,none,ho,h⟩
 |some r =>
  refine .seq (.ite (.tcmp (.getL (v:=Oc (some r)) rfl (.pure (W.isNone rfl (.asBool ⟨fun _=>.seq (.expr (.meth (.op1 (.getL (v:=.ref 6) rfl (W.kClauses h ⟨isLst_ref h.cs,.cons (.getL (v:=tupI r) rfl (.nil (W.app h.cs rfl (lmLt (by exact(Yt (Yr hc (nlt 1000 1001 rfl)) l1000))) (.end (.end ⟨_,_,rfl,Zi fun _=>V.noConfusion,?_⟩)))))⟩))))),nofun⟩))))))
  dsimp only
  have f:=(Fr8.refl σ).upd (n:=8) (o:=some (.list (d.cs.map tupI ++ [tupI r]))) (by decide)
  rw [cut_free (f.free hn (by decide))]
  exact⟨f,some r,ho,h.i,h.a,by rw [Zc];change _=some (O.list (List.map tupI (d.cs ++ [r])));rw [Xc];rfl,h.ga,h.nu,h.op,h.wa⟩
noncomputable def numAdd(d:Cl)(g:Int):Cl:=if (kvGet d.nu g).isSome then d else {d with ga:=d.ga ++ [g],nu:=kvSet d.nu g (.int d.ga.length)}
theorem number_ws{d:Cl}{σ:Hp}{g:Int}(h:ClsAt d σ)(hn:Free 300 σ)(h1:d.ga.length≤1000)(h2:d.nu.length≤1000)(hu : ∀ u,kvGet d.nu g=some u→∃ n:Nat,u = .int n) :
  Ws (runF 300 2 m_Clauses_number_of) [.ref 6,.int g] σ (fun u σ'=>Fr8 σ σ'∧ClsAt (numAdd d g) σ'∧∃ n:Nat,u = .int n∧kvGet (numAdd d g).nu g=some (.int n)):=by
 have l1000:1001<lim:=by decide
 refine Ws.fn rfl ?_
 unfold m_Clauses_number_of
 have tail : ∀ (d':Cl) (τ:Hp) (loc:Nat→Option V),ClsAt d' τ→Fr8 σ τ→loc 0=some (.ref 6)→loc 1=some (.int g)→∀ n:Nat,kvGet d'.nu g=some (.int n)→
   Wp (M.seq (Y.ret (X.op2 vItem (X.op1 (getAC 112 (Xx "numbers")) (M.getL 0)) (M.getL 1))) (Y.end)) ⟨loc,τ⟩ (Qk.fn 300 fun u σ'=>Fr8 σ σ'∧ClsAt d' σ'∧∃ n:Nat,u = .int n∧kvGet d'.nu g=some (.int n)):=fun d' τ loc c1 c2 c3 c4 n c5=>by
  refine .seq (.ret (.op2 (.op1 (.getL (v:=.ref 6) c3 (W.kNumbers c1 (.getL (v:=.int g) c4 (W.itemD (Y3 c1.nu) c5 ⟨_,_,rfl,Zi fun _=>V.noConfusion,?_⟩)))))))
  dsimp only
  rw [cut_free (c2.free hn (by decide))]
  exact⟨c2,c1,n,rfl,c5⟩
 refine .seq (.ite (.tcmp (.getL (v:=.int g) rfl (.op1 (.getL (v:=.ref 6) rfl (W.kNumbers h (W.inD (Y3 h.nu) (.asBool ⟨fun hb=>?_,fun hb=>.end ?_⟩))))))))
 ·have hb:(kvGet d.nu g).isSome=false:=by simpa using hb
  have e:numAdd d g={d with ga:=d.ga ++ [g],nu:=kvSet d.nu g (.int d.ga.length)}:=if_neg (by rw [hb];exact Bool.false_ne_true)
  rw [e]
  refine .seq (.assignSub (.call (.cons (.op1 (.getL (v:=.ref 6) rfl (W.kGates h (.nil (W.len (n:=d.ga.length) (len_rm h.ga) (by exact(Yw (Yt (Yr h1 (nlt 1000 1001 rfl)) l1000))) (.op1 (.getL (v:=.ref 6) rfl (W.kNumbers h (.getL (v:=.int g) rfl (W.setD h.nu rfl (by exact(Yt (Yr h2 (nlt 1000 1001 rfl)) l1000)) ?_)))))))))))))
  dsimp only
  have f2:=(Fr8.refl σ).upd (n:=10) (o:=some (.idict (kvSet d.nu g (.int d.ga.length)))) (by decide)
  have k2:ClsAt {d with nu:=kvSet d.nu g (.int d.ga.length)} (upd σ 10 (some (.idict (kvSet d.nu g (.int d.ga.length))))):=⟨h.i,h.a,h.cs,h.ga,Zc _ _ _,h.op,h.wa⟩
  generalize upd σ 10 (some (.idict (kvSet d.nu g (.int d.ga.length))))=τ at f2 k2
  refine .seq (.expr (.meth (.op1 (.getL (v:=.ref 6) rfl (W.kGates k2 ⟨isLst_ref k2.ga,.cons (.getL (v:=.int g) rfl (.nil (W.app k2.ga rfl (by rw [X4];show d.ga.length<lim;exact(Yt (Yr h1 (nlt 1000 1001 rfl)) l1000)) (.end ?_))))⟩)))))
  refine tail _ _ _ ⟨k2.i,k2.a,k2.cs,?_,k2.nu,k2.op,k2.wa⟩ (f2.upd (by decide)) rfl rfl d.ga.length ?_
  ·dsimp only;rw [Zc,Xc];rfl
  ·dsimp only;rw [Y8,if_pos rfl]
 ·have hb:(kvGet d.nu g).isSome=true:=by simpa using hb
  have e:numAdd d g=d:=if_pos hb
  rw [e]
  obtain⟨u,q⟩:=Option.isSome_iff_exists.mp hb
  obtain⟨n,rfl⟩:=hu u q
  exact tail d σ _ h (Fr8.refl _) rfl rfl n q
end L03
end Lay
namespace Lay
namespace L03
noncomputable def openS(d:Cl)(x:Int):Cl:=if (kvGet d.op x).isSome then d else {d with op:=kvSet d.op x (.bool true),wa:=d.wa ++ [x]}
noncomputable def sides(w g:Int):List Int:=if 0<w then [(g.natAbs:Int),-(g.natAbs:Int)] else [g]
noncomputable def entered(d:Cl)(g:Int):Cl:=(sides d.w g).foldl openS (numAdd d g.natAbs)
inductive EnI(σ:Hp)(g:Int)(n:Nat)(i:Nat)(e:Cl)(s:St):Prop
 |mk (h0:s.loc 0=some (.ref 6)) (h1:s.loc 1=some (.int g)) (h3:s.loc 3=some (.int n)) (f:Fr8 σ s.hp) (k:ClsAt e s.hp) (lo:e.op.length≤1000+i) (lw:e.wa.length≤1000+i)
theorem enter_ws{d:Cl}{σ:Hp}{g:Int}(h:ClsAt d σ)(hn:Free 260 σ)(h1:d.ga.length≤1000)(h2:d.nu.length≤1000)(h3:d.op.length≤1000)(h4:d.wa.length≤1000)(hu : ∀ u,kvGet d.nu (g.natAbs:Int)=some u→∃ n:Nat,u = .int n) :
  Ws (runF 260 2 m_Clauses_enter) [.ref 6,.int g] σ (fun u σ'=>Fr8 σ σ'∧ClsAt (entered d g) σ'∧∃ n:Nat,kvGet (numAdd d g.natAbs).nu (g.natAbs:Int)=some (.int n)∧u = .int (if 0<g then n else -n)):=by
 have l1100:1100<lim:=by decide
 have sl:(sides d.w g).length≤2:=by unfold sides;split<;>simp
 have dw:(numAdd d g.natAbs).w=d.w:=by unfold numAdd;split<;>rfl
 have dop:(numAdd d g.natAbs).op=d.op:=by unfold numAdd;split<;>rfl
 have dwa:(numAdd d g.natAbs).wa=d.wa:=by unfold numAdd;split<;>rfl
 refine Ws.fn rfl ?_
 unfold m_Clauses_enter
 refine .seq (.assign (.call (.cons (.getL (v:=.int g) rfl (.nil (W.abs ?_))))))
 refine .seq (.assign (.meth (.getL (v:=.ref 6) rfl ⟨okK h (by rfl),.cons (.getL (v:=.int g.natAbs) rfl (.nil (.callM ((number_ws (g:=g.natAbs) h (hn.mono (by decide)) h1 h2 hu).mono ?_))))⟩)))
 rintro _ τ ⟨f1,k1,n,rfl,hn1⟩
 refine .seq (.for (Wp.mono (Q:=fun v s1=>v = .tup ((sides d.w g).map .int)∧s1.hp=τ∧s1.loc 0=some (.ref 6)∧s1.loc 1=some (.int g)∧s1.loc 3=some (.int n)) ?_ ?_))
 ·refine .ife (.tcmp (.op1 (.getL (v:=.ref 6) rfl (W.kWhole k1 (.pure (W.gt (.asBool ⟨fun hb=>?_,fun hb=>?_⟩)))))))
  ·have hb:0<d.w:=by rw [dw] at hb;exact of_decide_eq_true hb
   refine .tup (.cons (.getL (v:=.int g.natAbs) rfl (.cons (.op1 (.getL (v:=.int g.natAbs) rfl (W.neg (.nil (.mkTup rfl (show 2≤lim by decide) ⟨?_,rfl,rfl,rfl,rfl⟩))))))))
   unfold sides;rw [if_pos hb];rfl
  ·have hb : ¬ 0<d.w:=by rw [dw] at hb;exact of_decide_eq_false hb
   refine .tup (.cons (.getL (v:=.int g) rfl (.nil (.mkTup rfl (show 1≤lim by decide) ⟨?_,rfl,rfl,rfl,rfl⟩))))
   unfold sides;rw [if_neg hb];rfl
 rintro _ ⟨loc,_⟩ ⟨rfl,rfl,c0,c1,c3⟩
 refine⟨rfl,.forS (xs:=(sides d.w g).map .int) (fun i s=>EnI σ g n i (((sides d.w g).take i).foldl openS (numAdd d g.natAbs)) s) ⟨c0,c1,c3,f1,k1,by simp [dop,h3],by simp [dwa,h4]⟩ (fun _ _ _=>Y9 _) ?_ ?_⟩
 ·rintro i s x ⟨a0,a1,a3,a4,a5,a7,a8⟩ hx
  rw [X8] at hx
  obtain⟨y,hy,rfl⟩:=Xl.mp hx
  have hi:=(X5.mp hy).1
  rw [List.take_add_one,hy]
  simp only [Option.toList,List.foldl_append,List.foldl_cons,List.foldl_nil]
  generalize ((sides d.w g).take i).foldl openS (numAdd d g.natAbs)=e at a5 a7 a8
  refine .setL (.seq (.ite (.tcmp (.getL (v:=.int y) rfl (.op1 (.getL (v:=.ref 6) a0 (W.kOpened a5 (W.inD (Y3 a5.op) (.asBool ⟨fun hb=>?_,fun hb=>.end (.end ?_)⟩)))))))))
  ·have hb:(kvGet e.op y).isSome=false:=by simpa using hb
   rw [show openS e y=_ from if_neg (by rw [hb];exact Bool.false_ne_true)]
   refine .seq (.assignSub (.pure (.op1 (.getL (v:=.ref 6) a0 (W.kOpened a5 (.getL (v:=.int y) rfl (W.setD a5.op rfl (by lia) ?_)))))))
   dsimp only
   have f2:=a4.upd (n:=11) (o:=some (.idict (kvSet e.op y (.bool true)))) (by decide)
   have k2:ClsAt {e with op:=kvSet e.op y (.bool true)} (upd s.hp 11 (some (.idict (kvSet e.op y (.bool true))))):=⟨a5.i,a5.a,a5.cs,a5.ga,a5.nu,Zc _ _ _,a5.wa⟩
   generalize upd s.hp 11 (some (.idict (kvSet e.op y (.bool true))))=τ2 at f2 k2
   refine .seq (.expr (.meth (.op1 (.getL (v:=.ref 6) a0 (W.kWaiting k2 ⟨isLst_ref k2.wa,.cons (.getL (v:=.int y) rfl (.nil (W.app k2.wa rfl (by rw [X4];show e.wa.length<lim;lia) (.end (.end ?_)))))⟩)))))
   have kl:=kvSet_length e.op y (.bool true)
   refine⟨a0,a1,a3,f2.upd (by decide),⟨k2.i,k2.a,k2.cs,k2.ga,k2.nu,k2.op,?_⟩,by dsimp only;lia,by simp;lia⟩
   dsimp only;rw [Zc,Xc];rfl
  ·have hb:(kvGet e.op y).isSome=true:=by simpa using hb
   rw [show openS e y=_ from if_pos hb]
   exact⟨a0,a1,a3,a4,a5,by lia,by lia⟩
 ·rintro s ⟨a0,a1,a3,a4,a5,_,_⟩
  rw [X4,List.take_length] at a5
  have hc:cut 260 s.hp=s.hp:=cut_free (a4.free hn (by decide))
  refine .seq (.ret (.ife (.tcmp (.getL a1 (.pure (W.gt (.asBool ⟨fun hb=>.getL a3 ⟨_,_,rfl,Zi fun _=>V.noConfusion,?_⟩,fun hb=>.op1 (.getL a3 (W.neg ⟨_,_,rfl,Zi fun _=>V.noConfusion,?_⟩))⟩)))))))
  ·rw [hc]
   exact⟨a4,a5,n,hn1,by rw [if_pos (of_decide_eq_true hb)]⟩
  ·rw [hc]
   exact⟨a4,a5,n,hn1,by rw [if_neg (of_decide_eq_false hb)]⟩
theorem many_ws{d:Cl}{σ:Hp}(h:ClsAt d σ)(hn:Free 320 σ)(h1:d.ga.length≤1000):Ws (runF 320 1 m_Clauses_many) [.ref 6] σ (fun v σ'=>v = .int (d.ga.length-1)∧σ'=σ):=by
 have l1100:1100<lim:=by decide
 refine Ws.fn rfl ?_
 unfold m_Clauses_many
 refine .seq (.ret (.op2 (.call (.cons (.op1 (.getL (v:=.ref 6) rfl (W.kGates h (.nil (W.len (n:=d.ga.length) (len_rm h.ga) (by exact(Yw (Yt (Yr h1 (nlt 1000 1100 rfl)) l1100))) (.pure (W.sub ⟨_,_,rfl,Zi fun _=>V.noConfusion,rfl,cut_free hn⟩)))))))))))
theorem gateof_ws{d:Cl}{σ:Hp}{n:Nat}{g:Int}(h:ClsAt d σ)(hn:Free 680 σ)(h1:d.ga.length≤1000)(hg:d.ga[n]?=some g):Ws (runF 680 2 m_Clauses_gate_of) [.ref 6,.int n] σ (fun v σ'=>v = .int g∧σ'=σ):=by
 have hl:=(X5.mp hg).1
 refine Ws.fn rfl ?_
 unfold m_Clauses_gate_of
 refine .seq (.ret (.op2 (.op1 (.getL (v:=.ref 6) rfl (W.kGates h (.getL (v:=.int n) rfl (W.itemL (u:=.int g) (ref_at h.ga) (by lia) (by lia) (by rw [Int.toNat_natCast,X8,hg];rfl) ⟨_,_,rfl,Zi fun _=>V.noConfusion,rfl,cut_free hn⟩)))))))
theorem Zq(g:G):SeqAt.shaped (.str g.kind)=true:=by cases g<;>with_unfolding_all rfl
end L03
end Lay
namespace Lay
namespace L03
noncomputable def Num(d:Cl)(g n:Nat):Prop:=kvGet d.nu (g:Int)=some (.int n)
noncomputable def Lit(d:Cl)(s x:Int):Prop := ∃ n:Nat,Num d s.natAbs n∧x=if 0<s then (n:Int) else -(n:Int)
noncomputable def Model(gs:List G)(τ:Nat→Bool):Prop := ∀ (i:Nat) (x:G),gs[i]?=some x→match x with
 |.tru=>τ i=true
 |.and ps=>τ i=true↔∀ p∈ps,Yes τ p
 |_=>True
theorem Model.app{gs t:List G}{τ:Nat→Bool}(h:Model (gs++t) τ):Model gs τ:=fun i x q=>h i x (by rw [Xj (X5.mp q).1];exact q)
noncomputable def Reads(d:Cl)(τ τ':Nat→Bool):Prop := ∀ g n,Num d g n→τ' n=τ g
noncomputable def Sat(τ:Nat→Bool)(cs:List (List Int)):Prop := ∀ c∈cs,∃ x∈c,Yes τ x
noncomputable def Fal(φ:Nat→Option Bool)(x:Int):Prop:=φ x.natAbs=some (!decide (0<x))
noncomputable def Tru(φ:Nat→Option Bool)(x:Int):Prop:=φ x.natAbs=some (decide (0<x))
theorem Fal.neg{φ:Nat→Option Bool}{x:Int}(h:x≠0):Fal φ (-x)↔Tru φ x:=by
 unfold Fal Tru
 rw [W5]
 by_cases q:0<x
 ·rw [decide_eq_true q,decide_eq_false (show ¬ 0 < -x by lia)];rfl
 ·rw [decide_eq_false q,decide_eq_true (show 0 < -x by lia)];rfl
noncomputable def OkC(φ:Nat→Option Bool)(c:List Int):Prop:=c≠[]∧∀ x∈c,(∀ y∈c,y≠x→Fal φ y)→Tru φ x
noncomputable def Closed(φ:Nat→Option Bool)(cs:List (List Int)):Prop := ∀ c∈cs,OkC φ c
noncomputable abbrev opK(d:Cl):List Int:=d.op.map (·.1)
noncomputable abbrev nuK(d:Cl):List Int:=d.nu.map (·.1)
structure Inv(gs:List G)(tops:List Int)(d:Cl):Prop where
 ga:d.ga=0::nuK d
 nd:(nuK d).Nodup
 key : ∀ k∈nuK d,1≤k∧k<gs.length
 num : ∀ g n,Num d g n→1≤n∧d.ga[n]?=some (g:Int)
 val : ∀ k u,kvGet d.nu k=some u→∃ n:Nat,u = .int n
 opn:(opK d).Nodup
 opk : ∀ s∈opK d,1≤s.natAbs∧(s.natAbs:Int)∈nuK d
 was : ∀ s∈d.wa,s∈opK d
 wan:d.wa.Nodup
 snd : ∀ τ τ',Model gs τ→Reads d τ τ'→(∀ t∈tops,Yes τ t)→Sat τ' d.cs
 row : ∀ c∈d.cs,(Asc c∧c.length≤5)∧∀ x∈c,1≤x.natAbs∧x.natAbs<d.ga.length
structure Ext(d d':Cl):Prop where
 w:d'.w=d.w
 num : ∀ g n,Num d g n→Num d' g n
 op : ∀ s∈opK d,s∈opK d'
 cs:d.cs<+:d'.cs
 ga:d.ga<+:d'.ga
 old : ∀ s∈opK d,s∉d.wa→s∉d'.wa
structure Stp(d d':Cl):Prop where
 new : ∀ s∈opK d',s∉d'.wa→s∈opK d∧s∉d.wa
 cnt:d'.op.length+d.wa.length=d.op.length+d'.wa.length
structure Low(B:Nat)(d d':Cl):Prop where
 nu : ∀ k∈nuK d',k∈nuK d∨k.natAbs<B
 wa : ∀ s∈d'.wa,s∈d.wa∨s.natAbs<B
theorem Ext.refl(d:Cl):Ext d d:=⟨rfl,fun _ _ h=>h,fun _ h=>h,List.prefix_rfl,List.prefix_rfl,fun _ _ h=>h⟩
theorem Ext.trans{a b c:Cl}(h:Ext a b)(k:Ext b c):Ext a c :=
 ⟨k.w.trans h.w,fun g n q=>k.num g n (h.num g n q),fun s q=>k.op s (h.op s q),h.cs.trans k.cs,h.ga.trans k.ga,fun s q r=>k.old s (h.op s q) (h.old s q r)⟩
theorem Stp.refl(d:Cl):Stp d d:=⟨fun _ h k=>⟨h,k⟩,rfl⟩
theorem Stp.trans{a b c:Cl}(h:Stp a b)(k:Stp b c):Stp a c :=
 ⟨fun s q r=>h.new s (k.new s q r).1 (k.new s q r).2,by have:=h.cnt;have:=k.cnt;lia⟩
theorem Low.refl{B:Nat}(d:Cl):Low B d d:=⟨fun _ h=>.inl h,fun _ h=>.inl h⟩
theorem Low.trans{B:Nat}{a b c:Cl}(h:Low B a b)(k:Low B b c):Low B a c :=
 ⟨fun s q=>(k.nu s q).elim (h.nu s) .inr,fun s q=>(k.wa s q).elim (h.wa s) .inr⟩
theorem Low.mono{B B':Nat}{a b:Cl}(h:Low B a b)(k:B≤B'):Low B' a b :=
 ⟨fun s q=>(h.nu s q).imp id fun r=>Yq r k,fun s q=>(h.wa s q).imp id fun r=>Yq r k⟩
theorem Num.fn{d:Cl}{g n n':Nat}(h:Num d g n)(h':Num d g n'):n=n':=Int.ofNat.inj (V.int.inj (Xm (h.symm.trans h')))
theorem Lit.fn{d:Cl}{s x x':Int}(h:Lit d s x)(h':Lit d s x'):x=x':=by
 obtain⟨n,h1,rfl⟩:=h
 obtain⟨n',h2,rfl⟩:=h'
 rw [h1.fn h2]
theorem Lit.ext{d d':Cl}{s x:Int}(e:Ext d d')(h:Lit d s x):Lit d' s x:=by
 obtain⟨n,h1,rfl⟩:=h
 exact⟨n,e.num _ _ h1,rfl⟩
theorem lit_abs{s x:Int}{n:Nat}(h:x=if 0<s then (n:Int) else -(n:Int)):x.natAbs=n:=by
 subst h;split<;>lia
theorem Closed.ext{d d':Cl}(e:Ext d d'){φ:Nat→Option Bool}(h:Closed φ d'.cs):Closed φ d.cs:=fun c hc=>h c (e.cs.subset hc)
theorem sides_le{gs:List G}{L:List Int}(c:gs.length≤20)(nd:L.Nodup)(h : ∀ s∈L,In gs s):L.length≤38:=by
 refine Ys (Zt (b:=upK 19++(upK 19).map (fun x => -x)) nd fun s hs=>?_) (by decide)
 obtain⟨h1,h2⟩:=h s hs
 have q:((s.natAbs:Nat):Int)∈upK 19:=upK_mem.mpr ⟨h1,by lia⟩
 rw [X9,List.mem_map]
 rcases Int.le_total 0 s with r|r
 ·exact .inl (by rwa [show ((s.natAbs:Nat):Int)=s by lia] at q)
 ·exact .inr ⟨_,q,by lia⟩
section
variable{gs:List G}{tops:List Int}{d:Cl}(h:Inv gs tops d)
include h
theorem Inv.app(t:List G):Inv (gs++t) tops d :=
 {h with key:=fun k q=>⟨(h.key k q).1,by rw [X6];have:=(h.key k q).2;lia⟩,snd:=fun τ τ' a=>h.snd τ τ' a.app}
theorem Inv.inj{g g' n:Nat}(a:Num d g n)(b:Num d g' n):g=g':=Int.ofNat.inj (Xm ((h.num _ _ a).2.symm.trans (h.num _ _ b).2))
theorem Inv.numOf{g:Nat}(hg:(g:Int)∈nuK d) : ∃ n,Num d g n:=by
 obtain⟨u,hu⟩:=Option.isSome_iff_exists.mp ((kv_keys_some d.nu (g:Int)).mpr hg)
 obtain⟨n,rfl⟩:=h.val _ _ hu
 exact⟨n,hu⟩
theorem Inv.lit_row{s x:Int}(hl:Lit d s x):1≤x.natAbs∧x.natAbs<d.ga.length:=by
 obtain⟨n,h1,h2⟩:=hl
 rw [lit_abs h2]
 obtain⟨h3,h4⟩:=h.num _ _ h1
 exact⟨h3,(X5.mp h4).1⟩
theorem Lit.reads{s x:Int}{τ τ':Nat→Bool}(hl:Lit d s x)(hr:Reads d τ τ'):Yes τ' x↔Yes τ s:=by
 have h0:=(h.lit_row hl).1
 obtain⟨n,h1,h2⟩:=hl
 have:=lit_abs h2
 unfold Yes
 rw [this,hr _ _ h1]
 have:decide (0<x)=decide (0<s):=by
  rw [decide_eq_decide]
  subst h2
  split<;>lia
 rw [this]
theorem Inv.bounds(c:gs.length≤20):d.nu.length≤19∧d.ga.length≤20∧d.op.length≤38∧d.wa.length≤38:=by
 have h1:(nuK d).length≤(upK 19).length:=Zt h.nd fun k q=>by
  have:=h.key k q
  rw [show k=((k.natAbs:Nat):Int) by lia,upK_mem];lia
 have h2:d.ga.length=1+d.nu.length:=by rw [h.ga];simp;lia
 have h3:=sides_le c h.opn fun s hs=>by
  obtain⟨q1,q2⟩:=h.opk s hs
  have:=h.key _ q2
  exact⟨q1,by lia⟩
 have h4:=Zt h.wan h.was
 have h5:(upK 19).length=19:=by decide
 simp only [X4,h5] at h1 h3 h4
 lia
end
end L03
end Lay
namespace Lay
namespace L03
variable{gs:List G}{tops:List Int}{d:Cl}
structure Step(gs:List G)(tops:List Int)(B:Nat)(d d':Cl):Prop where
 iv:Inv gs tops d'
 ext:Ext d d'
 stp:Stp d d'
 low:Low B d d'
theorem Step.refl{B:Nat}(h:Inv gs tops d):Step gs tops B d d:=⟨h,Ext.refl d,Stp.refl d,Low.refl d⟩
theorem Step.trans{B:Nat}{a b c:Cl}(h:Step gs tops B a b)(k:Step gs tops B b c):Step gs tops B a c:=⟨k.iv,h.ext.trans k.ext,h.stp.trans k.stp,h.low.trans k.low⟩
theorem Step.mono{B B':Nat}{a b:Cl}(h:Step gs tops B a b)(k:B≤B'):Step gs tops B' a b:=⟨h.iv,h.ext,h.stp,h.low.mono k⟩
theorem numAdd_spec{g B:Nat}(h:Inv gs tops d)(h1:1≤g)(hg:g<gs.length)(hB:g<B):Step gs tops B d (numAdd d g)∧(g:Int)∈nuK (numAdd d g)∧(numAdd d g).cs=d.cs:=by
 unfold numAdd
 split
 ·rename_i q
  exact⟨.refl h,(kv_keys_some _ _).mp q,rfl⟩
 ·rename_i q
  have hk:(g:Int)∉nuK d:=fun k=>q ((kv_keys_some _ _).mpr k)
  have hkeys:(kvSet d.nu (g:Int) (.int d.ga.length)).map (·.1)=nuK d ++ [(g:Int)]:=by rw [kvSet_keys,if_neg hk]
  have hnone:kvGet d.nu (g:Int)=none:=Option.not_isSome_iff_eq_none.mp q
  have hnum : ∀ g' n:Nat,kvGet d.nu (g':Int)=some (.int n)→kvGet (kvSet d.nu (g:Int) (.int d.ga.length)) (g':Int)=some (.int n):=fun g' n hn=>by
   rw [Y8]
   by_cases e:(g':Int)=g
   ·rw [e,hnone] at hn;cases hn
   ·rw [if_neg e];exact hn
  refine⟨⟨⟨?_,?_,?_,?_,?_,h.opn,?_,h.was,h.wan,?_,?_⟩,⟨rfl,hnum,fun _ k=>k,List.prefix_rfl,List.prefix_append _ _,fun _ _ k=>k⟩,⟨fun _ k r=>⟨k,r⟩,rfl⟩,?_,fun _ k=>.inl k⟩,?_,rfl⟩
  ·dsimp only [nuK];rw [hkeys,h.ga];rfl
  ·dsimp only [nuK];exact kvSet_nodup _ _ _ h.nd
  ·dsimp only [nuK];rw [hkeys];intro k hk
   rcases X9.mp hk with q|q
   ·exact h.key k q
   ·rw [X7.mp q];lia
  ·intro g' n hn
   unfold Num at hn
   dsimp only at hn ⊢
   rw [Y8] at hn
   split at hn
   ·rename_i e
    obtain rfl:d.ga.length=n:=Int.ofNat.inj (V.int.inj (Xm hn))
    refine⟨by rw [h.ga];simp,?_⟩
    rw [List.getElem?_append_right (Yy _),Nat.sub_self,e];rfl
   ·obtain⟨h1,h2⟩:=h.num g' n hn
    exact⟨h1,by rw [Xj (X5.mp h2).1];exact h2⟩
  ·intro k u hu
   dsimp only at hu
   rw [Y8] at hu
   split at hu
   ·exact⟨_,(Xm hu).symm⟩
   ·exact h.val k u hu
  ·intro s hs
   obtain⟨h1,h2⟩:=h.opk s hs
   exact⟨h1,by dsimp only [nuK];rw [hkeys];exact Xi _ h2⟩
  ·intro τ τ' hm hr
   exact h.snd τ τ' hm fun g' n hn=>hr g' n (hnum g' n hn)
  ·intro c hc
   obtain⟨h1,h2⟩:=h.row c hc
   exact⟨h1,fun x hx=>⟨(h2 x hx).1,by have:=(h2 x hx).2;dsimp only;rw [X6];lia⟩⟩
  ·dsimp only [nuK];rw [hkeys]
   intro k hk
   rcases X9.mp hk with q|q
   ·exact .inl q
   ·rw [X7.mp q];exact .inr hB
  ·dsimp only [nuK];rw [hkeys];exact Xh _ (X7.mpr rfl)
theorem openS_spec{s:Int}{B:Nat}(h:Inv gs tops d)(hs:1≤s.natAbs)(hk:(s.natAbs:Int)∈nuK d)(hB:s.natAbs<B):Step gs tops B d (openS d s)∧s∈opK (openS d s)∧(openS d s).nu=d.nu∧(openS d s).cs=d.cs:=by
 unfold openS
 split
 ·rename_i q
  exact⟨.refl h,(kv_keys_some _ _).mp q,rfl,rfl⟩
 ·rename_i q
  have hk2:s∉opK d:=fun k=>q ((kv_keys_some _ _).mpr k)
  have hkeys:(kvSet d.op s (.bool true)).map (·.1)=opK d ++ [s]:=by rw [kvSet_keys,if_neg hk2]
  have hw:s∉d.wa:=fun k=>hk2 (h.was s k)
  have hw2 : ∀ x,x∈d.wa ++ [s]→x∈d.wa∨x=s:=fun x hx=>(X9.mp hx).imp id X7.mp
  refine⟨⟨⟨h.ga,h.nd,h.key,h.num,h.val,kvSet_nodup _ _ _ h.opn,?_,?_,?_,h.snd,h.row⟩,⟨rfl,fun _ _ k=>k,?_,List.prefix_rfl,List.prefix_rfl,fun x hx r q=>(hw2 x q).elim r fun(e:x=s)=>hk2 (e▸hx)⟩,⟨?_,?_⟩,fun _ k=>.inl k,fun x hx=>(hw2 x hx).imp id fun(e:x=s)=>e▸hB⟩,?_,rfl,rfl⟩
  ·intro x hx
   dsimp only [opK] at hx
   rw [hkeys] at hx
   rcases X9.mp hx with q|q
   ·exact h.opk x q
   ·rw [X7.mp q];exact⟨hs,hk⟩
  ·intro x hx
   dsimp only [opK] at hx ⊢
   rw [hkeys]
   rcases X9.mp hx with q|q
   ·exact Xi _ (h.was x q)
   ·exact Xh _ q
  ·dsimp only
   rw [List.nodup_append]
   refine⟨h.wan,List.pairwise_singleton _ _,fun a ha b hb e=>hw ?_⟩
   rw [←X7.mp hb,←e];exact ha
  ·intro x hx
   dsimp only [opK];rw [hkeys];exact Xi _ hx
  ·intro x hx hx2
   dsimp only [opK] at hx hx2
   rw [hkeys] at hx
   rw [X9,not_or] at hx2
   rcases X9.mp hx with q|q
   ·exact⟨q,hx2.1⟩
   ·exact absurd q hx2.2
  ·have:=congrArg List.length hkeys
   simp only [X4,X6,Xg,List.length_nil] at this ⊢
   lia
  ·dsimp only [opK];rw [hkeys];exact Xh _ (X7.mpr rfl)
inductive EntR(gs:List G)(tops:List Int)(B:Nat)(d:Cl)(g:Int)(d':Cl):Prop
 |mk (st:Step gs tops B d d') (op:g∈opK d') (cs:d'.cs=d.cs) (li : ∀ n:Nat,kvGet (numAdd d g.natAbs).nu (g.natAbs:Int)=some (.int n)→Lit d' g (if 0<g then (n:Int) else -(n:Int))) (all : ∀ s,s.natAbs=g.natAbs→0<d.w→s∈opK d')
theorem opens_spec{B:Nat}(L:List Int) : ∀ (e:Cl),Inv gs tops e→(∀ s∈L,(1≤s.natAbs∧(s.natAbs:Int)∈nuK e)∧s.natAbs<B)→Step gs tops B e (L.foldl openS e)∧(∀ s∈L,s∈opK (L.foldl openS e))∧(L.foldl openS e).nu=e.nu∧(L.foldl openS e).cs=e.cs:=by
 induction L with
 |nil=>intro e he _;exact⟨.refl he,(fun _ q=>nomatch q),rfl,rfl⟩
 |cons s r ih =>
  intro e he hs
  have hs1:=hs s (List.mem_cons_self ..)
  obtain⟨b1,b3,b4,b6⟩:=openS_spec he hs1.1.1 hs1.1.2 hs1.2
  obtain⟨c1,c3,c4,c5⟩:=ih (openS e s) b1.iv fun x hx=>by
   have:=hs x (List.mem_cons_of_mem _ hx)
   rw [nuK,b4];exact this
  rw [List.foldl_cons]
  refine⟨b1.trans c1,fun x hx=>?_,c4.trans b4,c5.trans b6⟩
  rcases Xd.mp hx with rfl|q
  ·exact c1.ext.op _ b3
  ·exact c3 x q
theorem entered_spec{g:Int}{B:Nat}(h:Inv gs tops d)(hg:In gs g)(hB:g.natAbs<B):EntR gs tops B d g (entered d g):=by
 obtain⟨a1,a3,a6⟩:=numAdd_spec h hg.1 hg.2 hB
 unfold entered
 have hab : ∀ s∈sides d.w g,s.natAbs=g.natAbs:=by
  unfold sides
  split<;>simp
 obtain⟨c1,c3,c4,c5⟩:=opens_spec (B:=B) (sides d.w g) _ a1.iv fun s hs=>by rw [hab s hs];exact⟨⟨hg.1,a3⟩,hB⟩
 have hmem:g∈sides d.w g:=by
  unfold sides
  split
  ·have:g=(g.natAbs:Int)∨g = -(g.natAbs:Int):=by lia
   simpa using this
  ·simp
 refine⟨a1.trans c1,c3 g hmem,c5.trans a6,fun n hn=>⟨n,?_,rfl⟩,fun s hs hw=>c3 s ?_⟩
 ·unfold Num
  rw [c4];exact hn
 ·unfold sides
  rw [if_pos hw]
  have:s=(g.natAbs:Int)∨s = -(g.natAbs:Int):=by lia
  simpa using this
theorem Asc.le{L r:List Int}(h:NormOf L r):r.length≤L.length:=Zt h.2.nodup fun x hx=>(h.1 x).mp hx
theorem OkC.clash{φ:Nat→Option Bool}{L:List Int}(h:Clash L)(hz : ∀ x∈L,x≠0):OkC φ L:=by
 obtain⟨a,h1,h2⟩:=h
 refine⟨List.ne_nil_of_mem h1,fun x hx q=>?_⟩
 have a0:=hz a h1
 by_cases e:a=x
 ·subst e;exact(Fal.neg a0).mp (q _ h2 (by lia))
 ·by_cases e2 : -a=x
  ·subst e2
   have:=q a h1 e
   rw [←Int.neg_neg a] at this
   exact(Fal.neg (by lia)).mp this
  ·have k1:=q a h1 e
   have k2:=(Fal.neg a0).mp (q _ h2 e2)
   unfold Fal at k1
   unfold Tru at k2
   rw [k1] at k2
   have:=Xm k2
   cases q:decide (0<a)<;>rw [q] at this<;>cases this
structure TelR(gs:List G)(tops:List Int)(d:Cl)(L:List Int)(o:Option (List Int)):Prop where
 st:Step gs tops 0 d {d with cs:=addC d.cs o}
 ok : ∀ φ,Closed φ (addC d.cs o)→OkC φ L
 le:(addC d.cs o).length≤d.cs.length+1
theorem tell_spec{L:List Int}{o:Option (List Int)}(h:Inv gs tops d)(ho:Res L o)(hl:L.length≤5)(hL : ∀ x∈L,1≤x.natAbs∧x.natAbs<d.ga.length)
  (hs : ∀ τ τ',Model gs τ→Reads d τ τ'→(∀ t∈tops,Yes τ t)→∃ x∈L,Yes τ' x):TelR gs tops d L o:=by
 cases o with
 |none=>exact⟨.refl h,fun φ _=>OkC.clash ho fun x hx e=>by have:=(hL x hx).1;subst e;exact absurd this (by decide),Nat.le_succ _⟩
 |some r =>
  obtain⟨h1,h2,h3⟩:=ho
  have hm : ∀ c,c∈addC d.cs (some r)→c∈d.cs∨c=r:=fun c hc=>(X9.mp hc).imp id X7.mp
  refine⟨⟨⟨h.ga,h.nd,h.key,h.num,h.val,h.opn,h.opk,h.was,h.wan,?_,?_⟩,⟨rfl,fun _ _ k=>k,fun _ k=>k,List.prefix_append _ _,List.prefix_rfl,fun _ _ k=>k⟩,⟨fun _ k r=>⟨k,r⟩,rfl⟩,fun _ k=>.inl k,fun _ k=>.inl k⟩,?_,by simp [addC]⟩
  ·intro τ τ' hmo hr ht c hc
   rcases hm c hc with q|rfl
   ·exact h.snd τ τ' hmo hr ht c q
   ·obtain⟨x,hx,hy⟩:=hs τ τ' hmo hr ht
    exact⟨x,(h2 x).mpr hx,hy⟩
  ·intro c hc
   rcases hm c hc with q|rfl
   ·exact h.row c q
   ·exact⟨⟨h3,Ys (Asc.le ⟨h2,h3⟩) hl⟩,fun x hx=>hL x ((h2 x).mp hx)⟩
  ·intro φ hc
   obtain⟨q1,q2⟩:=hc r (Xh _ (X7.mpr rfl))
   obtain⟨a,ha⟩:=List.exists_mem_of_ne_nil _ q1
   exact⟨List.ne_nil_of_mem ((h2 a).mp ha),fun x hx q=>q2 x ((h2 x).mpr hx) fun y hy=>q y ((h2 y).mp hy)⟩
end L03
end Lay
namespace Lay
namespace L03
variable{gs:List G}{tops:List Int}{d:Cl}{kn:List (List Int×V)}{σ:Hp}
noncomputable def PartDone(d:Cl)(s p:Int):Prop:=p∈opK d∧∃ x y,Lit d s x∧Lit d p y∧∀ φ,Closed φ d.cs→Fal φ y→Fal φ x
noncomputable def Done(gs:List G)(d:Cl)(s:Int):Prop := ∀ x:G,gs[s.natAbs]?=some x→match x with
 |.tru => ∃ n,Num d s.natAbs n∧∀ φ,Closed φ d.cs→φ n=some true
 |.and ps=>if 0<s then ∀ p∈ps,PartDone d s p
   else (∀ p∈ps,-p∈opK d)∧∃ x,Lit d s x∧∀ φ,Closed φ d.cs→(∀ p∈ps,∀ y,Lit d (-p) y→Fal φ y)→Fal φ x
 |_=>True
theorem PartDone.ext{d d':Cl}{s p:Int}(e:Ext d d')(h:PartDone d s p):PartDone d' s p:=by
 obtain⟨h1,x,y,h2,h3,h4⟩:=h
 exact⟨e.op _ h1,x,y,h2.ext e,h3.ext e,fun φ q=>h4 φ (q.ext e)⟩
theorem Done.ext{d d':Cl}{s:Int}(e:Ext d d')(h:Done gs d s):Done gs d' s:=by
 intro x hx
 have:=h x hx
 cases x with
 |tru=>obtain⟨n,h1,h2⟩:=this;exact⟨n,e.num _ _ h1,fun φ q=>h2 φ (q.ext e)⟩
 |and ps =>
  dsimp only at this ⊢
  split
  ·rename_i c
   rw [if_pos c] at this
   exact fun p hp=>(this p hp).ext e
  ·rename_i c
   rw [if_neg c] at this
   obtain⟨h1,x,h2,h3⟩:=this
   exact⟨fun p hp=>e.op _ (h1 p hp),x,h2.ext e,fun φ q r=>h3 φ (q.ext e) fun p hp y hy=>r p hp y (hy.ext e)⟩
 |non=>trivial
 |inp=>trivial
noncomputable def From(d:Cl)(c:List Int)(s:Int):Prop:=(∃ n,Num d s.natAbs n∧∃ x∈c,x.natAbs=n)∧(∀ x∈c,∃ g,Num d g x.natAbs∧g≤s.natAbs)∧(0<s↔c.length=2)
theorem From.ext{d d':Cl}{c:List Int}{s:Int}(e:Ext d d')(h:From d c s):From d' c s:=by
 obtain⟨⟨n,h1,h2⟩,h3,h4⟩:=h
 exact⟨⟨n,e.num _ _ h1,h2⟩,fun x hx=>by obtain⟨g,q1,q2⟩:=h3 x hx;exact⟨g,e.num _ _ q1,q2⟩,h4⟩
theorem From.one{c:List Int}{s s':Int}(h:Inv gs tops d)(a:From d c s)(b:From d c s'):s=s':=by
 obtain⟨⟨n,a1,x,a2,a3⟩,a4,a5⟩:=a
 obtain⟨⟨n',b1,x',b2,b3⟩,b4,b5⟩:=b
 obtain⟨g,q1,q2⟩:=b4 x a2
 obtain⟨g',r1,r2⟩:=a4 x' b2
 rw [a3] at q1
 rw [b3] at r1
 have e1:=h.inj q1 a1
 have e2:=h.inj r1 b1
 have e:s.natAbs=s'.natAbs:=Nat.le_antisymm (e1▸q2) (e2▸r2)
 have k:=a5.trans b5.symm
 clear a5 b5 q2 r2 e1 e2 a4 b4 a1 b1 a3 b3 q1 r1
 rcases Int.natAbs_eq_natAbs_iff.mp e with h|h
 ·exact h
 ·rcases Int.lt_trichotomy 0 s with w|w|w
  ·have:=k.mp w;lia
  ·lia
  ·have:=k.mpr (by lia:0<s');lia
structure Fresh(d d':Cl)(S:Int→Prop)(F:List (List Int)):Prop where
 eq:d'.cs=d.cs++F
 long : ∀ c∈F,1<c.length→∃ s,S s∧From d' c s
 short : ∀ c∈F,¬ 1<c.length→(1:Int)∈nuK d'
 nd:(F.filter fun c=>decide (1<c.length)).Nodup
theorem norm_len{L r:List Int}(h:NormOf L r)(nd:L.Nodup):r.length=L.length:=Nat.le_antisymm (Asc.le h) (Zt nd fun x hx=>(h.1 x).mpr hx)
inductive OpR(gs:List G)(tops:List Int)(d:Cl)(σ:Hp)(s:Int)(τ:Hp):Prop
 |mk (d':Cl) (f:Fr8 σ τ) (k:ClsAt d' τ) (st:Step gs tops s.natAbs d d') (le:d'.cs.length≤d.cs.length+4) (dn:Done gs d' s) (F:List (List Int)) (fr:Fresh d d' (· =s) F)
inductive OpF(gs:List G)(tops:List Int)(d:Cl)(σ:Hp)(s:Int)(n:Nat)(ps:List Int)(i:Nat)(s':St):Prop
 |mk (h0:s'.loc 0=some (.ref 6)) (h3:s'.loc 3=some (.int n)) (d':Cl) (f:Fr8 σ s'.hp) (k:ClsAt d' s'.hp) (st:Step gs tops s.natAbs d d') (le:d'.cs.length≤d.cs.length+i) (dn : ∀ p∈ps.take i,PartDone d' s p)
   (F:List (List Int)) (eq:d'.cs=d.cs++F) (lg : ∀ c∈F,(c.length=2∧From d' c s)∧∃ p∈ps.take i,∃ z,Lit d' p z∧z∈c) (nd:F.Nodup)
inductive OpC(gs:List G)(tops:List Int)(d:Cl)(σ:Hp)(s:Int)(ps:List Int)(i:Nat)(acc:List V)(s':St):Prop
 |mk (h0:s'.loc 0=some (.ref 6)) (d':Cl) (ys:List Int) (e:acc=ys.map V.int) (f:Fr8 σ s'.hp) (k:ClsAt d' s'.hp) (st:Step gs tops s.natAbs d d') (eq:d'.cs=d.cs) (l:ys.length=i) (h : ∀ j p,ps[j]?=some p→j<i→ -p∈opK d'∧∃ y,ys[j]?=some y∧Lit d' (-p) y)
inductive EnR(gs:List G)(tops:List Int)(B:Nat)(d:Cl)(σ:Hp)(g:Int)(u:V)(τ:Hp):Prop
 |mk (d':Cl) (x:Int) (e:u = .int x) (f:Fr8 σ τ) (k:ClsAt d' τ) (st:Step gs tops B d d') (cs:d'.cs=d.cs) (op:g∈opK d') (li:Lit d' g x) (all : ∀ s,s.natAbs=g.natAbs→0<d.w→s∈opK d')
theorem enter_iv{g:Int}{B:Nat}(c:gs.length≤20)(h:ClsAt d σ)(iv:Inv gs tops d)(hn:Free 260 σ)(hg:In gs g)(hB:g.natAbs<B) :
  Ws (runF 260 2 m_Clauses_enter) [.ref 6,.int g] σ (EnR gs tops B d σ g):=by
 obtain⟨b1,b2,b3,b4⟩:=iv.bounds c
 refine(enter_ws h hn (by exact(Ys b2 (nle 20 1000 rfl))) (by exact(Ys b1 (nle 19 1000 rfl))) (by exact(Ys b3 (nle 38 1000 rfl))) (by exact(Ys b4 (nle 38 1000 rfl))) (iv.val _)).mono ?_
 rintro _ σ' ⟨f,k,n,hn,rfl⟩
 obtain⟨e1,e2,e3,e4,e5⟩:=entered_spec iv hg hB
 exact⟨entered d g,_,rfl,f,k,e1,e3,e2,e4 n hn,e5⟩
theorem G.kind_eq{x y:G}(h:(x.kind==y.kind)=true):x=y∨∃ ps qs,x = .and ps∧y = .and qs:=by
 cases x<;>cases y<;>first|exact .inl rfl|exact .inr ⟨_,_,rfl,rfl⟩|exact absurd h (by change ¬ ((Xx _==Xx _)=true);decide)
theorem G.kind_ne{x y:G}(h:(x.kind==y.kind)=false):x≠y:=fun e=>by subst e;rw [beq_self_eq_true] at h;cases h
end L03
end Lay
namespace Lay
namespace L03
variable{gs:List G}{tops:List Int}{d:Cl}{s:Int}{n:Nat}{o:Option (List Int)}{ps:List Int}
theorem fal_lit{φ:Nat→Option Bool}{y x:Int}(h:Fal φ y)(e:x=y):Fal φ x:=e▸h
theorem two_mem{a b y:Int}(hy:y∈[a,b]):y=a∨y=b:=by simpa using hy
theorem pos_spec{p z:Int}(iv:Inv gs tops d)(hx:gs[s.natAbs]?=some (.and ps))(hs:0<s)(hp:p∈ps)(hlt:p.natAbs<s.natAbs)(ln:Lit d s n)(lz:Lit d p z)(op:p∈opK d)(ho:Res [-(n:Int),z] o) :
  TelR gs tops d [-(n:Int),z] o∧PartDone {d with cs:=addC d.cs o} s p∧∀ r,o=some r→(r.length=2∧From {d with cs:=addC d.cs o} r s)∧z∈r:=by
 have hz:=iv.lit_row lz
 have hnr:=iv.lit_row ln
 obtain⟨m,hm,hm2⟩:=lz
 obtain⟨k,hk,hk2⟩:=ln
 obtain rfl:n=k:=(lit_abs hk2)
 have hzm:=lit_abs hm2
 have nm:n≠m:=fun e=>by subst e;exact absurd (iv.inj hk hm) (by lia)
 have t:=tell_spec iv ho (show 2≤5 by decide) (fun y hy=>by
   rcases two_mem hy with rfl|rfl
   ·rw [W5];exact hnr
   ·exact hz) (fun τ τ' hmo hr _=>by
   by_cases q:Yes τ' n
   ·refine⟨z,by simp,(Lit.reads iv ⟨m,hm,hm2⟩ hr).mpr ?_⟩
    have q1:=(Lit.reads iv ⟨n,hk,hk2⟩ hr).mp q
    refine(hmo _ _ hx).mp ?_ p hp
    unfold Yes at q1
    rw [q1];exact decide_eq_true hs
   ·exact⟨-n,by simp,(Yes.neg (by lia)).mpr q⟩)
 refine⟨t,⟨op,n,z,⟨n,hk,hk2⟩,⟨m,hm,hm2⟩,fun φ q1 q2=>?_⟩,fun r e=>?_⟩
 ·have:=(t.ok φ q1).2 (-n) (by simp) fun y hy hne=>(two_mem hy).elim (fun e=>absurd e hne) fun e=>fal_lit q2 e
  rw [←Fal.neg (by lia),Int.neg_neg] at this
  exact this
 ·subst e
  have ml : ∀ x,x∈r↔x = -n∨x=z:=fun x=>by rw [ho.2.1];simp
  have l2:r.length=2:=norm_len ho.2 (by simp;lia)
  refine⟨⟨l2,⟨n,hk,-n,(ml _).mpr (.inl rfl),by lia⟩,fun x hx=>?_,iff_of_true hs l2⟩,(ml z).mpr (.inr rfl)⟩
  rcases(ml x).mp hx with rfl|rfl
  ·exact⟨s.natAbs,by rw [W5,Int.natAbs_natCast];exact hk,Yy _⟩
  ·exact⟨p.natAbs,by rw [hzm];exact hm,Yw hlt⟩
theorem neg_spec{ys:List Int}(iv:Inv gs tops d)(hx:gs[s.natAbs]?=some (.and ps))(hs : ¬ 0<s)(pk:PsOk s.natAbs ps)(hk:Num d s.natAbs n)(yl:ys.length=ps.length)(h : ∀ (j:Nat) (p:Int),ps[j]?=some p→ -p∈opK d∧∃ y,ys[j]?=some y∧Lit d (-p) y)(ho:Res ((n:Int)::ys) o) :
  TelR gs tops d ((n:Int)::ys) o∧Done gs {d with cs:=addC d.cs o} s∧∀ r,o=some r→1<r.length∧From {d with cs:=addC d.cs o} r s:=by
 have ln:Lit d s (-n):=⟨n,hk,by rw [if_neg hs]⟩
 have hnr:=iv.lit_row ln
 rw [W5] at hnr
 have s0:s≠0:=fun e=>by subst e;have:=(pk.lt _ (List.getElem_mem (Yq (by decide:0<2) pk.two))).2;exact absurd this (by simp)
 have ysr : ∀ y∈ys,∃ p∈ps,Lit d (-p) y:=fun y hy=>by
  obtain⟨j,hj,rfl⟩:=List.mem_iff_getElem.mp hy
  have hjp:j<ps.length:=by exact(Yq hj (Yz yl))
  obtain⟨_,y,q2,q3⟩:=h j ps[j] (X3 hjp)
  rw [X3 hj] at q2
  exact⟨ps[j],List.getElem_mem hjp,Xm q2▸q3⟩
 have psr : ∀ p∈ps,-p∈opK d∧∃ y∈ys,Lit d (-p) y:=fun p hp=>by
  obtain⟨j,hj,rfl⟩:=List.mem_iff_getElem.mp hp
  obtain⟨q1,y,q2,q3⟩:=h j ps[j] (X3 hj)
  exact⟨q1,y,Xa q2,q3⟩
 have lrow : ∀ x∈(n:Int)::ys,1≤x.natAbs∧x.natAbs<d.ga.length:=fun x hx=>by
  rcases Xd.mp hx with rfl|q
  ·exact hnr
  ·obtain⟨p,_,q2⟩:=ysr x q;exact iv.lit_row q2
 have num : ∀ {p y:Int},Lit d (-p) y→Num d p.natAbs y.natAbs:=fun q=>by
  obtain⟨m,q1,q2⟩:=q
  rw [lit_abs q2]
  rwa [W5] at q1
 have yn:((n:Int)::ys).Nodup:=by
  refine List.nodup_cons.mpr ⟨fun q=>?_,?_⟩
  ·obtain⟨p,hp,q2⟩:=ysr _ q
   have:=iv.inj (num q2) hk
   have:=(pk.lt p hp).2
   lia
  ·rw [List.nodup_iff_pairwise_ne,List.pairwise_iff_getElem]
   intro i j hi hj hij e
   obtain⟨_,y,a1,a2⟩:=h i ps[i] (X3 (by exact(Yq hi (Yz yl))))
   obtain⟨_,z,b1,b2⟩:=h j ps[j] (X3 (by exact(Yq hj (Yz yl))))
   rw [X3 hi] at a1
   rw [X3 hj,←e,a1] at b1
   obtain rfl:=Xm b1
   exact List.pairwise_iff_getElem.mp pk.ne i j (by exact(Yq hi (Yz yl))) (by exact(Yq hj (Yz yl))) hij (iv.inj (num a2) (num b2))
 have t:=tell_spec iv ho (by have:=pk.four;simp;exact(Ys (Yz yl) this)) lrow fun τ τ' hm hr _=>by
   by_cases q:Yes τ' n
   ·exact⟨n,by simp,q⟩
   ·have q1:=(Lit.reads iv ln hr).mp ((Yes.neg (by lia)).mpr q)
    have q3 : ¬ ∀ p∈ps,Yes τ p:=fun q4=>by
     have:=(hm _ _ hx).mpr q4
     unfold Yes at q1
     rw [this,decide_eq_false hs] at q1
     cases q1
    simp only [Classical.not_forall] at q3
    obtain⟨p,hp,q4⟩:=q3
    obtain⟨_,y,q5,q6⟩:=psr p hp
    have hp0:=(pk.lt p hp).1
    exact⟨y,List.mem_cons_of_mem _ q5,(Lit.reads iv q6 hr).mpr ((Yes.neg (by lia)).mpr q4)⟩
 refine⟨t,fun x' hx'=>?_,fun r e=>?_⟩
 ·obtain rfl:=Xm (hx.symm.trans hx')
  dsimp only
  rw [if_neg hs]
  refine⟨fun p hp=>(psr p hp).1,-n,ln,fun φ q1 q2=>(Fal.neg (by lia)).mpr ?_⟩
  refine(t.ok φ q1).2 n (List.mem_cons_self ..) fun y hy hne=>?_
  rcases Xd.mp hy with e|q
  ·exact absurd e hne
  ·obtain⟨p,hp,q4⟩:=ysr y q
   exact q2 p hp y q4
 ·subst e
  have l2:=norm_len ho.2 yn
  have:=pk.two
  rw [Xg] at l2
  refine⟨by lia,⟨n,hk,n,(ho.2.1 _).mpr (List.mem_cons_self ..),rfl⟩,fun x hx=>?_,iff_of_false hs (by lia)⟩
  rcases Xd.mp ((ho.2.1 x).mp hx) with rfl|q
  ·exact⟨s.natAbs,hk,Yy _⟩
  ·obtain⟨p,hp,q2⟩:=ysr x q
   exact⟨p.natAbs,num q2,Yw (pk.lt p hp).2⟩
theorem tru_spec(iv:Inv gs tops d)(hx:gs[s.natAbs]?=some .tru)(hk:Num d s.natAbs n)(ho:Res [(n:Int)] o) :
  TelR gs tops d [(n:Int)] o∧Done gs {d with cs:=addC d.cs o} s∧∀ r,o=some r→¬ 1<r.length:=by
 have hn:=iv.num _ _ hk
 have hl:=(X5.mp hn.2).1
 have t:=tell_spec iv ho (show 1≤5 by decide) (fun y hy=>by rw [X7.mp hy];exact⟨hn.1,hl⟩) fun τ τ' hm hr _=>⟨n,X7.mpr rfl,by
   have:τ s.natAbs=true:=hm _ _ hx
   unfold Yes
   rw [Int.natAbs_natCast,hr _ _ hk,this,decide_eq_true (by lia)]⟩
 refine⟨t,fun x' hx'=>?_,fun r e=>?_⟩
 ·obtain rfl:=Xm (hx.symm.trans hx')
  refine⟨n,hk,fun φ q=>?_⟩
  have:=(t.ok φ q).2 n (X7.mpr rfl) fun y hy hne=>absurd (X7.mp hy) hne
  unfold Tru at this
  rwa [Int.natAbs_natCast,decide_eq_true (by lia)] at this
 ·subst e
  have:=Asc.le ho.2
  simp at this
  exact(Nat.not_lt_of_le this)
end L03
end Lay
namespace Lay
namespace L03
variable{gs:List G}{tops:List Int}{d:Cl}{kn:List (List Int×V)}{σ:Hp}
theorem fresh_add{cs cs' F:List (List Int)}{o:Option (List Int)}(h:cs'=cs++F) : ∃ F',addC cs' o=cs++F'∧(∀ c∈F',c∈F∨o=some c)∧((∀ r,o=some r→r∉F)→F.Nodup→F'.Nodup):=by
 cases o with
 |none=>exact⟨F,h,fun c hc=>.inl hc,fun _ q=>q⟩
 |some r =>
  refine⟨F ++ [r],by rw [h];exact List.append_assoc ..,fun c hc=>(X9.mp hc).imp id fun q=>by rw [X7.mp q],fun q1 q2=>List.nodup_append.mpr ⟨q2,List.pairwise_singleton _ _,fun a ha b hb e=>q1 r rfl ?_⟩⟩
  rw [←X7.mp hb,←e];exact ha
theorem open_ws{s:Int}(c:gs.length≤20)(ok:COk gs kn)(h:ClsAt d σ)(hc:CircAt gs kn σ)(iv:Inv gs tops d)(hn:Free 240 σ)(hs:s∈opK d)(hl:d.cs.length≤900) :
  Ws (runF 240 2 m_Clauses_open_gate) [.ref 6,.int s] σ (fun _ τ=>OpR gs tops d σ s τ):=by
 have l1000:1000<lim:=by decide
 obtain⟨s1,s2⟩:=iv.opk s hs
 obtain⟨n,hnum⟩:=iv.numOf s2
 have hlt:s.natAbs<gs.length:=by have:=iv.key _ s2;lia
 obtain⟨n1,n2⟩:=iv.num _ _ hnum
 have hx:gs[s.natAbs]?=some gs[s.natAbs]:=X3 hlt
 generalize gs[s.natAbs]=x at hx
 refine Ws.fn rfl ?_
 unfold m_Clauses_open_gate
 refine .seq (.assignSwap (.cons (.meth (.op1 (.getL (v:=.ref 6) rfl (W.kCircuit h ⟨okC hc (by rfl),.cons (.call (.cons (.getL (v:=.int s) rfl (.nil (W.abs (.nil (.callM ((kind_ws (g:=(s.natAbs:Int)) (x:=x) hc hx (by exact(Ys c (nle 20 1000 rfl))) (hn.mono (by decide))).mono ?_))))))))⟩))))))
 rintro _ σ ⟨rfl,rfl⟩
 refine .cons (.op2 (.op1 (.getL (v:=.ref 6) rfl (W.kNumbers h (.call (.cons (.getL (v:=.int s) rfl (.nil (W.abs (W.itemD (Y3 h.nu) (u:=.int n) hnum (.nil ⟨show 2≤100 by decide,.sets1 (.sets1 (.sets0 ?_))⟩)))))))))))
 have done : ∀ s':St,OpR gs tops d σ s s'.hp→Qk.fn 240 (fun _ τ=>OpR gs tops d σ s τ) .next s':=fun s' a=>by
  refine⟨_,_,rfl,Zi fun _=>V.noConfusion,?_⟩
  obtain⟨d',f,q⟩:=a
  rw [cut_free (f.free hn (by decide))];exact⟨d',f,‹_›,‹_›,‹_›,‹_›,_,‹_›⟩
 refine .seq (.ite (.tcmp (.getL (v:=.str x.kind) rfl (.pure (W.eqS (Zq x) (Zq .tru) (.asBool ⟨fun hb=>?_,fun hb=>?_⟩))))))
 ·rw [W3] at hb
  obtain rfl:x = .tru:=(G.kind_eq hb).elim id fun⟨_,_,_,q⟩=>nomatch q
  refine .seq (.expr (.meth (.getL (v:=.ref 6) rfl ⟨okK h (by rfl),.cons (.list (.cons (.getL (v:=.int n) rfl (.nil (.mkLst rfl (show 1≤lim by decide) (.nil (.callM ((tell_ws (L := [(n:Int)]) h (hn.mono (by decide)) (show 1≤5 by decide) ?_ (by exact(Ys hl (nle 900 1000 rfl)))).mono ?_))))))))⟩)))
  ·intro y hy;rw [X7.mp hy];lia
  rintro _ τ ⟨f,o,ho,k⟩
  obtain⟨t,dn,sh⟩:=tru_spec iv hx hnum ho
  obtain⟨F,F1,F2,_⟩:=fresh_add (o:=o) (Xe d.cs).symm
  have F3 : ∀ c∈F,¬ 1<c.length:=fun c hc=>(F2 c hc).elim (fun q=>nomatch q) (sh c)
  refine .end (.end (done _ ⟨_,f,k,t.st.mono (Yx _),Ys t.le (by exact ar315),dn,F,F1,fun c hc q=>absurd q (F3 c hc),fun c hc _=>?_,?_⟩))
  ·have:s.natAbs=1:=by
    cases ok.well _ _ hx with
    |tru q=>exact q
   rw [this] at s2;exact s2
  ·rw [List.filter_eq_nil_iff.mpr fun c hc=>by simpa using F3 c hc];exact Xf
 rw [W3] at hb
 refine .seq (.ite (.and1 (.tcmp (.getL (v:=.str x.kind) rfl (.pure (W.eqS (Zq x) (Zq (.and [])) (.asBool ⟨fun hb2=>?_,fun hb2=>⟨nofun,fun _=>?_⟩⟩)))))))
 ·rw [W3] at hb2
  obtain⟨ps,rfl⟩ : ∃ ps,x = .and ps:=by rcases G.kind_eq (y:=.and []) hb2 with q|⟨ps,_,q,_⟩<;>exact⟨_,q⟩
  have pk:=(ok.parts hx).2
  have pin : ∀ p∈ps,In gs p:=fun p hp=>by have:=pk.lt p hp;exact⟨by exact(Ys (nle 1 2 rfl) this.1),by exact(Yt this.2 hlt)⟩
  refine .and1 (.tcmp (.getL (v:=.int s) rfl (.pure (W.gt (.asBool ⟨fun hs0=>.and0 ⟨fun _=>?_,nofun⟩,fun hs0=>⟨nofun,fun _=>?_⟩⟩)))))
  ·have hs0:=of_decide_eq_true hs0
   have ln:Lit d s n:=⟨n,hnum,by rw [if_pos hs0]⟩
   refine .seq (.for (.meth (.op1 (.getL (v:=.ref 6) rfl (W.kCircuit h ⟨okC hc (by rfl),.cons (.getL (v:=.int s) rfl (.nil (.callM ((parts_ws (g:=s) (x:=.and ps) hc hx (by exact(Ys c (nle 20 1000 rfl))) (hn.mono (by decide))).mono ?_))))⟩)))))
   rintro _ σ ⟨rfl,rfl⟩
   refine⟨rfl,.forS (xs:=ps.map .int) (OpF gs tops d σ s n ps) ⟨rfl,rfl,d,Fr8.refl _,h,.refl iv,Yy _,(fun _ q=>nomatch q),[],(Xe _).symm,(fun _ q=>nomatch q),Xf⟩ (fun _ _ _=>Y9 _) ?_ ?_⟩
   ·rintro i s' y ⟨a0,a3,d1,f,k1,st,le,dn,F,eq,lg,nd⟩ hy
    rw [X8] at hy
    obtain⟨p,hp,rfl⟩:=Xl.mp hy
    have hi:=(X5.mp hp).1
    have hpm:=Xa hp
    have htk:ps.take (i+1)=ps.take i ++ [p]:=by rw [List.take_add_one,hp];rfl
    have p4:=pk.four
    refine .setL (.seq (.expr (.meth (.getL (v:=.ref 6) a0 ⟨okK k1 (by rfl),.cons (.list (.cons (.op1 (.getL (v:=.int n) a3 (W.neg (.cons (.meth (.getL (v:=.ref 6) a0 ⟨okK k1 (by rfl),.cons (.getL (v:=.int p) rfl (.nil (.callM ((enter_iv c k1 st.iv ((f.free hn (by decide)).mono (by decide)) (pin p hpm) (pk.lt p hpm).2).mono ?_))))⟩))))))))⟩))))
    rintro _ τ ⟨d2,z,rfl,f2,k2,st2,c2,o2,l2,_⟩
    have hz:=st2.iv.lit_row l2
    refine .nil (.mkLst rfl (show 2≤lim by decide) (.nil (.callM ((tell_ws (L := [-(n:Int),z]) k2 ((f.trans f2).free (hn.mono (by decide)) (by decide)) (show 2≤5 by decide) ?_ (by rw [c2];lia)).mono ?_))))
    ·intro y hy
     rcases two_mem hy with rfl|rfl<;>lia
    rintro _ τ2 ⟨f3,o,ho,k3⟩
    obtain⟨t,pd,new⟩:=pos_spec st2.iv hx hs0 hpm (pk.lt p hpm).2 ((ln.ext st.ext).ext st2.ext) l2 o2 ho
    obtain⟨F',F1,F2,F3⟩:=fresh_add (o:=o) (c2.trans eq)
    have le':=t.le
    rw [c2] at le'
    refine .end ⟨a0,a3,_,(f.trans f2).trans f3,k3,(st.trans st2).trans (t.st.mono (Yx _)),by rw [c2];dsimp only;lia,fun q hq=>?_,F',F1,fun r hr=>?_,F3 (fun r hr q=>?_) nd⟩
    ·rw [htk] at hq
     rcases X9.mp hq with q|q
     ·exact((dn _ q).ext st2.ext).ext t.st.ext
     ·rw [X7.mp q];exact pd
    ·rw [htk]
     rcases F2 r hr with q|q
     ·obtain⟨⟨q1,q2⟩,p',q3,z',q4,q5⟩:=lg r q
      exact⟨⟨q1,(q2.ext st2.ext).ext t.st.ext⟩,p',Xi _ q3,z',(q4.ext st2.ext).ext t.st.ext,q5⟩
     ·exact⟨(new r q).1,p,Xh _ (X7.mpr rfl),z,l2.ext t.st.ext,(new r q).2⟩
    ·obtain⟨_,p',q3,z',q4,q5⟩:=lg r q
     have q4:=q4.ext st2.ext
     subst hr
     obtain⟨m',w1,w2⟩:=q4
     obtain⟨m,v1,v2⟩:=l2
     have e1:=lit_abs w2
     have e2:=lit_abs v2
     rcases two_mem ((ho.2.1 _).mp q5) with e|e
     ·have:n=m':=by lia
      subst this
      have:=st2.iv.inj ((st.trans st2).ext.num _ _ hnum) w1
      have:=(pk.lt p' (List.mem_of_mem_take q3)).2
      lia
     ·have:m=m':=by rw [←e1,←e2,e]
      subst this
      have:=st2.iv.inj v1 w1
      obtain⟨j,hj,rfl⟩:=List.mem_iff_getElem.mp q3
      have hji:j<i:=by rw [List.length_take] at hj;lia
      rw [List.getElem_take] at this
      have hpe:=(X5.mp hp).2
      rw [←hpe] at this
      exact List.pairwise_iff_getElem.mp pk.ne j i (by lia) hi hji this.symm
   ·rintro s' ⟨a0,a3,d1,f,k1,st,le,dn,F,eq,lg,nd⟩
    rw [X4] at le dn
    rw [List.take_length] at dn
    have p4:=pk.four
    refine .end (.end (.end (done _ ⟨d1,f,k1,st,by lia,fun x' hx'=>?_,F,eq,fun c hc _=>⟨s,rfl,(lg c hc).1.2⟩,fun c hc q=>absurd ((lg c hc).1.1▸(by decide:1<2)) q,nd.filter _⟩)))
    obtain rfl:=Xm (hx.symm.trans hx')
    dsimp only
    rw [if_pos hs0]
    exact dn
  ·have hs0:=of_decide_eq_false hs0
   refine .seq (.ite (.tcmp (.getL (v:=.str (G.and ps).kind) rfl (.pure (W.eqS (Zq (.and ps)) (Zq (.and [])) (.asBool ⟨fun _=>?_,fun hb3=>absurd hb3 (by simp only [G.kind];decide)⟩))))))
   refine .seq (.expr (.meth (.getL (v:=.ref 6) rfl ⟨okK h (by rfl),.cons (.op2 (.list (.cons (.getL (v:=.int n) rfl (.nil (.mkLst rfl (show 1≤lim by decide) (.comp (.meth (.op1 (.getL (v:=.ref 6) rfl (W.kCircuit h ⟨okC hc (by rfl),.cons (.op1 (.getL (v:=.int s) rfl (W.neg (.nil (.callM ((parts_ws (g := -s) (x:=.and ps) hc (by rw [W5];exact hx) (by exact(Ys c (nle 20 1000 rfl))) (hn.mono (by decide))).mono ?_))))))⟩)))))))))))⟩)))
   rintro _ σ ⟨rfl,rfl⟩
   refine⟨rfl,.compM (xs:=ps.map .int) (OpC gs tops d σ s ps) ⟨rfl,d,[],rfl,Fr8.refl _,h,.refl iv,rfl,rfl,fun _ _ _ q=>absurd q (Nat.not_lt_zero _)⟩ (fun _ _ _ _=>Y9 _) ?_ ?_⟩
   ·rintro i acc s' y ⟨a0,d1,ys,rfl,f,k1,st,eq,yl,hh⟩ hy
    rw [X8] at hy
    obtain⟨p,hp,rfl⟩:=Xl.mp hy
    have hi:=(X5.mp hp).1
    have hpm:=Xa hp
    have p4:=pk.four
    refine .and0 ⟨nofun,fun _=>.meth (.getL (v:=.ref 6) a0 ⟨okK k1 (by rfl),.cons (.op1 (.getL (v:=.int p) rfl (W.neg (.nil (.callM ((enter_iv (g := -p) (B:=s.natAbs) c k1 st.iv (f.free (hn.mono (by decide)) (by decide)) (pin p hpm).neg (by rw [W5];exact(pk.lt p hpm).2)).mono ?_))))))⟩)⟩
    rintro _ τ ⟨d2,z,rfl,f2,k2,st2,c2,o2,l2,_⟩
    refine⟨rfl,by rw [X4];lia,a0,d2,ys ++ [z],by rw [Xc];rfl,f.trans f2,k2,st.trans st2,c2.trans eq,by rw [X6,yl];rfl,fun j p' hj hlt=>?_⟩
    by_cases q:j<i
    ·obtain⟨q1,y,q2,q3⟩:=hh j p' hj q
     exact⟨st2.ext.op _ q1,y,by rw [Xj (by exact(Yq q (Yz yl.symm)))];exact q2,q3.ext st2.ext⟩
    ·obtain rfl:j=i:=by lia
     obtain rfl:=Xm (hp.symm.trans hj)
     exact⟨o2,z,by rw [←yl,List.getElem?_append_right (Yy _),Nat.sub_self];rfl,l2⟩
   ·rintro acc s' ⟨a0,d1,ys,rfl,f,k1,st,eq,yl,hh⟩
    rw [X4] at yl hh
    have p4:=pk.four
    have sp:=fun {o:Option (List Int)}=>neg_spec (o:=o) st.iv hx hs0 pk (st.ext.num _ _ hnum) yl fun j p hj=>hh j p hj (X5.mp hj).1
    refine .mkLst (Yd _) (lmLe (by exact(Yw (Yt (Yr (Ys (Yz yl) p4) (nlt 4 1000 rfl)) l1000)))) (W.addL (x := [.int n]) (y:=ys.map .int) (un_none fun _=>V.noConfusion) lst_at lst_at (Yd ((n:Int)::ys)) (by simp only [X6,Xg,List.length_nil,X4];lia) (.nil (.callM ((tell_ws (L:=(n:Int)::ys) k1 (f.free (hn.mono (by decide)) (by decide)) (by simp only [Xg];lia) (fun x hx0 e=>?_) (by rw [eq];exact(Ys hl (nle 900 1000 rfl)))).mono ?_))))
    ·subst e
     rcases Xd.mp hx0 with q|q
     ·lia
     ·obtain⟨j,hj,e⟩:=List.mem_iff_getElem.mp q
      obtain⟨_,y,q2,q3⟩:=hh j ps[j] (X3 (by exact(Yq hj (Yz yl)))) (by exact(Yq hj (Yz yl)))
      rw [X3 hj,e] at q2
      obtain rfl:=Xm q2
      exact absurd (st.iv.lit_row q3).1 (by decide)
    rintro _ τ2 ⟨f3,o,ho,k3⟩
    obtain⟨t,dn,new⟩:=sp ho
    obtain⟨F',F1,F2,F3⟩:=fresh_add (o:=o) (eq.trans (Xe _).symm)
    have le':=t.le
    rw [eq] at le'
    have F2 : ∀ c∈F',o=some c:=fun c hc=>(F2 c hc).elim (fun q=>nomatch q) id
    refine .end (.end (.end (.end (done _ ⟨_,f.trans f3,k3,st.trans (t.st.mono (Yx _)),by rw [eq];dsimp only;lia,dn,F',F1,fun c hc _=>⟨s,rfl,(new c (F2 c hc)).2⟩,fun c hc q=>absurd (new c (F2 c hc)).1 q,(F3 (fun _ _=>List.not_mem_nil) Xf).filter _⟩))))
 ·rw [W3] at hb2
  refine .seq (.ite (.tcmp (.getL (v:=.str x.kind) rfl (.pure (W.eqS (Zq x) (Zq (.and [])) (.asBool ⟨fun hb3=>?_,fun hb3=>.end (.end (.end (.end (done _ ⟨d,Fr8.refl _,h,.refl iv,X1 _ _,fun x' hx'=>?_,[],(Xe _).symm,(fun _ q=>nomatch q),(fun _ q=>nomatch q),Xf⟩))))⟩))))))
  ·rw [W3] at hb3
   exact absurd (hb2.symm.trans hb3) (by decide)
  ·obtain rfl:=Xm (hx.symm.trans hx')
   cases x with
   |tru=>exact absurd rfl (G.kind_ne hb)
   |and ps=>exact absurd hb2 (by simp only [G.kind];decide)
   |non=>trivial
   |inp=>trivial
end L03
end Lay
namespace Lay
theorem Wp.whileW{mt:M Bool}{mb:M Fl}{s:St}{Q:Fl→St→Prop}(I:Nat→St→Prop){k:Nat}(h0:I k s)
  (step : ∀ k s,I k s→Wp mt s (fun b s1=>(b=false→Q .next s1)∧(b=true→Wp mb s1 (Qk.loop (fun s2 => ∃ j,j<k∧I j s2) Q)))):Wp (M.whileW mt mb) s Q:=by
 have ex : ∀ k s,I k s→∃ n r,M.whileN mt mb n s=some r∧Q r.1 r.2:=by
  intro k
  induction k using Nat.strongRecOn with
  |ind k ih =>
   intro s hs
   obtain⟨b,s1,h1,h2,h3⟩:=step k s hs
   cases b with
   |false=>exact⟨1,_,R.bind h1 (R.pure (a:=Fl.next)),h2 rfl⟩
   |true =>
    obtain⟨f,s2,h4,h5⟩:=h3 rfl
    cases f with
    |next =>
     obtain⟨j,h5,h6⟩:=h5
     obtain⟨n,⟨g,s3⟩,h7,h8⟩:=ih j h5 s2 h6
     exact⟨n+1,(g,s3),R.bind h1 (R.bind h4 h7),h8⟩
    |cont =>
     obtain⟨j,h5,h6⟩:=h5
     obtain⟨n,⟨g,s3⟩,h7,h8⟩:=ih j h5 s2 h6
     exact⟨n+1,(g,s3),R.bind h1 (R.bind h4 h7),h8⟩
    |brk=>exact h5.elim
    |ret v=>exact⟨1,_,R.bind h1 (R.bind h4 (R.pure (a:=Fl.ret v))),h5⟩
 have mono : ∀ n m s r,M.whileN mt mb n s=some r→n≤m→M.whileN mt mb m s=some r:=by
  intro n
  induction n with
  |zero=>intro m s r h;cases h
  |succ n ih =>
   intro m s r h hm
   obtain⟨m,rfl⟩ : ∃ k,m=k+1:=⟨m-1,by lia⟩
   obtain⟨b,s1,e1,h⟩:=W6 h
   cases b with
   |false=>exact R.bind e1 h
   |true =>
    rw [if_pos rfl] at h
    obtain⟨f,s2,e2,h⟩:=W6 h
    cases f with
    |next=>exact R.bind e1 (R.bind e2 (ih m s2 r h (by lia)))
    |cont=>exact R.bind e1 (R.bind e2 (ih m s2 r h (by lia)))
    |brk=>exact R.bind e1 (R.bind e2 h)
    |ret v=>exact R.bind e1 (R.bind e2 h)
 obtain⟨n,r,h1,h2⟩:=ex k s h0
 have hex : ∃ n r,M.whileN mt mb n s=some r:=⟨n,r,h1⟩
 refine⟨r.1,r.2,?_,h2⟩
 unfold R M.whileW
 rw [dif_pos hex]
 have h3:=Classical.choose_spec (Classical.choose_spec hex)
 generalize Classical.choose (Classical.choose_spec hex)=r' at h3
 generalize Classical.choose hex=n' at h3
 have:=mono _ (n+n') _ _ h3 (by lia)
 rw [mono n (n+n') _ _ h1 (by exact ar184)] at this
 rw [←this]
end Lay
namespace Lay
namespace L03
variable{gs:List G}{tops:List Int}{d:Cl}{kn:List (List Int×V)}{σ:Hp}
noncomputable def Did(d:Cl)(s:Int):Prop:=s∈opK d∧s∉d.wa
noncomputable def Pend(gs:List G)(d:Cl):Prop := ∀ s,Did d s→Done gs d s
theorem Ext.did{d d':Cl}{s:Int}(e:Ext d d')(h:Did d s):Did d' s:=⟨e.op s h.1,e.old s h.1 h.2⟩
theorem Ext.nuk{d d':Cl}(h:Inv gs tops d)(e:Ext d d'){g:Nat}(hg:(g:Int)∈nuK d):(g:Int)∈nuK d':=by
 obtain⟨n,hn⟩:=h.numOf hg
 exact(kv_keys_some _ _).mp (by rw [e.num _ _ hn];rfl)
structure FlR(gs:List G)(tops:List Int)(B:Nat)(d:Cl)(d':Cl):Prop where
 iv:Inv gs tops d'
 pe:Pend gs d'
 ext:Ext d d'
 low : ∀ k∈nuK d',k∈nuK d∨k.natAbs<B
 le:d'.cs.length+4*d.op.length+4*d'.wa.length≤d.cs.length+4*d'.op.length+4*d.wa.length
 fr : ∃ F,Fresh d d' (fun s=>Did d' s∧¬ Did d s) F
inductive FlI(gs:List G)(tops:List Int)(B:Nat)(d:Cl)(σ:Hp)(k:Nat)(s:St):Prop
 |mk (h0:s.loc 0=some (.ref 6)) (d':Cl) (f:Fr8 σ s.hp) (k1:ClsAt d' s.hp) (r:FlR gs tops B d d') (wB : ∀ s∈d'.wa,s.natAbs<B) (m:k+d'.op.length=38+d'.wa.length)
theorem flush_step{B:Nat}{d1 d3:Cl}{w:List Int}{u:Int}{F2:List (List Int)}(r:FlR gs tops B d d1)(hw:d1.wa=w ++ [u])(st:Step gs tops u.natAbs {d1 with wa:=w} d3)(uB:u.natAbs<B)(le:d3.cs.length≤d1.cs.length+4)(dn:Done gs d3 u)(fr:Fresh {d1 with wa:=w} d3 (· =u) F2)(hu:u∈opK d1)(huw:u∉w) :
  FlR gs tops B d d3:=by
 have e1:Ext d1 {d1 with wa:=w}:=⟨rfl,fun _ _ q=>q,fun _ q=>q,List.prefix_rfl,List.prefix_rfl,fun s _ q=>fun q2=>q (by rw [hw];exact Xi _ q2)⟩
 have e3:=e1.trans st.ext
 have nd1 : ¬ Did d u:=fun q=>(r.ext.did q).2 (by rw [hw];simp)
 have d3u:Did d3 u:=st.ext.did ⟨hu,huw⟩
 refine⟨st.iv,fun x hx=>?_,r.ext.trans e3,fun k hk=>?_,?_,?_⟩
 ·obtain⟨q1,q2⟩:=st.stp.new x hx.1 hx.2
  by_cases e:x=u
  ·rw [e];exact dn
  ·exact(r.pe x ⟨q1,by rw [hw,X9,not_or];exact⟨q2,by simpa using e⟩⟩).ext e3
 ·rcases st.low.nu k hk with q|q
  ·exact r.low k q
  ·exact .inr (Yt q uB)
 ·have h1:=r.le
  have h2:=st.stp.cnt
  have h3:=congrArg List.length hw
  rw [X6] at h3
  simp only [Xg,List.length_nil] at h2 h3
  lia
 ·obtain⟨F1,f1,f2,f3,f4⟩:=r.fr
  refine⟨F1++F2,?_,fun c hc hl=>?_,fun c hc hl=>?_,?_⟩
  ·rw [fr.eq]
   show d1.cs++F2=_
   rw [f1,List.append_assoc]
  ·rcases X9.mp hc with q|q
   ·obtain⟨s,q1,q2⟩:=f2 c q hl
    exact⟨s,⟨e3.did q1.1,q1.2⟩,q2.ext e3⟩
   ·obtain⟨s,rfl,q2⟩:=fr.long c q hl
    exact⟨s,⟨d3u,nd1⟩,q2⟩
  ·rcases X9.mp hc with q|q
   ·exact e3.nuk r.iv (g:=1) (f3 c q hl)
   ·exact fr.short c q hl
  ·rw [List.filter_append]
   refine List.nodup_append.mpr ⟨f4,fr.nd,fun a ha b hb e=>?_⟩
   subst e
   obtain⟨ha,hl⟩:=List.mem_filter.mp ha
   obtain⟨s,q1,q2⟩:=f2 a ha (of_decide_eq_true hl)
   obtain⟨s',rfl,q3⟩:=fr.long a (List.mem_filter.mp hb).1 (of_decide_eq_true hl)
   have:=(q2.ext e3).one st.iv q3
   subst this
   exact q1.1.2 (by rw [hw];simp)
theorem flush_ws{B:Nat}(c:gs.length≤20)(ok:COk gs kn)(h:ClsAt d σ)(hc:CircAt gs kn σ)(iv:Inv gs tops d)(hn:Free 220 σ)(pe:Pend gs d)(hl:d.cs.length≤500)(wB : ∀ s∈d.wa,s.natAbs<B) :
  Ws (runF 220 1 m_Clauses_flush) [.ref 6] σ (fun _ σ' => ∃ d',Fr8 σ σ'∧ClsAt d' σ'∧FlR gs tops B d d'∧d'.wa = []):=by
 have l1000:1000<lim:=by decide
 obtain⟨b1,b2,b3,b4⟩:=iv.bounds c
 refine Ws.fn rfl ?_
 unfold m_Clauses_flush
 refine .seq (.whileW (FlI gs tops B d σ) (k:=38+d.wa.length-d.op.length) ⟨rfl,d,Fr8.refl _,h,⟨iv,pe,Ext.refl d,fun _ q=>.inl q,by lia,[],(Xe _).symm,(fun _ q=>nomatch q),(fun _ q=>nomatch q),Xf⟩,wB,by lia⟩ ?_)
 rintro k s ⟨a0,d1,f1,k1,r,wB,m1⟩
 obtain⟨c1,c2,c3,c4⟩:=r.iv.bounds c
 have le:=r.le
 refine .tcmp (.call (.cons (.op1 (.getL (v:=.ref 6) a0 (W.kWaiting k1 (.nil (W.len (n:=d1.wa.length) (len_rm k1.wa) (by exact(Yw (Yt (Yr c4 (nlt 38 1000 rfl)) l1000))) (.pure (W.gt (.asBool ⟨fun hb=>?_,fun hb=>?_⟩))))))))))
 ·have hb:=of_decide_eq_false hb
  have hb:d1.wa = []:=List.eq_nil_of_length_eq_zero (by lia)
  refine .end ⟨_,_,rfl,Zi fun _=>V.noConfusion,d1,?_⟩
  rw [cut_free (f1.free hn (by decide))]
  exact⟨f1,k1,r,hb⟩
 have hb:=of_decide_eq_true hb
 have hb:d1.wa≠[]:=by intro e;rw [e] at hb;exact absurd hb (by decide)
 obtain⟨w,u,hwu⟩ : ∃ w u,d1.wa=w ++ [u]:=⟨_,_,(List.dropLast_concat_getLast hb).symm⟩
 have hwl:d1.wa.length=w.length+1:=by rw [hwu];simp
 have hnd:=List.nodup_append.mp (hwu▸r.iv.wan)
 have hu:u∈opK d1:=r.iv.was u (by rw [hwu];simp)
 have huw:u∉w:=fun q=>hnd.2.2 u q u (by simp) rfl
 have uB:u.natAbs<B:=wB u (by rw [hwu];simp)
 have hpop:s.hp 12=some (.list (w.map .int ++ [.int u])):=by rw [k1.wa,hwu,Xc];rfl
 refine .seq (.expr (.meth (.getL (v:=.ref 6) a0 ⟨okK k1 (by rfl),.cons (.meth (.op1 (.getL (v:=.ref 6) a0 (W.kWaiting k1 ⟨isLst_ref k1.wa,.nil (W.pop hpop (lmLt (by lia)) (.nil ?_))⟩))))⟩)))
 have iv2:Inv gs tops {d1 with wa:=w}:={r.iv with was:=fun s hs=>r.iv.was s (by rw [hwu];exact Xi _ hs),wan:=hnd.1}
 have k2:ClsAt {d1 with wa:=w} (upd s.hp 12 (some (.list (w.map .int)))):=⟨k1.i,k1.a,k1.cs,k1.ga,k1.nu,k1.op,Zc _ _ _⟩
 have f2:=f1.upd (n:=12) (o:=some (.list (w.map .int))) (by decide)
 refine .callM ((open_ws (gs:=gs) (kn:=kn) (tops:=tops) c ok k2 (f2.circ hc) iv2 ((f2.free hn (by decide)).mono (by decide)) hu (by dsimp only;lia)).mono ?_)
 rintro v τ ⟨d3,f3,k3,st,le3,dn,F,fr⟩
 have r3:=flush_step r hwu st uB le3 dn fr hu huw
 have g7:=st.stp.cnt
 dsimp only at g7
 obtain⟨e1,e2,e3,e4⟩:=r3.iv.bounds c
 refine .end ⟨k-1,by lia,a0,d3,f2.trans f3,k3,r3,fun x hx=>?_,by lia⟩
 rcases st.low.wa x hx with q|q
 ·exact wB x (by rw [hwu];exact Xi _ q)
 ·exact Yt q uB
inductive LitR(gs:List G)(tops:List Int)(d:Cl)(σ:Hp)(g:Int)(u:V)(τ:Hp):Prop
 |mk (d':Cl) (x:Int) (e:u = .int x) (f:Fr8 σ τ) (k:ClsAt d' τ) (iv:Inv gs tops d') (ext:Ext d d') (wa:d'.wa = []) (pe:Pend gs d') (op:g∈opK d') (li:Lit d' g x) (all:0<d.w→ -g∈opK d') (F:List (List Int)) (fr:Fresh d d' (fun s=>Did d' s∧¬ Did d s) F) (le:d'.cs.length+4*d.op.length≤d.cs.length+4*d'.op.length)
theorem literal_ws{g:Int}(c:gs.length≤20)(ok:COk gs kn)(h:ClsAt d σ)(hc:CircAt gs kn σ)(iv:Inv gs tops d)(hn:Free 200 σ)(pe:Pend gs d)(hl:d.cs.length≤500)(hwa:d.wa = [])(hg:In gs g) :
  Ws (runF 200 2 m_Clauses_literal_of) [.ref 6,.int g] σ (LitR gs tops d σ g):=by
 refine Ws.fn rfl ?_
 unfold m_Clauses_literal_of
 refine .seq (.assign (.meth (.getL (v:=.ref 6) rfl ⟨okK h (by rfl),.cons (.getL (v:=.int g) rfl (.nil (.callM ((enter_iv (B:=20) c h iv (hn.mono (by decide)) hg (by have:=hg.2;lia)).mono ?_))))⟩)))
 rintro _ τ ⟨d1,x,rfl,f,k1,st,c1,o1,l1,a1⟩
 have n1 : ∀ s,Did d1 s→Did d s:=fun s q=>st.stp.new s q.1 q.2
 refine .seq (.expr (.meth (.getL (v:=.ref 6) rfl ⟨okK k1 (by rfl),.nil (.callM ((flush_ws (B:=20) c ok k1 (f.circ hc) st.iv ((f.free hn (by decide)).mono (by decide)) (fun s q=>(pe s (n1 s q)).ext st.ext) (by rw [c1];exact hl) (fun s q=>(st.low.wa s q).elim (fun q=>?_) id)).mono ?_))⟩)))
 ·rw [hwa] at q;cases q
 rintro _ τ2 ⟨d2,f2,k2,r,w2⟩
 have cnt:=st.stp.cnt
 have le:=r.le
 have ext:=st.ext.trans r.ext
 refine .seq (.ret (.getL (v:=.int x) rfl ⟨_,_,rfl,Zi fun _=>V.noConfusion,?_⟩))
 dsimp only
 rw [cut_free ((f.trans f2).free hn (by decide))]
 obtain⟨F,q1,q2,q3,q4⟩:=r.fr
 refine⟨d2,x,rfl,f.trans f2,k2,r.iv,ext,w2,r.pe,r.ext.op _ o1,l1.ext r.ext,fun hw=>r.ext.op _ (a1 _ (W5 _) hw),F,⟨by rw [q1,c1],fun c hc hl=>?_,q3,q4⟩,?_⟩
 ·obtain⟨s,r1,r2⟩:=q2 c hc hl
  exact⟨s,⟨r1.1,fun q=>r1.2 (st.ext.did q)⟩,r2⟩
 ·rw [hwa] at cnt
  rw [w2,c1] at le
  simp only [List.length_nil] at cnt le
  lia
end L03
end Lay
namespace Lay
theorem W.setA{Cl:Addr}{n d:Nat}{name:Str}{u:V}{kvs:List (Str×V)}{s:St}{Q:Unit→St→Prop}(h:s.hp n=some (.inst Cl d))(h2:s.hp d=some (.attrs kvs))(hu:u.low=true)(hl:kvs.length<1000)(k:Q () {s with hp:=upd s.hp d (some (.attrs (kvSet kvs name u)))}):Wp (Lay.setA Cl name (.ref n) u) s Q :=
 ⟨_,_,bs un_ref (bs (bs h (un_self (f:=inst2) (a:=(Cl,d)) fun _ _ e=>Prod.ext (O.inst.inj e).1 (O.inst.inj e).2)) (bs (bs h2 (un_self fun _ _=>O.attrs.inj)) (if_pos ⟨rfl,hu,hl⟩))),k⟩
theorem kvSet_new{K:Type} [DecidableEq K]{α:Type}{kvs:List (K×α)}{k:K}{v:α}(h:k∉kvs.map (·.1)):kvSet kvs k v=kvs ++ [(k,v)]:=by
 unfold kvSet
 rw [if_neg]
 intro q
 rw [kvGet_some_of_any,kv_keys_some] at q
 exact h q
theorem atS{α:Type}{m:M α}{s:St}{Q:α→St→Prop}(P:St→Prop)(h:P s)(k : ∀ s,P s→Wp m s Q):Wp m s Q:=k s h
namespace L03
variable{gs:List G}{kn:List (List Int×V)}{σ:Hp}
noncomputable def Cin(w:Int)(k:Nat):Cl:=⟨w,[],0 :: [2,3,4].take k,([(2,.int 1),(3,.int 2),(4,.int 3)]:List (Int×V)).take k,[],[]⟩
theorem cin_add{w:Int}{k:Nat}(h:k<3):numAdd (Cin w k) ((2+k:Nat):Int)=Cin w (k+1):=by
 have:k=0∨k=1∨k=2:=by lia
 rcases this with rfl|rfl|rfl<;>rfl
theorem inv0(gs:List G)(w:Int):Inv gs [] (Cin w 0) :=
 ⟨rfl,Xf,(fun _ h=>nomatch h),(fun _ _ h=>nomatch h),(fun _ _ h=>nomatch h),Xf,(fun _ h=>nomatch h),(fun _ h=>nomatch h),Xf,(fun _ _ _ _ _ _ h=>nomatch h),(fun _ h=>nomatch h)⟩
theorem inv_cin{w:Int}(ok:COk gs kn){k:Nat}(hk:k≤3):Inv gs [] (Cin w k):=by
 have l5:=ok.len
 induction k with
 |zero=>exact inv0 gs w
 |succ k ih=>exact cin_add (w:=w) hk▸(numAdd_spec (B:=9) (ih (Yw hk)) (by lia) (by lia) (by lia)).1.iv
theorem inp_iff(ok:COk gs kn){i:Nat}{x:G}(h0:2≤i)(hx:gs[i]?=some x):i<5↔x = .inp:=by
 cases ok.well i x hx with
 |non q=>lia
 |tru q=>lia
 |inp q k=>exact⟨fun _=>rfl,fun _=>k⟩
 |and q k=>exact⟨fun _=>by lia,fun e=>nomatch e⟩
inductive InI(w:Int)(τ:Hp)(i:Nat)(s:St):Prop
 |mk (h0:s.loc 0=some (.ref 6)) (h1:s.loc 1=some (.ref 1)) (f:Fr8 τ s.hp) (k:ClsAt (Cin w (min i 3)) s.hp)
theorem init_ws{w:Int}(c:gs.length≤20)(ok:COk gs kn)(hc:CircAt gs kn σ)(h6:σ 6=some (.inst 112 7))(h7:σ 7=some (.attrs []))(h8 : ∀ n,8≤n→n≤12→σ n=none)(hn:Free 280 σ) :
  Ws (runF 280 3 m_Clauses_init__) [.ref 6,.ref 1,.int w] σ (fun u σ'=>u = .none∧(∀ n,n<6∨12<n→σ' n=σ n)∧ClsAt (Cin w 3) σ'):=by
 have l1000:1000<lim:=by decide
 have l5:=ok.len
 refine Ws.fn rfl ?_
 unfold m_Clauses_init__
 refine .seq (.assignAttr (.getL (v:=.ref 1) rfl (.getL (v:=.ref 6) rfl (W.setA h6 h7 rfl (by decide) ?_))))
 rw [kvSet_new (by simp)]
 refine .seq (.assignAttr (.getL (v:=.int w) rfl (.getL (v:=.ref 6) rfl (W.setA (d:=7) h6 rfl rfl (show 1<1000 by decide) ?_))))
 rw [kvSet_new (by simp only [List.nil_append,Xb,List.map_nil];decide)]
 refine .seq (.assignAttr (.list (.nil (.mkLstS rfl (Yx _) (h8 8 (by decide) (by decide)) (.getL (v:=.ref 6) rfl (W.setA (d:=7) h6 rfl rfl (show 2<1000 by decide) ?_))))))
 rw [kvSet_new (by simp only [List.nil_append,List.cons_append,Xb,List.map_nil];decide)]
 refine .seq (.assignAttr (.list (.cons (.pure (.nil (.mkLstS rfl (show 1≤lim by decide) (h8 9 (by decide) (by decide)) (.getL (v:=.ref 6) rfl (W.setA (d:=7) h6 rfl rfl (show 3<1000 by decide) ?_))))))))
 rw [kvSet_new (by simp only [List.nil_append,List.cons_append,Xb,List.map_nil];decide)]
 refine .seq (.assignAttr (.new (h8 10 (by decide) (by decide)) (.getL (v:=.ref 6) rfl (W.setA (d:=7) h6 rfl rfl (show 4<1000 by decide) ?_))))
 rw [kvSet_new (by simp only [List.nil_append,List.cons_append,Xb,List.map_nil];decide)]
 refine .seq (.assignAttr (.new (h8 11 (by decide) (by decide)) (.getL (v:=.ref 6) rfl (W.setA (d:=7) h6 rfl rfl (show 5<1000 by decide) ?_))))
 rw [kvSet_new (by simp only [List.nil_append,List.cons_append,Xb,List.map_nil];decide)]
 refine .seq (.assignAttr (.list (.nil (.mkLstS rfl (Yx _) (h8 12 (by decide) (by decide)) (.getL (v:=.ref 6) rfl (W.setA (d:=7) h6 rfl rfl (show 6<1000 by decide) ?_))))))
 rw [kvSet_new (by simp only [List.nil_append,List.cons_append,Xb,List.map_nil];decide)]
 refine atS (fun s=>(s.loc 0=some (.ref 6)∧s.loc 1=some (.ref 1))∧ClsAt (Cin w 0) s.hp∧∀ n,n<6∨12<n→s.hp n=σ n) ⟨⟨rfl,rfl⟩,⟨h6,rfl,rfl,rfl,rfl,rfl,rfl⟩,fun n q=>?_⟩ ?_
 ·simp only [upd_ne _ _ (show n≠7 by lia),upd_ne _ _ (show n≠8 by lia),upd_ne _ _ (show n≠9 by lia),upd_ne _ _ (show n≠10 by lia),upd_ne _ _ (show n≠11 by lia),upd_ne _ _ (show n≠12 by lia)]
 rintro⟨loc,τ⟩ ⟨⟨l0,l1⟩,k0,f0⟩
 dsimp only at l0 l1 k0 f0
 have hcτ:CircAt gs kn τ:=hc.mono fun n q=>f0 n (.inl (by exact(Yr q (nlt 5 6 rfl))))
 have hnτ:Free 280 τ:=fun n q=>(f0 n (.inr (by exact(Yq (nlt 12 280 rfl) q)))).trans (hn n q)
 refine .seq (.for (.call (.cons (.pure (.cons (.op2 (.meth (.getL (v:=.ref 1) l1 ⟨okC hcτ (by rfl),.nil (.callM ((size_ws hcτ (by exact(Ys c (nle 20 1000 rfl))) (hnτ.mono (by decide))).mono ?_))⟩))))))))
 rintro _ τ ⟨rfl,rfl⟩
 refine .pure (W.add (.nil (W.range2 ⟨rfl,.forS (xs:=_) (InI w τ) ⟨l0,l1,Fr8.refl _,k0⟩ (fun i s _=>Yh (by decide) (by lia)) ?_ ?_⟩)))
 ·rintro i s x ⟨a0,a1,f1,k1⟩ hx
  obtain⟨rfl,hi⟩:=rng_get hx
  have hlt:2+i<gs.length:=by lia
  have ei:(2:Int)+i=((2+i:Nat):Int):=by lia
  have hg:gs[2+i]?=some gs[2+i]:=X3 hlt
  generalize gs[2+i]=x at hg
  have hq:=inp_iff ok (by lia) hg
  have hc1:=f1.circ hcτ
  have hn1:=f1.free hnτ (by decide)
  rw [ei]
  refine .setL (.seq (.ite (.tcmp (.meth (.getL (v:=.ref 1) a1 ⟨okC hc1 (by rfl),.cons (.getL (v:=.int (2+i:Nat)) rfl (.nil (.callM ((kind_ws (g:=((2+i:Nat):Int)) (x:=x) hc1 hg (by exact(Ys c (nle 20 1000 rfl))) (hn1.mono (by decide))).mono ?_))))⟩)))))
  rintro _ σ2 ⟨rfl,rfl⟩
  refine .pure (W.eqS (Zq x) (Zq .inp) (.asBool ⟨fun hb=>?_,fun hb=>.end (.end ⟨a0,a1,f1,?_⟩)⟩))
  ·rw [W3] at hb
   have hxi:x = .inp:=(G.kind_eq (y:=.inp) hb).elim id fun⟨_,_,_,q⟩=>nomatch q
   have i3:i<3:=by have:=hq.mpr hxi;lia
   rw [show min i 3=i by lia] at k1
   have iv:=inv_cin (w:=w) ok (Yw i3)
   obtain⟨b1,b2,b3,b4⟩:=iv.bounds c
   refine .seq (.expr (.meth (.getL (v:=.ref 6) a0 ⟨okK k1 (by rfl),.cons (.getL (v:=.int (2+i:Nat)) rfl (.nil (.callM ((number_ws (g:=((2+i:Nat):Int)) k1 (hn1.mono (by decide)) (by exact(Ys b2 (nle 20 1000 rfl))) (by exact(Ys b1 (nle 19 1000 rfl))) (iv.val _)).mono ?_))))⟩)))
   rintro _ τ2 ⟨f2,k2,_⟩
   rw [cin_add i3] at k2
   exact .end (.end ⟨a0,a1,f1.trans f2,by rw [show min (i+1) 3=i+1 by lia];exact k2⟩)
  ·rw [W3] at hb
   have : ¬ 2+i<5:=fun q=>G.kind_ne (y:=.inp) hb (hq.mp q)
   rw [show min (i+1) 3=min i 3 by lia];exact k1
 ·rintro s ⟨a0,a1,f1,k1⟩
  rw [X4,List.length_range,show min ((gs.length:Int)-1+1-2).toNat 3=3 by lia] at k1
  refine .end ⟨_,_,rfl,Zi fun _=>V.noConfusion,rfl,?_⟩
  rw [cut_free (f1.free hnτ (by decide))]
  exact⟨fun n q=>by rw [f1 n (by lia),f0 n q],k1⟩
end L03
end Lay
namespace Lay
theorem Wp.extRev{mo me:M V}{s:St}{Q:V→St→Prop}(h:Wp mo s (fun o s1=>isLst o s1=true∧Wp me s1 (fun v s2=>Wp (mExtRev o v) s2 Q))):Wp (X.extRev mo me) s Q :=
 .bind (h.mono fun o s1 h=>.bind ⟨(),s1,R.guard h.1,.bind h.2⟩)
namespace L03
variable{gs:List G}{tops:List Int}{d:Cl}{kn:List (List Int×V)}{σ:Hp}{o:Option (List Int)}{s t:Int}
theorem Inv.top(h:Inv gs tops d)(t:Int):Inv gs (tops ++ [t]) d:={h with snd:=fun τ τ' a b c=>h.snd τ τ' a b fun x hx=>c x (Xi _ hx)}
noncomputable def TopOk(gs:List G)(d:Cl)(s:Int):Prop := ∀ φ τ,Model gs τ→Closed φ d.cs→(∀ u∈opK d,¬ Yes τ u→∀ x,Lit d u x→Fal φ x)→Yes τ s
theorem TopOk.ext{d d':Cl}(e:Ext d d')(h:TopOk gs d s):TopOk gs d' s:=fun φ τ a b c=>h φ τ a (b.ext e) fun u hu q x hx=>c u (e.op u hu) q x (hx.ext e)
theorem TopOk.app{l:List G}(h:TopOk gs d s):TopOk (gs++l) d s:=fun φ τ a=>h φ τ a.app
theorem fal_tru{φ:Nat→Option Bool}{x:Int}(a:Fal φ x)(b:Tru φ x):False:=by
 unfold Fal at a
 unfold Tru at b
 rw [a] at b
 have:=Xm b
 cases q:decide (0<x)<;>rw [q] at this<;>cases this
theorem OkC.some{φ:Nat→Option Bool}{L:List Int}(h:OkC φ L) : ¬ ∀ x∈L,Fal φ x:=fun q=>by
 obtain⟨a,ha⟩:=List.exists_mem_of_ne_nil _ h.1
 exact fal_tru (q a ha) (h.2 a ha fun y hy _=>q y hy)
theorem leaf_spec{L:List Int}{us:List Int}(iv:Inv gs (tops ++ [t]) d)(hl:L.length≤5)(h1 : ∀ y∈L,∃ u∈us,Lit d u y)(h2 : ∀ u∈us,u∈opK d∧∃ y∈L,Lit d u y)
  (hs : ∀ τ,Model gs τ→(Yes τ s↔∃ u∈us,Yes τ u)) (ht : ∀ τ,Model gs τ→Yes τ t→Yes τ s) (ho:Res L o):TelR gs (tops ++ [t]) d L o∧TopOk gs {d with cs:=addC d.cs o} s:=by
 have hL : ∀ y∈L,1≤y.natAbs∧y.natAbs<d.ga.length:=fun y hy=>by obtain⟨u,_,q⟩:=h1 y hy;exact iv.lit_row q
 have te:=tell_spec iv ho hl hL fun τ τ' hm hr q=>by
  obtain⟨u,hu,q⟩:=(hs τ hm).mp (ht τ hm (q t (Xh _ (X7.mpr rfl))))
  obtain⟨_,y,hy,q2⟩:=h2 u hu
  exact⟨y,hy,(Lit.reads iv q2 hr).mpr q⟩
 refine⟨te,fun φ τ hm hc ha=>(hs τ hm).mpr (Xr fun q=>(te.ok φ hc).some fun y hy=>?_)⟩
 obtain⟨u,hu,q2⟩:=h1 y hy
 exact ha u (h2 u hu).1 (fun q3=>q ⟨u,hu,q3⟩) y q2
theorem neg_and{τ:Nat→Bool}{ps:List Int}(hm:Model gs τ)(hx:gs[s.natAbs]?=some (.and ps))(hs : ¬ 0<s)(h0 : ∀ p∈ps,p≠0):Yes τ s↔∃ u∈ps.map (fun p => -p),Yes τ u:=by
 have hm:τ s.natAbs=true↔∀ p∈ps,Yes τ p:=hm _ _ hx
 unfold Yes
 rw [decide_eq_false hs]
 constructor
 ·intro q
  have : ¬ ∀ p∈ps,Yes τ p:=fun r=>by rw [hm.mpr r] at q;cases q
  simp only [Classical.not_forall] at this
  obtain⟨p,hp,r⟩:=this
  exact⟨-p,List.mem_map.mpr ⟨p,hp,rfl⟩,(Yes.neg (h0 p hp)).mpr r⟩
 ·rintro⟨u,hu,q⟩
  obtain⟨p,hp,rfl⟩:=List.mem_map.mp hu
  rw [←Bool.not_eq_true]
  exact fun r=>(Yes.neg (h0 p hp)).mp q (hm.mp r p hp)
noncomputable def TopSt(gs:List G)(d:Cl)(S:Int→Prop)(s:Int):Prop:=TopOk gs d s∨(0<s∧∃ ps,gs[s.natAbs]?=some (.and ps)∧∀ p∈ps,S p)
theorem TopSt.mono{d d':Cl}{S S':Int→Prop}(e:Ext d d')(h:TopSt gs d S s)(k : ∀ p,S p→S' p):TopSt gs d' S' s:=h.imp (·.ext e) fun⟨a,ps,b,c⟩=>⟨a,ps,b,fun p hp=>k p (c p hp)⟩
theorem top_all(ok:COk gs kn){S:Int→Prop}(h : ∀ s,S s→TopSt gs d S s) : ∀ s,S s→TopOk gs d s:=by
 suffices key : ∀ k,∀ s,S s→s.natAbs=k→TopOk gs d s from fun s hs=>key _ s hs rfl
 intro k
 induction k using Nat.strongRecOn with
 |ind k ih =>
  intro s hs e
  rcases h s hs with q|⟨s0,ps,q1,q2⟩
  ·exact q
  ·intro φ τ a b c
   unfold Yes
   rw [decide_eq_true s0]
   refine(a _ _ q1).mpr fun p hp=>ih p.natAbs ?_ p (q2 p hp) rfl φ τ a b c
   have:=((ok.parts q1).2.lt p hp).2
   exact(Yq this (Yz e))
inductive TopR(gs:List G)(tops:List Int)(B:Nat)(d:Cl)(σ:Hp)(t:Int)(τ:Hp):Prop
 |mk (d':Cl) (f:Fr8 σ τ) (k:ClsAt d' τ) (iv:Inv gs (tops ++ [t]) d') (ext:Ext d d') (wa:d'.wa = []) (pe:Pend gs d') (ok:TopOk gs d' t) (low : ∀ k∈nuK d',k∈nuK d∨k.natAbs<B) (le:d'.cs.length+4*d.op.length≤d.cs.length+38+4*d'.op.length)
noncomputable def FrT(σ σ':Hp):Prop := ∀ n,n<8∨12<n→n≠180→n≠181→σ' n=σ n
structure TpG(gs:List G)(tops:List Int)(B:Nat)(d:Cl)(t:Int)(sn W:List Int)(d':Cl):Prop where
 st:Step gs (tops ++ [t]) B d d'
 le:d'.cs.length≤d.cs.length+sn.length
 nd:sn.Nodup
 mem : ∀ s,s∈sn∨s∈W→(In gs s∧s.natAbs≤t.natAbs)∧∀ τ,Model gs τ→Yes τ t→Yes τ s
 top:t∈sn∨t∈W
 don : ∀ s∈sn,TopSt gs d' (fun s=>s∈sn∨s∈W) s
inductive TpI(gs:List G)(tops:List Int)(B:Nat)(d:Cl)(σ:Hp)(t:Int)(k:Nat)(s:St):Prop
 |mk (h0:s.loc 0=some (.ref 6)) (h2:s.loc 2=some (.ref 181)) (h3:s.loc 3=some (.ref 180)) (f:FrT σ s.hp) (kvs:List (Int×V)) (sn:s.hp 180=some (.idict kvs)) (W:List Int) (wt:s.hp 181=some (.list (W.map .int))) (d':Cl) (k1:ClsAt d' s.hp) (g:TpG gs tops B d t (kvs.map (·.1)) W d')
   (wl:W.length≤1+4*kvs.length) (m:k+5*kvs.length=190+W.length)
end L03
end Lay
namespace Lay
namespace L03
variable{gs:List G}{tops:List Int}{d:Cl}{kn:List (List Int×V)}{σ:Hp}{B:Nat}{t u:Int}{sn W W':List Int}{d1 d2:Cl}
theorem TpG.old(g:TpG gs tops B d t sn (W ++ [u]) d1)(hu:u∈sn):TpG gs tops B d t sn W d1:=by
 have k : ∀ s,s∈sn∨s∈W ++ [u]→s∈sn∨s∈W:=fun s q=>q.elim .inl fun q=>(X9.mp q).elim .inr fun q=>.inl (X7.mp q▸hu)
 exact⟨g.st,g.le,g.nd,fun s q=>g.mem s (q.imp id (Xi _)),k t g.top,fun s hs=>(g.don s hs).mono (Ext.refl _) k⟩
theorem TpG.new{ps:List Int}(g:TpG gs tops B d t sn (W ++ [u]) d1)(hu:u∉sn)(st:Step gs (tops ++ [t]) B d1 d2)(le:d2.cs.length≤d1.cs.length+1)(hW : ∀ s,s∈W'↔s∈W∨s∈ps)(hp : ∀ p∈ps,(In gs p∧p.natAbs≤t.natAbs)∧∀ τ,Model gs τ→Yes τ t→Yes τ p)
  (hd:TopSt gs d2 (fun s=>s∈sn ++ [u]∨s∈W') u):TpG gs tops B d t (sn ++ [u]) W' d2:=by
 have k : ∀ s,s∈sn∨s∈W ++ [u]→s∈sn ++ [u]∨s∈W':=fun s q=>q.elim (fun q=>.inl (Xi _ q)) fun q=>(X9.mp q).elim (fun q=>.inr ((hW s).mpr (.inl q))) fun q=>.inl (Xh _ q)
 refine⟨g.st.trans st,by have:=g.le;rw [X6];exact Ys le (Nat.succ_le_succ this),List.nodup_append.mpr ⟨g.nd,List.pairwise_singleton _ _,fun a ha b hb e=>hu ?_⟩,fun s q=>?_,k t g.top,fun s hs=>?_⟩
 ·rw [←X7.mp hb,←e];exact ha
 ·rcases q with q|q
  ·rcases X9.mp q with q|q
   ·exact g.mem s (.inl q)
   ·exact g.mem s (.inr (Xh _ q))
  ·rcases(hW s).mp q with q|q
   ·exact g.mem s (.inr (Xi _ q))
   ·exact hp s q
 ·rcases X9.mp hs with q|q
  ·exact(g.don s q).mono st.ext k
  ·rw [X7.mp q];exact hd
theorem FrT.free(h:FrT σ σ')(hf:Free 180 σ):Free 200 σ':=fun n hn=>(h n (.inr (by exact(Yq (nlt 12 200 rfl) hn))) (by exact(Yv (Yq (nlt 180 200 rfl) hn))) (by exact(Yv (Yq (nlt 181 200 rfl) hn)))).trans (hf n (by exact(Ys (nle 180 200 rfl) hn)))
theorem FrT.up{τ:Hp}{n:Nat}{o:Option O}(h:FrT σ τ)(hn:n=180∨n=181):FrT σ (upd τ n o):=fun m q1 q2 q3=>by rw [upd_ne _ _ (by lia)];exact h m q1 q2 q3
theorem ClsAt.up{n:Nat}{o:Option O}(h:ClsAt d σ)(hn:12<n):ClsAt d (upd σ n o):=h.mono fun m q1 q2=>upd_ne _ _ (by exact(Yu (Yr q2 hn)))
theorem FrT.fr8{τ τ':Hp}(h:FrT σ τ)(k:Fr8 τ τ'):FrT σ τ':=fun n q1 q2 q3=>(k n q1).trans (h n q1 q2 q3)
inductive TpC(gs:List G)(tops:List Int)(B:Nat)(d:Cl)(σ:Hp)(ps:List Int)(i:Nat)(acc:List V)(s':St):Prop
 |mk (h0:s'.loc 0=some (.ref 6)) (h2:s'.loc 2=some (.ref 181)) (h3:s'.loc 3=some (.ref 180)) (d':Cl) (ys:List Int) (e:acc=ys.map V.int) (f:Fr8 σ s'.hp) (k:ClsAt d' s'.hp) (st:Step gs tops B d d') (eq:d'.cs=d.cs) (l:ys.length=i) (h : ∀ j p,ps[j]?=some p→j<i→ -p∈opK d'∧∃ y,ys[j]?=some y∧Lit d' (-p) y)
theorem tpc_done{ps ys:List Int}(yl:ys.length=ps.length)(h : ∀ (j:Nat) (p:Int),ps[j]?=some p→j<ps.length→ -p∈opK d∧∃ y,ys[j]?=some y∧Lit d (-p) y) :
  (∀ y∈ys,∃ u∈ps.map (fun p => -p),Lit d u y)∧∀ u∈ps.map (fun p => -p),u∈opK d∧∃ y∈ys,Lit d u y:=by
 refine⟨fun y hy=>?_,fun u hu=>?_⟩
 ·obtain⟨j,hj,rfl⟩:=List.mem_iff_getElem.mp hy
  have hjp:j<ps.length:=by exact(Yq hj (Yz yl))
  obtain⟨_,y,q2,q3⟩:=h j ps[j] (X3 hjp) hjp
  rw [X3 hj] at q2
  exact⟨_,List.mem_map.mpr ⟨ps[j],List.getElem_mem hjp,rfl⟩,Xm q2▸q3⟩
 ·obtain⟨p,hp,rfl⟩:=List.mem_map.mp hu
  obtain⟨j,hj,rfl⟩:=List.mem_iff_getElem.mp hp
  obtain⟨q1,y,q2,q3⟩:=h j ps[j] (X3 hj) hj
  exact⟨q1,y,Xa q2,q3⟩
theorem yes_one_of(ok:COk gs kn){τ:Nat→Bool}(a:Model gs τ):Yes τ 1:=by
 have hl:1<gs.length:=Yq (by decide) ok.len
 have hx:gs[1]?=some gs[1]:=X3 hl
 have w:=ok.well 1 _ hx
 generalize gs[1]=x at hx w
 cases w with
 |non q=>exact absurd q (by decide)
 |tru _=>exact a _ _ hx
 |inp q _=>exact absurd q (by decide)
 |and q _=>exact absurd q (by decide)
theorem top_ws(c:gs.length≤20)(ok:COk gs kn)(h:ClsAt d σ)(hc:CircAt gs kn σ)(iv:Inv gs tops d)(hn:Free 180 σ)(pe:Pend gs d)(hl:d.cs.length≤400)(hwa:d.wa = [])(hg:In gs t)(hB:t.natAbs≤B)(hB2 : ∀ i:Nat,gs[i]?=some .inp→i≤t.natAbs→i<B) :
  Ws (runF 180 2 m_Clauses_add_top) [.ref 6,.int t] σ (fun _ σ'=>TopR gs tops B d σ t σ'):=by
 have l1000:1000<lim:=by decide
 refine Ws.fn rfl ?_
 unfold m_Clauses_add_top
 refine .seq (.assignSwap (.cons (.list (.cons (.getL (v:=.int t) rfl (.nil (.mkLstS rfl (show 1≤lim by decide) (hn 181 (by decide)) (.cons (.new (by dsimp only;rw [upd_ne _ _ (by decide)];exact hn 180 (by decide)) (.nil ⟨show 2≤100 by decide,.sets1 (.sets1 (.sets0 ?_))⟩))))))))))
 refine .seq (.whileW (TpI gs tops B d σ t) (k:=191) ⟨rfl,rfl,rfl,FrT.up (FrT.up (fun _ _ _ _=>rfl) (.inr rfl)) (.inl rfl),[],rfl,[t],rfl,d,(h.up (n:=181) (by decide)).up (n:=180) (by decide),⟨.refl (iv.top t),Yy _,Xf,fun s q=>?_,.inr (X7.mpr rfl),fun _ q=>nomatch q⟩,by simp,rfl⟩ ?_)
 ·rcases q with q|q
  ·cases q
  ·rw [X7.mp q];exact⟨⟨hg,Yy _⟩,fun _ _ q=>q⟩
 rintro k s ⟨a0,a2,a3,f1,kvs,sn,L,wt,d1,k1,g,wl,m⟩
 have b1:=g.st.iv.bounds c
 have snl:=sides_le c g.nd fun s hs=>(g.mem s (.inl hs)).1.1
 rw [X4] at snl
 have le1:=g.le
 rw [X4] at le1
 refine .tcmp (.call (.cons (.getL (v:=.ref 181) a2 (.nil (W.len (n:=L.length) (len_rm wt) (by lia) (.pure (W.gt (.asBool ⟨fun hb=>?_,fun hb=>?_⟩))))))))
 ·have hb:=of_decide_eq_false hb
  obtain rfl:L = []:=List.eq_nil_of_length_eq_zero (by lia)
  have wB : ∀ s∈d1.wa,s.natAbs<B:=fun s hs=>(g.st.low.wa s hs).elim (fun q=>by rw [hwa] at q;cases q) id
  have cnt:=g.st.stp.cnt
  rw [hwa] at cnt
  have hc1:CircAt gs kn s.hp:=hc.mono fun n q=>f1 n (.inl (by exact(Yr q (nlt 5 8 rfl)))) (by exact(Yu (Yr q (nlt 5 180 rfl)))) (by exact(Yu (Yr q (nlt 5 181 rfl))))
  refine .seq (.expr (.meth (.getL (v:=.ref 6) a0 ⟨okK k1 (by rfl),.nil (.callM ((flush_ws (B:=B) c ok k1 hc1 g.st.iv ((f1.free hn).mono (by decide)) (fun s q=>(pe s (g.st.stp.new s q.1 q.2)).ext g.st.ext) (by lia) wB).mono ?_))⟩)))
  rintro _ τ2 ⟨d2,f2,k2,r,w2⟩
  have le:=r.le
  rw [w2] at le
  simp only [List.length_nil] at le cnt
  refine .end ⟨_,_,rfl,Zi fun _=>V.noConfusion,d2,fun n q=>?_,k2.mono fun n q1 q2=>if_pos (by exact(Yr q2 (nlt 12 180 rfl))),r.iv,g.st.ext.trans r.ext,w2,r.pe,?_,fun k hk=>?_,by lia⟩
  ·unfold cut
   split
   ·dsimp only
    rw [f2 n q];exact f1 n q (by lia) (by lia)
   ·exact(hn n (by lia)).symm
  ·exact(top_all ok (S:=fun s=>s∈kvs.map (·.1)∨s∈[]) (fun s hs=>hs.elim (g.don s) fun q=>nomatch q) t g.top).ext r.ext
  ·exact(r.low k hk).elim (g.st.low.nu k) .inr
 have hb:=of_decide_eq_true hb
 have hb:L≠[]:=by intro e;rw [e] at hb;exact absurd hb (by decide)
 obtain⟨L,u,rfl⟩ : ∃ w u,L=w ++ [u]:=⟨_,_,(List.dropLast_concat_getLast hb).symm⟩
 have hpop:s.hp 181=some (.list (L.map .int ++ [.int u])):=by rw [wt,Xc];rfl
 rw [X6] at wl m
 simp only [Xg,List.length_nil] at wl m
 refine .seq (.assign (.meth (.getL (v:=.ref 181) a2 ⟨isLst_ref hpop,.nil (W.pop hpop (lmLt (by lia)) ?_)⟩)))
 refine .seq (.ite (.tcmp (.getL (v:=.int u) rfl (.getL (v:=.ref 180) a3 (W.inD (Y3 (xs:=kvs) (by exact sn)) (.asBool ⟨fun hb=>?_,fun hb=>.end ?_⟩))))))
 ·rw [W3] at hb
  refine .seq (.pure ⟨k-1,by lia,a0,a2,a3,f1.up (.inr rfl),kvs,sn,L,rfl,d1,k1.up (by decide),g.old ((kv_keys_some _ _).mp hb),by lia,by lia⟩)
 rw [W3] at hb
 have hu:u∉kvs.map (·.1):=fun q=>Bool.noConfusion (hb.symm.trans ((kv_keys_some kvs u).mpr q))
 refine .seq (.assignSub (.pure (.getL (v:=.ref 180) a3 (.getL (v:=.int u) rfl (W.setD (kvs:=kvs) (by exact sn) rfl (by exact(Yt (Yr snl (nlt 38 1000 rfl)) l1000)) ?_)))))
 have snl:=sides_le c (List.nodup_cons.mpr ⟨hu,g.nd⟩) fun s hs=>(Xd.mp hs).elim (fun e=>(g.mem s (.inr (Xh _ (X7.mpr e)))).1.1) fun q=>(g.mem s (.inl q)).1.1
 rw [Xg,X4] at snl
 have keys:(kvSet kvs u (.bool true)).map (·.1)=kvs.map (·.1) ++ [u]:=by rw [kvSet_keys,if_neg hu]
 have kl:(kvSet kvs u (.bool true)).length=kvs.length+1:=by have:=congrArg List.length keys;simpa using this
 refine atS (fun s=>(s.loc 0=some (.ref 6)∧s.loc 2=some (.ref 181)∧s.loc 3=some (.ref 180)∧s.loc 4=some (.int u))∧FrT σ s.hp∧s.hp 180=some (.idict (kvSet kvs u (.bool true)))∧s.hp 181=some (.list (L.map .int))∧ClsAt d1 s.hp) ⟨⟨a0,a2,a3,rfl⟩,(f1.up (n:=181) (.inr rfl)).up (n:=180) (.inl rfl),rfl,rfl,(k1.up (n:=181) (by decide)).up (n:=180) (by decide)⟩ ?_
 rintro⟨loc,τ⟩ ⟨⟨l0,l2,l3,l4⟩,fT,s180,s181,kT⟩
 dsimp only at l0 l2 l3 l4 fT s180 s181 kT
 clear a0 a2 a3 f1 sn wt k1 hpop s
 have hcT:CircAt gs kn τ:=hc.mono fun n q=>fT n (.inl (by exact(Yr q (nlt 5 8 rfl)))) (by exact(Yu (Yr q (nlt 5 180 rfl)))) (by exact(Yu (Yr q (nlt 5 181 rfl))))
 have hnT:=fT.free hn
 obtain⟨⟨uin,ule⟩,ut⟩:=g.mem u (.inr (Xh _ (X7.mpr rfl)))
 have hx:gs[u.natAbs]?=some gs[u.natAbs]:=X3 uin.2
 generalize gs[u.natAbs]=x at hx
 have fin : ∀ (s':St) (d2:Cl) (L' ps:List Int),s'.loc 0=some (.ref 6)→s'.loc 2=some (.ref 181)→s'.loc 3=some (.ref 180)→FrT σ s'.hp→s'.hp 180=some (.idict (kvSet kvs u (.bool true)))→s'.hp 181=some (.list (L'.map .int))→ClsAt d2 s'.hp→L'.length≤L.length+4→Step gs (tops ++ [t]) B d1 d2→d2.cs.length≤d1.cs.length+1→(∀ s,s∈L'↔s∈L∨s∈ps)→(∀ p∈ps,(In gs p∧p.natAbs≤t.natAbs)∧∀ τ,Model gs τ→Yes τ t→Yes τ p)→TopSt gs d2 (fun s=>s∈kvs.map (·.1) ++ [u]∨s∈L') u→∃ j,j<k∧TpI gs tops B d σ t j s' :=
  fun s' d2 L' ps e0 e2 e3 e4 e5 e6 e7 e8 e9 e10 e11 e12 e13=>⟨190+L'.length-5*(kvs.length+1),by lia,e0,e2,e3,e4,_,e5,L',e6,d2,e7,by rw [keys];exact g.new hu e9 e10 e11 e12 e13,by lia,by lia⟩
 have leaf : ∀ (s':St) (d2:Cl),s'.loc 0=some (.ref 6)→s'.loc 2=some (.ref 181)→s'.loc 3=some (.ref 180)→Fr8 τ s'.hp→ClsAt d2 s'.hp→Step gs (tops ++ [t]) B d1 d2→d2.cs.length≤d1.cs.length+1→TopOk gs d2 u→∃ j,j<k∧TpI gs tops B d σ t j s' :=
  fun s' d2 e0 e2 e3 e4 e5 e6 e7 e8=>fin s' d2 L [] e0 e2 e3 (fT.fr8 e4) ((e4 _ (by decide)).trans s180) ((e4 _ (by decide)).trans s181) e5 (by exact ar307) e6 e7 (fun s=>by simp) (fun _ q=>nomatch q) (.inl e8)
 refine .seq (.assign (.meth (.op1 (.getL (v:=.ref 6) l0 (W.kCircuit kT ⟨okC hcT (by rfl),.cons (.call (.cons (.getL (v:=.int u) l4 (.nil (W.abs (.nil (.callM ((kind_ws (g:=(u.natAbs:Int)) (x:=x) hcT hx (by exact(Ys c (nle 20 1000 rfl))) (hnT.mono (by decide))).mono ?_))))))))⟩)))))
 rintro _ τ ⟨rfl,rfl⟩
 have pin : ∀ {ps:List Int},gs[u.natAbs]?=some (.and ps)→∀ p∈ps,In gs p∧p.natAbs<u.natAbs:=fun q p hp=>by have:=(ok.parts q).2.lt p hp;have:=uin.2;exact⟨⟨by lia,by lia⟩,by lia⟩
 have hkd:=fun {y:G} (q:(x.kind==y.kind)=true)=>G.kind_eq q
 refine .seq (.ite (.and1 (.tcmp (.getL (v:=.str x.kind) rfl (.pure (W.eqS (Zq x) (Zq (.and [])) (.asBool ⟨fun hb2=>?_,fun hb2=>⟨nofun,fun _=>?_⟩⟩)))))))
 ·rw [W3] at hb2
  obtain⟨ps,rfl⟩ : ∃ ps,x = .and ps:=by rcases G.kind_eq (y:=.and []) hb2 with q|⟨ps,_,q,_⟩<;>exact⟨_,q⟩
  have pk:=(ok.parts hx).2
  have p4:=pk.four
  have pin:=pin hx
  refine .and1 (.tcmp (.getL (v:=.int u) l4 (.pure (W.gt (.asBool ⟨fun hs0=>.and0 ⟨fun _=>?_,nofun⟩,fun hs0=>⟨nofun,fun _=>?_⟩⟩)))))
  ·have hs0:=of_decide_eq_true hs0
   refine .seq (.expr (.extRev (.getL (v:=.ref 181) l2 ⟨isLst_ref s181,.meth (.op1 (.getL (v:=.ref 6) l0 (W.kCircuit kT ⟨okC hcT (by rfl),.cons (.getL (v:=.int u) l4 (.nil (.callM ((parts_ws (g:=u) (x:=.and ps) hcT hx (by exact(Ys c (nle 20 1000 rfl))) (hnT.mono (by decide))).mono ?_))))⟩)))⟩)))
   rintro _ τ ⟨rfl,rfl⟩
   refine W.extRev (ys:=ps.map .int) s181 (by rw [X6,X4,X4];lia) (.end (.end (fin _ d1 (L++ps.reverse) ps l0 l2 l3 (fT.up (.inr rfl)) s180 ?_ (kT.up (by decide)) (by rw [X6,List.length_reverse];lia) (.refl g.st.iv) (Nat.le_succ _) (fun s=>by simp) (fun p hp=>⟨⟨(pin p hp).1,by have:=(pin p hp).2;exact(Yw (Yq this ule))⟩,fun τ a b=>?_⟩) (.inr ⟨hs0,ps,hx,fun p hp=>.inr (by simp [hp])⟩))))
   ·rw [Xc,List.map_reverse];rfl
   ·have q:=ut τ a b
    unfold Yes at q
    rw [decide_eq_true hs0] at q
    exact(a _ _ hx).mp q p hp
  ·have hs0:=of_decide_eq_false hs0
   refine .seq (.ite (.tcmp (.getL (v:=.str (G.and ps).kind) rfl (.pure (W.eqS (Zq (.and ps)) (Zq (.and [])) (.asBool ⟨fun _=>?_,fun hb3=>absurd hb3 (by simp only [G.kind];decide)⟩))))))
   refine .seq (.expr (.meth (.getL (v:=.ref 6) l0 ⟨okK kT (by rfl),.cons (.comp (.meth (.op1 (.getL (v:=.ref 6) l0 (W.kCircuit kT ⟨okC hcT (by rfl),.cons (.op1 (.getL (v:=.int u) l4 (W.neg (.nil (.callM ((parts_ws (g := -u) (x:=.and ps) hcT (by rw [W5];exact hx) (by exact(Ys c (nle 20 1000 rfl))) (hnT.mono (by decide))).mono ?_))))))⟩)))))⟩)))
   rintro _ τ ⟨rfl,rfl⟩
   refine⟨rfl,.compM (xs:=ps.map .int) (TpC gs (tops ++ [t]) B d1 τ ps) ⟨l0,l2,l3,d1,[],rfl,Fr8.refl _,kT,.refl g.st.iv,rfl,rfl,fun _ _ _ q=>absurd q (Nat.not_lt_zero _)⟩ (fun _ _ _ _=>Y9 _) ?_ ?_⟩
   ·rintro i acc s' y ⟨a0,a2,a3,d2,ys,rfl,f,k2,st,eq,yl,hh⟩ hy
    rw [X8] at hy
    obtain⟨p,hp,rfl⟩:=Xl.mp hy
    have hi:=(X5.mp hp).1
    obtain⟨p1,p2⟩:=pin p (Xa hp)
    refine .and0 ⟨nofun,fun _=>.meth (.getL (v:=.ref 6) a0 ⟨okK k2 (by rfl),.cons (.op1 (.getL (v:=.int p) rfl (W.neg (.nil (.callM ((enter_iv (g := -p) (B:=B) c k2 st.iv (f.free (hnT.mono (by decide)) (by decide)) p1.neg (by rw [W5];exact(Yq (Yq p2 ule) hB))).mono ?_))))))⟩)⟩
    rintro _ τ' ⟨d3,z,rfl,f2,k3,st2,c2,o2,z2,_⟩
    refine⟨rfl,by rw [X4];lia,a0,a2,a3,d3,ys ++ [z],by rw [Xc];rfl,f.trans f2,k3,st.trans st2,c2.trans eq,by rw [X6,yl];rfl,fun j p' hj hlt=>?_⟩
    by_cases q:j<i
    ·obtain⟨q1,y,q2,q3⟩:=hh j p' hj q
     exact⟨st2.ext.op _ q1,y,by rw [Xj (by exact(Yq q (Yz yl.symm)))];exact q2,q3.ext st2.ext⟩
    ·obtain rfl:j=i:=by lia
     obtain rfl:=Xm (hp.symm.trans hj)
     exact⟨o2,z,by rw [←yl,List.getElem?_append_right (Yy _),Nat.sub_self];rfl,z2⟩
   ·rintro acc s' ⟨a0,a2,a3,d2,ys,rfl,f,k2,st,eq,yl,hh⟩
    rw [X4] at yl hh
    obtain⟨h1,h2⟩:=tpc_done yl hh
    refine .mkLst (Yd _) (lmLe (by exact(Yw (Yt (Yr (Ys (Yz yl) p4) (nlt 4 1000 rfl)) l1000)))) (.nil (.callM ((tell_ws (L:=ys) k2 (f.free (hnT.mono (by decide)) (by decide)) (by exact(Ys (Ys (Yz yl) p4) (nle 4 5 rfl))) (fun y hy e=>?_) (by rw [eq];lia)).mono ?_)))
    ·obtain⟨w,_,q⟩:=h1 y hy
     subst e
     exact absurd (st.iv.lit_row q).1 (by decide)
    rintro _ τ2 ⟨f3,o,ho,k3⟩
    obtain⟨t1,t2⟩:=leaf_spec st.iv (by exact(Ys (Ys (Yz yl) p4) (nle 4 5 rfl))) h1 h2 (fun τ hm=>neg_and hm hx hs0 fun p hp e=>by subst e;exact absurd (pin _ hp).1.1 (by decide)) ut ho
    have le':=t1.le
    rw [eq] at le'
    exact .end (.end (.end (leaf _ _ a0 a2 a3 (f.trans f3) k3 (st.trans (t1.st.mono (Yx _))) (by rw [eq];exact le') t2)))
 rw [W3] at hb2
 have nand : ∀ ps,x≠ .and ps:=fun ps e=>by subst e;exact absurd hb2 (by simp only [G.kind];decide)
 refine .seq (.ite (.tcmp (.getL (v:=.str x.kind) rfl (.pure (W.eqS (Zq x) (Zq (.and [])) (.asBool ⟨fun hb3=>?_,fun hb3=>?_⟩))))))
 ·rw [W3] at hb3
  exact absurd (hb2.symm.trans hb3) (by decide)
 clear hb2 hb3 fin
 refine .seq (.ite (.tcmp (.getL (v:=.int u) l4 (.pure (W.eqI (.asBool ⟨fun hb2=>?_,fun hb2=>.end (.end (.end (.end (leaf _ d1 l0 l2 l3 (Fr8.refl _) kT (.refl g.st.iv) (Nat.le_succ _) fun φ τ a _ _=>?_))))⟩))))))
 ·have u1:u≠1:=by simpa using hb2
  refine .seq (.expr (.meth (.getL (v:=.ref 6) l0 ⟨okK kT (by rfl),.cons (.ife (.tcmp (.getL (v:=.str x.kind) rfl (.pure (W.eqS (Zq x) (Zq .inp) (.asBool ⟨fun hb3=>?_,fun hb3=>?_⟩))))))⟩)))
  ·rw [W3] at hb3
   obtain rfl:x = .inp:=(G.kind_eq (y:=.inp) hb3).elim id fun⟨_,_,_,q⟩=>nomatch q
   refine .list (.cons (.meth (.getL (v:=.ref 6) l0 ⟨okK kT (by rfl),.cons (.getL (v:=.int u) l4 (.nil (.callM ((enter_iv (g:=u) (B:=B) c kT g.st.iv (hnT.mono (by decide)) uin (hB2 _ hx ule)).mono ?_))))⟩)))
   rintro _ τ' ⟨d3,z,rfl,f2,k3,st2,c2,o2,z2,_⟩
   refine .nil (.mkLst rfl (show 1≤lim by decide) (.nil (.callM ((tell_ws (L := [z]) k3 (f2.free (hnT.mono (by decide)) (by decide)) (show 1≤5 by decide) (fun y hy e=>?_) (by rw [c2];lia)).mono ?_))))
   ·rw [X7.mp hy] at e
    subst e
    exact absurd (st2.iv.lit_row z2).1 (by decide)
   rintro _ τ2 ⟨f3,o,ho,k4⟩
   obtain⟨t1,t2⟩:=leaf_spec (L := [z]) (us := [u]) (s:=u) st2.iv (show 1≤5 by decide) (fun y hy=>⟨u,X7.mpr rfl,by rw [X7.mp hy];exact z2⟩) (fun w hw=>by rw [X7.mp hw];exact⟨o2,z,X7.mpr rfl,z2⟩) (fun τ _=>by simp) ut ho
   have le':=t1.le
   rw [c2] at le'
   exact .end (.end (.end (.end (leaf _ _ l0 l2 l3 (f2.trans f3) k4 (st2.trans (t1.st.mono (Yx _))) (by rw [c2];exact le') t2))))
  ·rw [W3] at hb3
   have no : ∀ τ,Model gs τ→¬ Yes τ u:=fun τ a=>by
    cases x with
    |and ps=>exact absurd rfl (nand ps)
    |inp=>exact absurd rfl (G.kind_ne hb3)
    |non=>cases ok.well _ _ hx with|non q=>have:=uin.1;lia
    |tru =>
     have a:τ u.natAbs=true:=a _ _ hx
     have:u.natAbs=1:=by cases ok.well _ _ hx with|tru q=>exact q
     unfold Yes
     rw [a,decide_eq_false (by lia)]
     exact nofun
   refine .list (.nil (.mkLst rfl (Yx _) (.nil (.callM ((tell_ws (L := []) kT (hnT.mono (by decide)) (Yx _) (fun _ q=>nomatch q) (by lia)).mono ?_)))))
   rintro _ τ2 ⟨f3,o,ho,k4⟩
   obtain⟨t1,t2⟩:=leaf_spec (L := []) (us := []) (s:=u) g.st.iv (Yx _) (fun _ q=>nomatch q) (fun _ q=>nomatch q) (fun τ a=>iff_of_false (no τ a) fun⟨_,q⟩=>nomatch q.1) ut ho
   exact .end (.end (.end (.end (leaf _ _ l0 l2 l3 f3 k4 (t1.st.mono (Yx _)) t1.le t2))))
 ·have u1:u=1:=by simpa using hb2
  subst u1
  exact yes_one_of ok a
end L03
end Lay
namespace Lay
namespace L03
variable{gs:List G}{tops:List Int}{d:Cl}{kn:List (List Int×V)}{σ:Hp}
theorem fal_all(ok:COk gs kn)(iv:Inv gs tops d)(wa:d.wa = [])(pe:Pend gs d){φ:Nat→Option Bool}{τ:Nat→Bool}(hm:Model gs τ)(hc:Closed φ d.cs)(hi : ∀ i n:Nat,gs[i]?=some .inp→Num d i n→φ n=some (τ i)) :
  ∀ s∈opK d,¬ Yes τ s→∀ x,Lit d s x→Fal φ x:=by
 suffices key : ∀ k,∀ s∈opK d,s.natAbs=k→¬ Yes τ s→∀ x,Lit d s x→Fal φ x from fun s hs=>key _ s hs rfl
 intro k
 induction k using Nat.strongRecOn with
 |ind k ih =>
  intro s hs hk hno x hlx
  obtain⟨s1,s2⟩:=iv.opk s hs
  have hlt:s.natAbs<gs.length:=by have:=iv.key _ s2;lia
  have hgx:gs[s.natAbs]?=some gs[s.natAbs]:=X3 hlt
  generalize gs[s.natAbs]=z at hgx
  have hdo:=pe s ⟨hs,by rw [wa];exact List.not_mem_nil⟩ z hgx
  have x1:=(iv.lit_row hlx).1
  cases z with
  |non=>cases ok.well _ _ hgx with|non q=>lia
  |tru =>
   obtain⟨n,hn,ht⟩:=hdo
   have a:τ s.natAbs=true:=hm _ _ hgx
   have q : ¬ 0<s:=fun q=>hno (by unfold Yes;rw [a,decide_eq_true q])
   obtain⟨n',hn',e⟩:=hlx
   obtain rfl:=hn.fn hn'
   rw [if_neg q] at e
   subst e
   unfold Fal
   rw [W5,Int.natAbs_natCast,ht φ hc,decide_eq_false (by lia)];rfl
  |inp =>
   obtain⟨n,hn,e⟩:=hlx
   have e1:=lit_abs e
   have e2:decide (0<x)=decide (0<s):=by rw [decide_eq_decide];subst e;split<;>lia
   unfold Yes at hno
   unfold Fal
   rw [e1,hi _ _ hgx hn,e2]
   cases h1:τ s.natAbs<;>cases h2:decide (0<s)<;>first|rfl|exact absurd (h1.trans h2.symm) hno
  |and ps =>
   have a:τ s.natAbs=true↔∀ p∈ps,Yes τ p:=hm _ _ hgx
   have pk:=(ok.parts hgx).2
   dsimp only at hdo
   unfold Yes at hno
   by_cases q:0<s
   ·rw [if_pos q] at hdo
    rw [decide_eq_true q,a] at hno
    simp only [Classical.not_forall] at hno
    obtain⟨p,hp,np⟩:=hno
    obtain⟨p1,x',y,p2,p3,p4⟩:=hdo p hp
    have:=(pk.lt p hp).2
    rw [hlx.fn p2]
    exact p4 φ hc (ih p.natAbs (by exact(Yq this (Yz hk))) p p1 rfl np y p3)
   ·rw [if_neg q] at hdo
    rw [decide_eq_false q,Bool.not_eq_false,a] at hno
    obtain⟨p1,x',p2,p3⟩:=hdo
    rw [hlx.fn p2]
    refine p3 φ hc fun p hp y hy=>ih (-p).natAbs ?_ (-p) (p1 p hp) rfl (fun w=>(Yes.neg ?_).mp w (hno p hp)) y hy
    ·have:=(pk.lt p hp).2;rw [W5];exact(Yq this (Yz hk))
    ·intro e;subst e;have:=(pk.lt _ hp).1;exact absurd this (by decide)
noncomputable def nf(φ:Nat→Option Bool)(x:Int):Bool := !(φ x.natAbs==some (!decide (0<x)))
theorem nf_true{φ:Nat→Option Bool}{x:Int}:nf φ x=true↔¬ Fal φ x:=by unfold nf Fal;rw [Bool.not_eq_true',beq_eq_false_iff_ne]
noncomputable def Phi(kvs:List (Int×V))(φ:Nat→Option Bool):Prop := ∀ n:Nat,kvGet kvs (n:Int)=(φ n).map V.bool
noncomputable def Sub(φ:Nat→Option Bool)(τ:Nat→Bool):Prop := ∀ n b,φ n=some b→τ n=b
noncomputable def upo(φ:Nat→Option Bool)(n:Nat)(b:Bool):Nat→Option Bool:=fun m=>if m=n then some b else φ m
theorem Phi.set{kvs:List (Int×V)}{φ:Nat→Option Bool}(h:Phi kvs φ)(n:Nat)(b:Bool):Phi (kvSet kvs n (.bool b)) (upo φ n b):=fun m=>by
 unfold upo
 rw [Y8]
 by_cases e:m=n
 ·subst e;rw [if_pos rfl,if_pos rfl];rfl
 ·rw [if_neg (by lia),if_neg e];exact h m
theorem Sub.fal{φ:Nat→Option Bool}{τ:Nat→Bool}{x:Int}(h:Sub φ τ)(a:Fal φ x) : ¬ Yes τ x:=fun b=>by
 have:=h _ _ a
 unfold Yes at b
 rw [b] at this
 cases q:decide (0<x)<;>rw [q] at this<;>cases this
theorem left_nil{φ:Nat→Option Bool}{c:List Int}(h:c.filter (nf φ) = []) : ∀ x∈c,Fal φ x:=fun x hx=>by
 exact Xr fun q=>List.filter_eq_nil_iff.mp h x hx (nf_true.mpr q)
theorem left_one{φ:Nat→Option Bool}{c:List Int}{x:Int}(h:c.filter (nf φ) = [x]):(x∈c∧¬ Fal φ x)∧∀ y∈c,y≠x→Fal φ y:=by
 have m : ∀ y,y∈c.filter (nf φ)↔y∈c∧¬ Fal φ y:=fun y=>by rw [List.mem_filter,nf_true]
 refine⟨(m x).mp (by rw [h];exact X7.mpr rfl),fun y hy hne=>Xr fun q=>hne ?_⟩
 have:=(m y).mpr ⟨hy,q⟩
 rw [h] at this
 exact X7.mp this
theorem left_ok{φ:Nat→Option Bool}{c:List Int}(nd:c.Nodup)(h0:c.filter (nf φ)≠[])(h1 : ∀ x,c.filter (nf φ) = [x]→φ x.natAbs≠none):OkC φ c:=by
 have m : ∀ y,y∈c.filter (nf φ)↔y∈c∧¬ Fal φ y:=fun y=>by rw [List.mem_filter,nf_true]
 refine⟨fun e=>h0 (by rw [e];rfl),fun x hx q=>?_⟩
 have e:c.filter (nf φ) = [x]:=by
  have hn:=nd.filter (nf φ)
  cases e:c.filter (nf φ) with
  |nil=>exact absurd e h0
  |cons a r =>
   have ha : ∀ y∈c.filter (nf φ),y=x:=fun y hy=>Xr fun w=>((m y).mp hy).2 (q y ((m y).mp hy).1 w)
   rw [e] at ha hn
   obtain rfl:=ha a (List.mem_cons_self ..)
   cases r with
   |nil=>rfl
   |cons b r=>exact absurd (ha b (by simp)) fun e=>(List.nodup_cons.mp hn).1 (by rw [e];exact List.mem_cons_self ..)
 have h2:=h1 x e
 have h3:=(left_one e).1.2
 unfold Fal at h3
 unfold Tru
 cases w:φ x.natAbs with
 |none=>exact absurd w h2
 |some b=>rw [w] at h3;cases b<;>cases v:decide (0<x)<;>rw [v] at h3<;>first|rfl|exact absurd rfl h3
end L03
end Lay
namespace Lay
namespace L03
variable{σ:Hp}{cs:List (List Int)}{φ0:Nat→Option Bool}
theorem leave_dct{B n:Nat}{kvs:List (Int×V)}(hB:B≤n)(h:σ n=some (.idict kvs)):leaveV B (.ref n) σ=some (.dct kvs):=by
 unfold leaveV
 rw [un_ref]
 refine(if_neg (Nat.not_lt_of_le hB)).trans (orn (bn ?_) (bs (bs h (un_self fun _ _=>oI)) rfl))
 rw [h];exact un_none fun _=>O.noConfusion
theorem nf_none{φ:Nat→Option Bool}{x:Int}(h:φ x.natAbs=none):nf φ x=true:=nf_true.mpr fun q=>by unfold Fal at q;rw [h] at q;cases q
theorem nf_some{φ:Nat→Option Bool}{x:Int}{b:Bool}(h:φ x.natAbs=some b):nf φ x=(b==decide (0<x)):=by
 unfold nf
 rw [h]
 cases b<;>cases decide (0<x)<;>rfl
inductive UnR(cs:List (List Int))(φ0:Nat→Option Bool)(v:V):Prop
 |none (h:v = .none) (no : ∀ τ,Sat τ cs→¬ Sub φ0 τ)
 |found (kvs:List (Int×V)) (φ:Nat→Option Bool) (h:v = .dct kvs) (p:Phi kvs φ) (cl:Closed φ cs) (ge : ∀ n b,φ0 n=some b→φ n=some b) (le : ∀ τ,Sat τ cs→Sub φ0 τ→Sub φ τ)
structure UnK(cs:List (List Int))(φ0:Nat→Option Bool)(kvs:List (Int×V))(φ:Nat→Option Bool):Prop where
 p:Phi kvs φ
 nd:(kvs.map (·.1)).Nodup
 key : ∀ k∈kvs.map (·.1),k∈upK 19
 ge : ∀ n b,φ0 n=some b→φ n=some b
 le : ∀ τ,Sat τ cs→Sub φ0 τ→Sub φ τ
theorem UnK.len{kvs:List (Int×V)}{φ:Nat→Option Bool}(h:UnK cs φ0 kvs φ):kvs.length≤19:=by
 have:=Zt h.nd h.key
 rw [X4] at this
 exact Ys this (by decide)
theorem UnK.step{kvs:List (Int×V)}{φ:Nat→Option Bool}{c:List Int}{x:Int}(h:UnK cs φ0 kvs φ)(hc:c∈cs)(e:c.filter (nf φ) = [x])(hn:φ x.natAbs=none)(hx:1≤x.natAbs∧x.natAbs<20) :
  UnK cs φ0 (kvSet kvs x.natAbs (.bool (decide (0<x)))) (upo φ x.natAbs (decide (0<x))):=by
 refine⟨h.p.set _ _,kvSet_nodup _ _ _ h.nd,fun k hk=>?_,fun n b q=>?_,fun τ s1 s2=>?_⟩
 ·rcases(kvSet_mem _ _ _ _).mp hk with q|rfl
  ·exact h.key k q
  ·exact upK_mem.mpr ⟨hx.1,by lia⟩
 ·have:=h.ge n b q
  unfold upo
  rw [if_neg (fun e=>by subst e;rw [hn] at this;cases this)]
  exact this
 ·have hs:=h.le τ s1 s2
  intro n b q
  unfold upo at q
  split at q
  ·next w =>
   obtain⟨y,hy,yes⟩:=s1 c hc
   have:y=x:=Xr fun w=>hs.fal ((left_one e).2 y hy w) yes
   subst this
   rw [w,←Xm q]
   exact yes
  ·exact hs n b q
inductive UnI(cs:List (List Int))(φ0:Nat→Option Bool)(σ:Hp)(k:Nat)(s:St):Prop
 |mk (b:Bool) (h0:s.loc 0=some (.ref 8)) (h2:s.loc 2=some (.ref 640)) (h3:s.loc 3=some (.bool b)) (kvs:List (Int×V)) (h:s.hp=upd σ 640 (some (.idict kvs))) (φ:Nat→Option Bool) (u:UnK cs φ0 kvs φ) (cl:b=false→Closed φ cs) (m:k+2*kvs.length=38+b.toNat)
inductive UnJ(cs:List (List Int))(φ0:Nat→Option Bool)(σ:Hp)(n:Nat)(i:Nat)(s:St):Prop
 |mk (b:Bool) (h0:s.loc 0=some (.ref 8)) (h2:s.loc 2=some (.ref 640)) (h3:s.loc 3=some (.bool b)) (kvs:List (Int×V)) (h:s.hp=upd σ 640 (some (.idict kvs))) (φ:Nat→Option Bool) (u:UnK cs φ0 kvs φ) (cl:b=false→(∀ c∈cs.take i,OkC φ c)∧kvs.length=n) (m:b=true→n<kvs.length)
theorem units_ws{kv0:List (Int×V)}(h8:σ 8=some (.list (cs.map tupI)))(hk:σ 141=some (.idict kv0))(u0:UnK cs φ0 kv0 φ0)(hcs:cs.length≤1000)(row : ∀ c∈cs,(Asc c∧c.length≤5)∧∀ x∈c,1≤x.natAbs∧x.natAbs<20)(hn:Free 640 σ) :
  Ws (runF 640 2 m__law_units) [.ref 8,.ref 141] σ (fun v σ'=>σ'=σ∧UnR cs φ0 v):=by
 have l1000:1000<lim:=by decide
 have H8 : ∀ o,upd σ 640 o 8=some (.list (cs.map tupI)):=fun _=>h8
 refine Ws.fn rfl ?_
 unfold m__law_units
 refine .seq (.assignDisp (.cons (.call (.cons (.getL (v:=.ref 141) rfl (.nil (W.dictD (Y3 hk) (by have:=u0.len;exact(Yw (Yt (Yr this (nlt 19 1000 rfl)) l1000))) (hn 640 (Yy _)) (.cons (.pure (.nil ⟨show 2≤100 by decide,.sets1 (.sets1 (.sets0 ?_))⟩))))))))))
 refine .seq (.whileW (UnI cs φ0 σ) (k:=39-2*kv0.length) ⟨true,rfl,rfl,rfl,kv0,rfl,φ0,u0,nofun,by have:=u0.len;show _=39;lia⟩ ?_)
 rintro k s ⟨b,a0,a2,a3,kvs,a4,φ,u,cl,m⟩
 have kl:=u.len
 refine .truth (.getL a3 (.asBool ⟨fun hb=>?_,fun hb=>?_⟩))
 ·subst hb
  refine .seq (.ret (.getL a2 ⟨.ref 640,.dct kvs,rfl,?_,?_,.found kvs φ rfl u.p (cl rfl) u.ge u.le⟩))
  ·exact leave_dct (Yy _) (by rw [a4,Zc])
  ·show cut 640 s.hp=σ
   rw [a4];exact cut_own hn (Yy _)
 subst hb
 refine .seq (.assign (.pure ?_))
 refine .seq (.for (.getL (v:=.ref 8) a0 ⟨rfl,.forS (xs:=cs.map tupI) (UnJ cs φ0 σ kvs.length) ⟨false,a0,a2,rfl,kvs,a4,φ,u,fun _=>⟨fun _ q=>(nomatch q),rfl⟩,nofun⟩ (fun i s q=>by
  obtain⟨_,_,_,_,_,q,_⟩:=q
  exact seq_list (ref_at (by rw [q];exact h8))) ?_ ?_⟩))
 ·clear a0 a2 a4 cl m
  rintro i s x ⟨b,a0,a2,a3,kw,a4,φ,u,cl,m⟩ hx
  rw [X8] at hx
  obtain⟨c,hc,rfl⟩:=Xl.mp hx
  have hcm:=Xa hc
  have htk:cs.take (i+1)=cs.take i ++ [c]:=by rw [List.take_add_one,hc];rfl
  obtain⟨⟨casc,c5⟩,crow⟩:=row c hcm
  have hk:s.hp 640=some (.idict kw):=by rw [a4,Zc]
  have kl:=u.len
  refine .setL (.seq (.assign (W.filt (RS:=c) (emb:=V.int) (e:=V.int) (p:=nf φ) (v:=tupI c) (.getL rfl ⟨rfl,rfl⟩) rfl (fun _ _=>Y9 _) (fun x hx s' e1 e2 e3=>?_) (fun x _ _ s' _ _ e3=>.getL e3 ⟨rfl,rfl⟩) (fun _ _=>rfl) (by exact(Yt (Yr c5 (nlt 5 1000 rfl)) l1000)) fun s' e1 e2=>?_)))
  ·have hk':s'.hp 640=some (.idict kw):=by rw [e1];exact hk
   have l2:s'.loc 2=some (.ref 640):=(e2 2 (by decide)).trans a2
   refine .or1 (.tcmp (.call (.cons (.getL (v:=.int x) e3 (.nil (W.abs (.getL (v:=.ref 640) l2 (W.inD (Y3 hk') (.asBool ⟨fun hb=>?_,fun hb=>?_⟩)))))))))
   ·rw [u.p] at hb
    cases q:φ x.natAbs with
    |none=>exact⟨(nf_none q).symm,rfl⟩
    |some b=>rw [q] at hb;cases hb
   ·have hp:=u.p x.natAbs
    rw [hp] at hb
    cases q:φ x.natAbs with
    |none=>rw [q] at hb;cases hb
    |some b =>
     rw [q] at hp
     refine .or1 (.tcmp (.op2 (.getL (v:=.ref 640) l2 (.call (.cons (.getL (v:=.int x) e3 (.nil (W.abs (W.itemD (Y3 hk') hp (.op2 (.getL (v:=.int x) e3 (.pure (W.gt (W.eqB (.asBool ⟨fun hc=>⟨?_,rfl⟩,fun hc=>.or0 ⟨?_,rfl⟩⟩)))))))))))))))
     ·rw [nf_some q,←hc,W3]
     ·rw [nf_some q,←hc,W3]
  have a0:=(e2 0 (by decide)).trans a0
  have a2:=(e2 2 (by decide)).trans a2
  have a3:=(e2 3 (by decide)).trans a3
  have a4':s'.hp=upd σ 640 (some (.idict kw)):=e1.trans a4
  have hk':s'.hp 640=some (.idict kw):=by rw [a4',Zc]
  obtain⟨loc,τ⟩:=s'
  dsimp only at a0 a2 a3 a4' hk'
  clear e1 e2 a4 hk
  refine .seq (.ite (.tcmp (.getL (v:=.lst ((c.filter (nf φ)).map .int)) rfl (.list (.nil (.mkLst rfl (Yx _) (W.eqL (y := []) (.asBool ⟨fun hb=>?_,fun hb=>.end ?_⟩))))))))
  ·have hb:c.filter (nf φ) = []:=by simpa using hb
   refine .seq (.ret (.pure ⟨_,_,rfl,Zi fun _=>V.noConfusion,?_,.none rfl fun τ s1 s2=>?_⟩))
   ·show cut 640 τ=σ
    rw [a4'];exact cut_own hn (Yy _)
   ·obtain⟨y,hy,yes⟩:=s1 c hcm
    exact(u.le τ s1 s2).fal (left_nil hb y hy) yes
  have h0:c.filter (nf φ)≠[]:=by simpa using hb
  have fl:(c.filter (nf φ)).length≤5:=Ys (List.length_filter_le _ _) c5
  refine .seq (.ite (.and1 (.tcmp (.call (.cons (.getL (v:=.lst ((c.filter (nf φ)).map .int)) rfl (.nil (W.len (n:=(c.filter (nf φ)).length) len_lm (by exact(Yw (Yt (Yr fl (nlt 5 1000 rfl)) l1000))) (.pure (W.eqI (.asBool ⟨fun hb=>?_,fun hb=>⟨nofun,fun _=>.end (.end ⟨b,a0,a2,a3,kw,a4',φ,u,fun e=>⟨fun c' hc'=>?_,(cl e).2⟩,m⟩)⟩⟩)))))))))))
  ·have hb:(c.filter (nf φ)).length=1:=by simp at hb;lia
   obtain⟨x,ex⟩:=len1 hb
   obtain⟨⟨x1,x2⟩,x3⟩:=left_one ex
   have xr:=crow x x1
   have ix:((c.filter (nf φ)).map V.int)[(0:Int).toNat]?=some (.int x):=by rw [ex];rfl
   refine .and1 (.tcmp (.call (.cons (.op2 (.getL (v:=.lst ((c.filter (nf φ)).map .int)) rfl (.pure (W.itemL lst_at (by decide) (by decide) ix (.nil (W.abs (.getL (v:=.ref 640) a2 (W.inD (Y3 hk') (.asBool ⟨fun hb=>.and0 ⟨fun _=>?_,nofun⟩,fun hb=>⟨nofun,fun _=>.end (.end ⟨b,a0,a2,a3,kw,a4',φ,u,fun e=>⟨fun c' hc'=>?_,(cl e).2⟩,m⟩)⟩⟩))))))))))))
   ·have hn':φ x.natAbs=none:=by
     rw [u.p] at hb
     cases q:φ x.natAbs with
     |none=>rfl
     |some b=>rw [q] at hb;cases hb
    have us:=u.step hcm ex hn' xr
    have hnk:(x.natAbs:Int)∉kw.map (·.1):=fun q=>by
     have:=(kv_keys_some kw _).mpr q
     rw [u.p,hn'] at this;cases this
    have kl2:(kvSet kw (x.natAbs:Int) (.bool (decide (0<x)))).length=kw.length+1:=by
     have:=congrArg List.length (kvSet_keys kw (x.natAbs:Int) (.bool (decide (0<x))))
     rw [if_neg hnk] at this
     simpa using this
    refine .seq (.assignSub (.op2 (.op2 (.getL (v:=.lst ((c.filter (nf φ)).map .int)) rfl (.pure (W.itemL lst_at (by decide) (by decide) ix (.pure (W.gt (.getL (v:=.ref 640) a2 (.call (.cons (.op2 (.getL (v:=.lst ((c.filter (nf φ)).map .int)) rfl (.pure (W.itemL lst_at (by decide) (by decide) ix (.nil (W.abs (W.setD hk' rfl (by exact(Yt (Yr kl (nlt 19 1000 rfl)) l1000)) ?_))))))))))))))))))
    refine .seq (.assign (.pure (.end (.end ⟨true,a0,a2,rfl,_,?_,_,us,nofun,fun _=>?_⟩))))
    ·dsimp only;rw [a4',upd_upd]
    ·rw [kl2]
     cases b with
     |true=>have:=m rfl;lia
     |false=>have:=(cl rfl).2;lia
   ·rw [htk] at hc'
    rcases X9.mp hc' with q|q
    ·exact(cl e).1 c' q
    ·rw [X7.mp q]
     refine left_ok casc.nodup h0 fun x' ex' w=>?_
     rw [ex] at ex'
     obtain rfl:=(List.cons.inj ex').1
     rw [u.p,w] at hb
     cases hb
  ·rw [htk] at hc'
   rcases X9.mp hc' with q|q
   ·exact(cl e).1 c' q
   ·rw [X7.mp q]
    refine left_ok casc.nodup h0 fun x' ex' w=>?_
    rw [ex'] at hb
    cases hb
 ·rintro s ⟨b,a0,a2,a3,kw,a4,φ,u,cl,m'⟩
  rw [X4,List.take_length] at cl
  refine .end ⟨38+b.toNat-2*kw.length,?_,b,a0,a2,a3,kw,a4,φ,u,fun e=>(cl e).1,?_⟩
  ·cases b with
   |true=>have:=m' rfl;have:=u.len;show 39-_<_;simp at m;lia
   |false=>have:=(cl rfl).2;show 38-_<_;simp at m;lia
  ·have:=u.len;lia
end L03
end Lay
namespace Lay
namespace L03
variable{gs:List G}{tops:List Int}{d:Cl}{kn:List (List Int×V)}{σ:Hp}{kvs:List (Int×V)}{cs:List (List Int)}
inductive PlI(cs:List (List Int))(σ:Hp)(i:Nat)(s:St):Prop
 |mk (h:s.hp=σ)
theorem plain_ws(h8:σ 8=some (.list (cs.map tupI)))(row : ∀ c∈cs,Asc c∧c.length≤5)(hn:Free 660 σ):Ws (runF 660 1 m__law_are_plain) [.ref 8] σ (fun v σ'=>v = .bool true∧σ'=σ):=by
 have l64:64<lim:=by decide
 refine Ws.fn rfl ?_
 unfold m__law_are_plain
 refine .seq (.for (.getL (v:=.ref 8) rfl ⟨rfl,.forS (xs:=cs.map tupI) (PlI cs σ) ⟨rfl⟩ (fun i s q=>by
  obtain⟨q⟩:=q
  exact seq_list (ref_at (by rw [q];exact h8))) ?_ ?_⟩))
 ·rintro i s x ⟨a⟩ hx
  rw [X8] at hx
  obtain⟨c,hc,rfl⟩:=Xl.mp hx
  obtain⟨asc,l5⟩:=row c (Xa hc)
  refine .setL (.seq (.assign (W.filt (RS:=c) (emb:=V.int) (e:=fun x=>V.int (x.natAbs:Int)) (p:=fun _=>true) (v:=tupI c) (.getL rfl ⟨rfl,rfl⟩) rfl (fun _ _=>Y9 _) (fun _ _ _ _ _ _=>.and0 ⟨rfl,rfl⟩) (fun x _ _ s' _ _ e3=>.call (.cons (.getL e3 (.nil (W.abs ⟨rfl,rfl⟩))))) (fun _ _=>rfl) (by exact(Yt (Yr l5 (nlt 5 64 rfl)) l64)) fun s' e1 e2=>?_)))
  rw [List.filter_eq_self.mpr fun _ _=>rfl,show c.map (fun x=>V.int (x.natAbs:Int))=(c.map fun x=>(x.natAbs:Int)).map V.int by rw [List.map_map];rfl]
  have hl:(c.map fun x=>(x.natAbs:Int)).length=c.length:=X4 ..
  have hs:(c.map fun x=>(x.natAbs:Int)).Pairwise (· < ·):=List.pairwise_map.mpr (asc.imp fun q=>by lia)
  generalize (c.map fun x=>(x.natAbs:Int))=L at hl hs
  have e:=sortI_unique (List.Perm.refl L) (hs.imp fun q=>Int.le_of_lt q)
  refine .seq (.ite (.tcmp (.getL (v:=.lst (L.map .int)) rfl (.bind (.getL (v:=.lst (L.map .int)) rfl (W.sortedSet (hs.imp fun q=>Int.ne_of_lt q) (by exact(Yr (Ys (Yz hl) l5) (nlt 5 64 rfl))) (W.eqL (.asBool ⟨fun hb=>?_,fun _=>.end (.end ⟨e1.trans a⟩)⟩))))))))
  rw [←e,decide_eq_true rfl] at hb
  cases hb
 ·rintro s ⟨a⟩
  refine .seq (.ret (.pure ⟨_,_,rfl,Zi fun _=>V.noConfusion,rfl,?_⟩))
  show cut 660 s.hp=σ
  rw [a,cut_free hn]
noncomputable def yb(f:Nat→Bool)(gs:List G)(g:Int):Bool:=val f gs g.natAbs==decide (0<g)
theorem yb_iff{f:Nat→Bool}{g:Int}:yb f gs g=true↔Yes (val f gs) g:=by unfold yb Yes;rw [beq_iff_eq]
theorem bit_w{s:St}{Q:V→St→Prop}{mg:M V}{g:Int}{r:Nat}(hm:s.hp 101=some (.idict kvs))(mo:MkOk gs (gs.length-1) kvs)(hg:In gs g)(hn:Free 700 s.hp)(l1:s.loc 1=some (.ref 101))(l2:s.loc 2=some (.int r))(hr:r<8)(h:Wp mg s (fun v s1=>v = .int g∧s1=s))
  (k:Q (.int ((if yb (row r) gs g then 1 else 0:Nat):Int)) s):Wp (X.op2 vAnd (X.op2 vRShift (X.call (callM (runF 700 2 m__law_mask)) (X.cons (M.getL 1) (X.cons mg X.nil))) (M.getL 2)) (pure (.int 1))) s Q:=by
 refine .op2 (.op2 (.call (.cons (.getL l1 (.cons (h.mono ?_))))))
 rintro _ _ ⟨rfl,rfl⟩
 refine .nil (.callM ((mask_ws (g:=g) hm mo.val hn ⟨hg.1,by have:=hg.2;lia⟩).mono ?_))
 rintro _ _ ⟨rfl,m,rfl,q⟩
 refine .getL l2 (W.rsh (Int.natCast_nonneg _) (.pure (W.band ?_)))
 rw [rsh_nat,show m.testBit r=yb (row r) gs g from Bool.eq_iff_iff.mpr ((q.2 r hr).trans yb_iff.symm)]
 exact k
theorem val_model(ok:COk gs kn)(f:Nat→Bool):Model gs (val f gs):=by
 intro i x h
 cases x with
 |tru=>dsimp only;rw [val_eq f h];rfl
 |and ps=>exact val_and ok f h
 |non=>trivial
 |inp=>trivial
noncomputable def ow(f:Nat→Bool)(gs:List G)(d:Cl)(n:Nat):Bool:=val f gs ((d.ga[n]?).getD 0).natAbs
theorem ow_num(iv:Inv gs tops d){f:Nat→Bool}{g n:Nat}(h:Num d g n):ow f gs d n=val f gs g:=by
 unfold ow;rw [(iv.num _ _ h).2];rfl
theorem ow_lit(iv:Inv gs tops d){f:Nat→Bool}{s x:Int}(h:Lit d s x):Yes (ow f gs d) x↔Yes (val f gs) s:=Lit.reads iv h fun _ _ q=>ow_num iv q
noncomputable def ownP(ow:Nat→Bool)(k:Nat):List (Int×V):=(List.range k).map fun(i:Nat)=>(1+(i:Int),V.bool (ow (1+i)))
theorem own_get{ow:Nat→Bool}{k n:Nat}(h1:1≤n)(h2:n≤k):kvGet (foldSet (ownP ow k)) (n:Int)=some (.bool (ow n)):=by
 induction k with
 |zero=>lia
 |succ k ih =>
  have e:foldSet (ownP ow (k+1))=kvSet (foldSet (ownP ow k)) (1+k:Int) (.bool (ow (1+k))):=by
   unfold ownP foldSet
   rw [List.range_succ,Xc,List.foldl_append];rfl
  rw [e,Y8]
  by_cases q:(n:Int)=1+k
  ·rw [if_pos q]
   obtain rfl:n=1+k:=by lia
   rfl
  ·rw [if_neg q];exact ih (by lia)
end L03
end Lay
namespace Lay
namespace L03
variable{gs:List G}{tops:List Int}{d:Cl}{kn:List (List Int×V)}{σ:Hp}{kvs:List (Int×V)}
structure Kst(gs:List G)(kn:List (List Int×V))(kvs:List (Int×V))(d:Cl)(tops:List Int)(σ:Hp):Prop where
 c:gs.length≤20
 ok:COk gs kn
 hc:CircAt gs kn σ
 hm:σ 101=some (.idict kvs)
 mo:MkOk gs (gs.length-1) kvs
 h:ClsAt d σ
 iv:Inv gs tops d
 wa:d.wa = []
 pe:Pend gs d
 inp:Num d 2 1∧Num d 3 2∧Num d 4 3
 tp : ∀ t∈tops,TopOk gs d t∧In gs t
 lc:d.cs.length≤400
structure Ask(d:Cl)(a:Int×Int):Prop where
 op:a.1∈opK d
 li:Lit d a.1 a.2
 all:0<d.w→ -a.1∈opK d
noncomputable def phi3(ow:Nat→Bool)(n:Nat):Option Bool:=if n=1 then some (ow 1) else if n=2 then some (ow 2) else if n=3 then some (ow 3) else none
noncomputable def kv3(ow:Nat→Bool):List (Int×V) := [(1,.bool (ow 1)),(2,.bool (ow 2)),(3,.bool (ow 3))]
theorem phi3_some{ow:Nat→Bool}{n:Nat}{b:Bool}(h:phi3 ow n=some b):b=ow n:=by
 unfold phi3 at h
 split at h
 ·next e=>subst e;exact(Xm h).symm
 ·split at h
  ·next e=>subst e;exact(Xm h).symm
  ·split at h
   ·next e=>subst e;exact(Xm h).symm
   ·cases h
theorem unk3(cs:List (List Int))(ow:Nat→Bool):UnK cs (phi3 ow) (kv3 ow) (phi3 ow):=by
 refine⟨fun n=>?_,(by decide:([1,2,3]:List Int).Nodup),fun k hk=>?_,fun _ _ q=>q,fun _ _ q=>q⟩
 ·unfold phi3 kv3
  rw [Zr,Zr,Zr,kvGet_nil]
  by_cases h1:n=1
  ·subst h1;rfl
  ·rw [if_neg (by lia),if_neg h1]
   by_cases h2:n=2
   ·subst h2;rfl
   ·rw [if_neg (by lia),if_neg h2]
    by_cases h3:n=3
    ·subst h3;rfl
    ·rw [if_neg (by lia),if_neg h3];rfl
 ·exact(by decide : ∀ k∈([1,2,3]:List Int),k∈upK 19) k hk
inductive RowR(gs:List G)(d:Cl)(f:Nat→Bool)(v:V):Prop
 |mk (kv:List (Int×V)) (φ:Nat→Option Bool) (e:v = .dct kv) (p:Phi kv φ) (sat:Sat (ow f gs d) d.cs) (fal : ∀ s∈opK d,¬ Yes (val f gs) s→∀ x,Lit d s x→Fal φ x) (sub:Sub φ (ow f gs d))
theorem row_core(K:Kst gs kn kvs d tops σ){f:Nat→Bool}{v:V}(u:UnR d.cs (phi3 (ow f gs d)) v) :
  ((∀ t∈tops,Yes (val f gs) t)→RowR gs d f v)∧((¬ ∀ t∈tops,Yes (val f gs) t)→v = .none):=by
 have hm:=val_model K.ok f
 have s0:Sub (phi3 (ow f gs d)) (ow f gs d):=fun n b q=>(phi3_some q).symm
 have fa : ∀ φ:Nat→Option Bool,Closed φ d.cs→(∀ n b,phi3 (ow f gs d) n=some b→φ n=some b)→∀ s∈opK d,¬ Yes (val f gs) s→∀ x,Lit d s x→Fal φ x:=fun φ cl ge =>
  fal_all K.ok K.iv K.wa K.pe hm cl fun i n hi hn=>by
   have e : ∀ j k:Nat,Num d j k→i=j→phi3 (ow f gs d) k=some (ow f gs d k)→φ n=some (val f gs i):=fun j k h1 h2 h3=>by
    subst h2
    rw [hn.fn h1,←ow_num K.iv h1]
    exact ge _ _ h3
   have h2:2≤i∧i<5:=by cases K.ok.well _ _ hi with|inp a b=>exact⟨a,b⟩
   have h3:i=2∨i=3∨i=4:=by lia
   rcases h3 with q|q|q
   ·exact e 2 1 K.inp.1 q rfl
   ·exact e 3 2 K.inp.2.1 q rfl
   ·exact e 4 3 K.inp.2.2 q rfl
 refine⟨fun held=>?_,fun no=>?_⟩
 ·have sat:Sat (ow f gs d) d.cs:=K.iv.snd _ _ hm (fun g n q=>ow_num K.iv q) held
  cases u with
  |none _ q=>exact absurd s0 (q _ sat)
  |found kv φ e p cl ge le=>exact⟨kv,φ,e,p,sat,fa φ cl ge,le _ sat s0⟩
 ·cases u with
  |none e _=>exact e
  |found kv φ e p cl ge le=>exact absurd (fun t ht=>(K.tp t ht).1 φ _ hm cl (fa φ cl ge)) no
theorem ask_core{f:Nat→Bool}{φ:Nat→Option Bool}{a:Int×Int}(iv:Inv gs tops d)(A:Ask d a)(fal : ∀ s∈opK d,¬ Yes (val f gs) s→∀ x,Lit d s x→Fal φ x)(sub:Sub φ (ow f gs d)) :
  (φ a.2.natAbs=none→Yes (val f gs) a.1∧¬ 0<d.w)∧∀ b,φ a.2.natAbs=some b→(b==decide (0<a.2))=yb f gs a.1:=by
 have r:=iv.lit_row A.li
 have g1:=(iv.opk _ A.op).1
 have ln:Lit d (-a.1) (-a.2):=by
  obtain⟨n,h1,h2⟩:=A.li
  refine⟨n,by rw [W5];exact h1,?_⟩
  have:=(iv.num _ _ h1).1
  rw [h2]
  by_cases q:0<a.1
  ·rw [if_pos q,if_neg (by lia)]
  ·rw [if_neg q,if_pos (by lia),Int.neg_neg]
 refine⟨fun e=>⟨Xr fun q=>?_,fun w=>?_⟩,fun b e=>?_⟩
 ·have:=fal _ A.op q _ A.li
  unfold Fal at this
  rw [e] at this;cases this
 ·by_cases q:Yes (val f gs) a.1
  ·have:=fal _ (A.all w) (fun w=>(Yes.neg (by lia)).mp w q) _ ln
   unfold Fal at this
   rw [W5,e] at this;cases this
  ·have:=fal _ A.op q _ A.li
   unfold Fal at this
   rw [e] at this;cases this
 ·have h1:=sub _ _ e
  rw [Bool.eq_iff_iff,yb_iff,←ow_lit iv A.li,beq_iff_eq]
  unfold Yes
  rw [h1]
end L03
end Lay
namespace Lay
namespace L03
variable{gs:List G}{tops:List Int}{d:Cl}{kn:List (List Int×V)}{σ τ:Hp}{kvs:List (Int×V)}
noncomputable def FrR(σ τ:Hp):Prop := ∀ n,n≠140→n≠141→τ n=σ n
theorem Kst.mono(K:Kst gs kn kvs d tops σ)(e : ∀ n,n<140→τ n=σ n):Kst gs kn kvs d tops τ :=
 {K with hc:=K.hc.mono fun n q=>e n (by exact(Yr q (nlt 5 140 rfl))),hm:=(e _ (by decide)).trans K.hm,h:=K.h.mono fun n _ q=>e n (by lia)}
theorem FrR.up{n:Nat}{o:Option O}(h:FrR σ τ)(hn:n=140∨n=141):FrR σ (upd τ n o):=fun m q1 q2=>by rw [upd_ne _ _ (by lia)];exact h m q1 q2
theorem FrR.free(h:FrR σ τ)(hf:Free 140 σ):Free 160 τ:=fun n hn=>(h n (by exact(Yv (Yq (nlt 140 160 rfl) hn))) (by exact(Yv (Yq (nlt 141 160 rfl) hn)))).trans (hf n (by exact(Ys (nle 140 160 rfl) hn)))
theorem FrR.cut(h:FrR σ τ)(hf:Free 140 σ):cut 140 τ=σ:=by
 funext n
 unfold Lay.cut
 split
 ·exact h n (by lia) (by lia)
 ·exact(hf n (by lia)).symm
noncomputable def askT(a:Int×Int):List Int := [a.1,a.2]
theorem held_iff{tops:List Int}{f:Nat→Bool}:(tops.filter fun t => !yb f gs t) = []↔∀ t∈tops,Yes (val f gs) t:=by
 rw [List.filter_eq_nil_iff]
 exact forall_congr' fun t=>forall_congr' fun _=>by rw [←yb_iff];cases yb f gs t<;>simp
inductive RoI(σ1:Hp)(r:Nat)(kv:List (Int×V))(s:St):Prop
 |mk (l0:s.loc 0=some (.ref 6)) (l1:s.loc 1=some (.ref 101)) (l2:s.loc 2=some (.int r)) (l8:s.loc 8=some (.dct kv)) (e:s.hp=σ1)
theorem Inv.gate(iv:Inv gs tops d){n:Nat}(h1:1≤n)(h2:n<d.ga.length) : ∃ g:Int,d.ga[n]?=some g∧g∈nuK d:=by
 obtain⟨m,rfl⟩ : ∃ m,n=m+1:=⟨n-1,by lia⟩
 rw [iv.ga,Xg] at h2
 rw [iv.ga,List.getElem?_cons_succ]
 exact⟨_,X3 (by exact ar159 h2),List.getElem_mem _⟩
theorem own_w{s:St}{Q:V→St→Prop}{r:Nat}(K:Kst gs kn kvs d tops s.hp)(hn:Free 160 s.hp)(hr:r<8)(l0:s.loc 0=some (.ref 6))(l1:s.loc 1=some (.ref 101))(l2:s.loc 2=some (.int r))(h140:s.hp 140=none)
  (loc:(∀ s':St,s'.hp=upd s.hp 140 (some (.idict (foldSet (ownP (ow (row r) gs d) (d.ga.length-1)))))→(∀ k,k≠17→s'.loc k=s.loc k)→Q (.ref 140) s')) :
  Wp (X.call (bDictI 140) (X.cons (X.comp none 160 17 (X.call bRange (X.cons (pure (.int 1)) (X.cons (X.op2 (vAdd none) (X.meth (instOk 112 (Xx "many")) (callM (runF 320 1 m_Clauses_many)) (M.getL 0) X.nil) (pure (.int 1))) X.nil))) (X.and0) (X.tup (X.cons (M.getL 17) (X.cons (X.op2 (vEq false) (X.op2 vAnd (X.op2 vRShift (X.call (callM (runF 700 2 m__law_mask)) (X.cons (M.getL 1) (X.cons (X.meth (instOk 112 (Xx "gate_of")) (callM (runF 680 2 m_Clauses_gate_of)) (M.getL 0) (X.cons (M.getL 17) X.nil)) X.nil))) (M.getL 2)) (pure (.int 1))) (pure (.int 1))) X.nil)))) X.nil)) s Q:=by
 have l1000:1000<lim:=by decide
 obtain⟨_,b2,_,_⟩:=K.iv.bounds K.c
 have g1:1≤d.ga.length:=by rw [K.iv.ga];exact Nat.succ_le_succ (Yx _)
 refine .call (.cons (W.filt (RS:=List.range (d.ga.length-1)) (emb:=fun i=>V.int ((1+i:Nat):Int)) (e:=fun i=>V.tup [.int ((1+i:Nat):Int),.bool (ow (row r) gs d (1+i))]) (p:=fun _=>true) (v:=.rng 1 d.ga.length 1) ?_ rfl (fun s' _=>?_) (fun _ _ _ _ _ _=>.and0 ⟨rfl,rfl⟩) (fun i hi _ s' e1 e2 e3=>?_) (fun _ _=>rfl) (by rw [List.length_range];lia) fun s' e1 e2=>?_))
 ·refine .call (.cons (.pure (.cons (.op2 (.meth (.getL (v:=.ref 6) l0 ⟨okK K.h (by rfl),.nil (.callM ((many_ws K.h (hn.mono (by decide)) (by exact(Ys b2 (nle 20 1000 rfl)))).mono ?_))⟩))))))
  rintro _ _ ⟨rfl,rfl⟩
  exact .pure (W.add (.nil (W.range2 ⟨by congr 1;lia,rfl⟩)))
 ·rw [Yh (by decide) (by lia),show ((d.ga.length:Int)-1).toNat=d.ga.length-1 by lia];rfl
 ·have hi:=List.mem_range.mp hi
  obtain⟨g,hg,gm⟩:=K.iv.gate (n:=1+i) (by lia) (by lia)
  have how:ow (row r) gs d (1+i)=val (row r) gs g.natAbs:=by unfold ow;rw [hg];rfl
  rw [how]
  have gk:=K.iv.key _ gm
  have yv:yb (row r) gs g=val (row r) gs g.natAbs:=by unfold yb;rw [decide_eq_true (by exact(Int.lt_of_lt_of_le (by decide:(0:Int)<(1:Int)) gk.1))];cases val (row r) gs g.natAbs<;>rfl
  have k0:=(e2 0 (by decide)).trans l0
  refine .tup (.cons (.getL e3 (.cons (.op2 (bit_w (g:=g) (r:=r) (gs:=gs) (kvs:=kvs) (by rw [e1];exact K.hm) K.mo ⟨by lia,by lia⟩ (by rw [e1];exact hn.mono (by decide)) ((e2 1 (by decide)).trans l1) ((e2 2 (by decide)).trans l2) hr (.meth (.getL (v:=.ref 6) k0 ⟨okK (d:=d) (by rw [e1];exact K.h) (by rfl),.cons (.getL e3 (.nil (.callM ((gateof_ws (d:=d) (g:=g) (by rw [e1];exact K.h) (by rw [e1];exact hn.mono (by decide)) (by exact(Ys b2 (nle 20 1000 rfl))) hg).mono ?_))))⟩)) (.pure (W.eqI (.nil (.mkTup rfl (show 2≤lim by decide) ⟨?_,rfl⟩)))))))))
  ·rintro _ _ ⟨rfl,rfl⟩;exact⟨rfl,rfl⟩
  ·rw [yv];cases val (row r) gs g.natAbs<;>rfl
 ·rw [List.filter_eq_self.mpr fun _ _=>rfl]
  refine .nil (W.dictI (ps:=ownP (ow (row r) gs d) (d.ga.length-1)) ?_ ?_ (by rw [e1];exact h140) (loc _ (by rw [e1]) e2))
  ·rw [lst_at];unfold ownP;rw [List.map_map];rfl
  ·unfold ownP;rw [X4,List.length_range];lia
end L03
end Lay
namespace Lay
namespace L03
variable{gs:List G}{tops:List Int}{d:Cl}{kn:List (List Int×V)}{σ τ:Hp}{kvs:List (Int×V)}{asked:List (Int×Int)}
theorem own_at{iv:Inv gs tops d}{f:Nat→Bool}{n:Nat}(h1:1≤n)(h2:n<d.ga.length):kvGet (foldSet (ownP (ow f gs d) (d.ga.length-1))) (n:Int)=some (.bool (ow f gs d n)):=own_get h1 (by exact ar272 h2)
theorem kv3_fold(ow:Nat→Bool):foldSet (([1,2,3]:List Int).map fun n=>(n,V.bool (ow n.toNat)))=kv3 ow:=rfl
noncomputable def okL(f:Nat→Bool)(c:List Int):List Int:=c.filter fun x=>f x.natAbs==decide (0<x)
theorem okL_ne{f:Nat→Bool}{c:List Int}(h : ∃ x∈c,Yes f x):okL f c≠[]:=fun e=>by
 obtain⟨x,hx,q⟩:=h
 exact List.filter_eq_nil_iff.mp e x hx (beq_iff_eq.mpr q)
theorem row_ws{r:Nat}(K:Kst gs kn kvs d tops σ)(hr:r<8)(ht:σ 13=some (.list (tops.map .int)))(ha:σ 14=some (.list (asked.map fun a=>tupI (askT a))))(A : ∀ a∈asked,Ask d a)(tl:tops.length≤100)(al:asked.length≤100)(hn:Free 140 σ) :
  Ws (runF 140 5 m__law_row_right) [.ref 6,.ref 101,.int r,.ref 13,.ref 14] σ (fun v σ'=>v = .bool true∧σ'=σ):=by
 have l1000:1000<lim:=by decide
 obtain⟨_,b2,_,_⟩:=K.iv.bounds K.c
 have lc:=K.lc
 refine Ws.fn rfl ?_
 unfold m__law_row_right
 refine .seq (.assign (own_w K (hn.mono (by decide)) hr rfl rfl rfl (hn 140 (Yy _)) fun s' e1 e2=>?_))
 have f1:FrR σ s'.hp:=by rw [e1];exact FrR.up (fun _ _ _=>rfl) (.inl rfl)
 have own:s'.hp 140=some (.idict (foldSet (ownP (ow (row r) gs d) (d.ga.length-1)))):=by rw [e1,Zc]
 have l0:=(e2 0 (by decide)).trans rfl
 have l1:=(e2 1 (by decide)).trans rfl
 have l2:=(e2 2 (by decide)).trans rfl
 have l3:=(e2 3 (by decide)).trans rfl
 have l4:=(e2 4 (by decide)).trans rfl
 have n141:s'.hp 141=none:=by rw [e1,upd_ne _ _ (by decide)];exact hn 141 (by decide)
 obtain⟨loc,τ⟩:=s'
 dsimp only at f1 own l0 l1 l2 l3 l4 n141
 clear e1 e2
 have K1:=K.mono fun n q=>f1 n (by exact(Yu q)) (by exact(Yu (Yt q (nlt 140 141 rfl))))
 have ht1:τ 13=some (.list (tops.map .int)):=(f1 _ (by decide) (by decide)).trans ht
 have ha1:τ 14=some (.list (asked.map fun a=>tupI (askT a))):=(f1 _ (by decide) (by decide)).trans ha
 refine .seq (.assign (.op2 (W.filt (RS:=tops) (emb:=V.int) (e:=V.int) (p:=fun t => !yb (row r) gs t) (v:=.ref 13) (.getL l3 ⟨rfl,rfl⟩) rfl (fun s' e=>seq_list (ref_at (by rw [e];exact ht1))) (fun t htm s' e1 e2 e3=>?_) (fun _ _ _ _ _ _ e3=>.getL e3 ⟨rfl,rfl⟩) (fun _ _=>rfl) (by exact(Yt (Yr tl (nlt 100 1000 rfl)) l1000)) fun s' e1 e2=>?_)))
 ·refine .tcmp (bit_w (g:=t) (r:=r) (gs:=gs) (kvs:=kvs) (by rw [e1];exact K1.hm) K1.mo (K.tp t htm).2 (by rw [e1];exact(f1.free hn).mono (by decide)) ((e2 1 (by decide)).trans l1) ((e2 2 (by decide)).trans l2) hr (.getL e3 ⟨rfl,rfl⟩) (.pure (W.eqI (.asBool ⟨?_,rfl⟩))))
  cases yb (row r) gs t<;>rfl
 refine .list (.nil (.mkLst rfl (Yx _) (W.eqL (y := []) ?_)))
 have l0:=(e2 0 (by decide)).trans l0
 have l1:=(e2 1 (by decide)).trans l1
 have l2:=(e2 2 (by decide)).trans l2
 have l4:=(e2 4 (by decide)).trans l4
 have l5:=(e2 5 (by decide)).trans (show upd loc 5 (some (.ref 140)) 5=_ from rfl)
 have e1:s'.hp=τ:=e1
 obtain⟨loc2,τ'⟩:=s'
 dsimp only at e1 l0 l1 l2 l4 l5
 subst e1
 clear e2 l3 ht1
 rw [W3]
 have hh:decide ((tops.filter fun t => !yb (row r) gs t) = [])=true↔∀ t∈tops,Yes (val (row r) gs) t:=decide_eq_true_iff.trans held_iff
 generalize decide ((tops.filter fun t => !yb (row r) gs t) = [])=held at hh
 have g4:=(X5.mp (K.iv.num _ _ K.inp.2.2).2).1
 refine .seq (.assign (.call (.cons (.op1 (.getL (v:=.ref 6) l0 (W.kClauses K1.h (.cons (.call (.cons (W.filt (RS:=([1,2,3]:List Int)) (emb:=V.int) (e:=fun n=>V.tup [.int n,.bool (ow (row r) gs d n.toNat)]) (p:=fun _=>true) (v:=.tup [.int 1,.int 2,.int 3]) ?_ rfl (fun _ _=>Y9 (L := [1,2,3]) _) (fun _ _ _ _ _ _=>.and0 ⟨rfl,rfl⟩) (fun n hnm _ s' e1 e2 e3=>?_) (fun _ _=>rfl) (show 3<lim by decide) fun s' e1 e2=>?_))))))))))
 ·exact .tup (.cons (.pure (.cons (.pure (.cons (.pure (.nil (.mkTup rfl (show 3≤lim by decide) ⟨rfl,rfl⟩))))))))
 ·have hn3:1≤n∧n≤3:=by
   simp only [Xd,List.not_mem_nil,or_false] at hnm
   lia
  have hu:=own_at (iv:=K.iv) (f:=row r) (n:=n.toNat) (by lia) (by lia)
  rw [Int.toNat_of_nonneg (by exact(Int.le_trans (by decide:(0:Int)≤(1:Int)) hn3.1))] at hu
  exact .tup (.cons (.getL e3 (.cons (.op2 (.getL (v:=.ref 140) ((e2 5 (by decide)).trans l5) (.getL e3 (W.itemD (Y3 (by rw [e1];exact own)) hu (.nil (.mkTup rfl (show 2≤lim by decide) ⟨rfl,rfl⟩)))))))))
 rw [List.filter_eq_self.mpr fun _ _=>rfl]
 have l0:=(e2 0 (by decide)).trans l0
 have l1:=(e2 1 (by decide)).trans l1
 have l2:=(e2 2 (by decide)).trans l2
 have l4:=(e2 4 (by decide)).trans l4
 have l5:=(e2 5 (by decide)).trans l5
 have l7:=(e2 7 (by decide)).trans (show upd loc2 7 (some (.bool held)) 7=_ from rfl)
 have e1:s'.hp=τ':=e1
 obtain⟨loc3,τ⟩:=s'
 dsimp only at e1 l0 l1 l2 l4 l5 l7
 subst e1
 clear e2
 refine .nil (W.dictI (ps:=([1,2,3]:List Int).map fun n=>(n,V.bool (ow (row r) gs d n.toNat))) lst_at (show 3≤lim by decide) n141 (.nil ?_))
 rw [kv3_fold]
 dsimp only
 have f2:=f1.up (n:=141) (o:=some (.idict (kv3 (ow (row r) gs d)))) (.inr rfl)
 have K2:=K.mono fun n q=>f2 n (by exact(Yu q)) (by exact(Yu (Yt q (nlt 140 141 rfl))))
 have own2:upd τ 141 (some (.idict (kv3 (ow (row r) gs d)))) 140=_:=own
 have k141:upd τ 141 (some (.idict (kv3 (ow (row r) gs d)))) 141=_:=Zc _ _ _
 clear n141 own K1 f1
 generalize upd τ 141 (some (.idict (kv3 (ow (row r) gs d))))=τ at f2 K2 own2 k141
 refine .callM ((units_ws K2.h.cs k141 (unk3 _ _) (by exact(Ys lc (nle 400 1000 rfl))) (fun c hc=>⟨(K.iv.row c hc).1,fun x hx=>by have:=(K.iv.row c hc).2 x hx;exact⟨this.1,(Yq this.2 b2)⟩⟩) ((f2.free hn).mono (by decide))).mono ?_)
 rintro v τ ⟨rfl,u⟩
 have core:=row_core K u
 clear u k141
 have fin : ∀ loc,Qk.fn 140 (fun v σ'=>v = .bool true∧σ'=σ) (.ret (.bool true)) ⟨loc,τ⟩:=fun loc=>⟨_,_,rfl,Zi fun _=>V.noConfusion,rfl,f2.cut hn⟩
 cases held with
 |false =>
  obtain rfl:=core.2 fun q=>Bool.noConfusion (hh.mpr q)
  exact .seq (.ite (.tcmp (.op2 (.getL (v:=.none) rfl (.pure (W.isNone rfl (.getL (v:=.bool false) l7 (W.eqB (.asBool ⟨fun q=>absurd q (by decide),fun _=>.end (.seq (.ite (.tnot (.truth (.getL (v:=.bool false) l7 (.asBool ⟨fun _=>.seq (.ret (.pure (fin _))),fun q=>absurd q (by decide)⟩))))))⟩)))))))))
 |true =>
  obtain⟨kv,φ,rfl,p,sat,fal,sub⟩:=core.1 (hh.mp rfl)
  refine .seq (.ite (.tcmp (.op2 (.getL (v:=.dct kv) rfl (.pure (W.isNone rfl (.getL (v:=.bool true) l7 (W.eqB (.asBool ⟨fun q=>Bool.noConfusion (show false=true from q),fun _=>.end (.seq (.ite (.tnot (.truth (.getL (v:=.bool true) l7 (.asBool ⟨fun q=>absurd q (by decide),fun _=>.end ?_⟩))))))⟩)))))))))
  have ce:(d.cs.filter fun c=>decide (okL (ow (row r) gs d) c = [])) = []:=List.filter_eq_nil_iff.mpr fun c hc q=>okL_ne (sat c hc) (of_decide_eq_true q)
  refine .seq (.ite (.tcmp (W.filt2 21 (RS:=d.cs) (emb:=tupI) (e:=tupI) (p:=fun c=>decide (okL (ow (row r) gs d) c = [])) (v:=.ref 8) (.op1 (.getL (v:=.ref 6) l0 (W.kClauses K2.h ⟨rfl,rfl⟩))) rfl (fun s' e=>seq_list (ref_at (by rw [e];exact K2.h.cs))) (fun c hc s' e1 e2 e3=>?_) (fun _ _ _ _ _ _ e3=>.getL e3 ⟨rfl,rfl⟩) (fun _ _=>rfl) (by exact(Yt (Yr lc (nlt 400 1000 rfl)) l1000)) fun s' e1 e2=>?_)))
  ·obtain⟨⟨_,c5⟩,crow⟩:=K.iv.row c hc
   refine .tcmp (W.filt (RS:=c) (emb:=V.int) (e:=V.int) (p:=fun x=>ow (row r) gs d x.natAbs==decide (0<x)) (v:=tupI c) (.getL e3 ⟨rfl,rfl⟩) rfl (fun _ _=>Y9 _) (fun x hx s2 q1 q2 q3=>?_) (fun _ _ _ _ _ _ q3=>.getL q3 ⟨rfl,rfl⟩) (fun _ _=>rfl) (by exact(Yt (Yr c5 (nlt 5 1000 rfl)) l1000)) fun s2 q1 q2=>.list (.nil (.mkLst rfl (Yx _) (W.eqL (x:=okL (ow (row r) gs d) c) (y := []) (.asBool ⟨W3 _,q1,q2,(q2 20 (by decide)).trans e3⟩)))))
   ·have hx:=crow x hx
    have hu:=own_at (iv:=K.iv) (f:=row r) hx.1 hx.2
    exact .tcmp (.op2 (.getL (v:=.ref 140) ((q2 5 (by decide)).trans ((e2 5 (by decide) (by decide)).trans l5)) (.call (.cons (.getL q3 (.nil (W.abs (W.itemD (Y3 (by rw [q1,e1];exact own2)) hu (.op2 (.getL q3 (.pure (W.gt (W.eqB (.asBool ⟨W3 _,rfl⟩))))))))))))))
  rw [ce]
  have l0:=(e2 0 (by decide) (by decide)).trans l0
  have l1:=(e2 1 (by decide) (by decide)).trans l1
  have l2:=(e2 2 (by decide) (by decide)).trans l2
  have l4:=(e2 4 (by decide) (by decide)).trans l4
  have l8:=(e2 8 (by decide) (by decide)).trans (show upd loc3 8 (some (.dct kv)) 8=_ from rfl)
  have e1:s'.hp=τ:=e1
  obtain⟨loc4,τ'⟩:=s'
  dsimp only at e1 l0 l1 l2 l4 l8
  subst e1
  clear e2 l5 l7 ce
  refine .list (.nil (.mkLst rfl (Yx _) (W.eqL (x := []) (y := []) (.asBool ⟨nofun,fun _=>.end ?_⟩))))
  have ha2:τ' 14=some (.list (asked.map fun a=>tupI (askT a))):=(f2 _ (by decide) (by decide)).trans ha
  refine .seq (.for (.getL (v:=.ref 14) l4 ⟨rfl,.forS (xs:=asked.map fun a=>tupI (askT a)) (fun _=>RoI τ' r kv) ⟨l0,l1,l2,l8,rfl⟩ (fun i s q=>by
   obtain⟨_,_,_,_,q⟩:=q
   exact seq_list (ref_at (by rw [q];exact ha2))) ?_ ?_⟩))
  ·clear l0 l1 l2 l4 l8
   rintro i s x ⟨l0,l1,l2,l8,e⟩ hx
   rw [X8] at hx
   obtain⟨a,hai,rfl⟩:=Xl.mp hx
   have Aa:=A a (Xa hai)
   obtain⟨c1,c2⟩:=ask_core K.iv Aa fal sub
   obtain⟨g1,g2⟩:=K.iv.opk _ Aa.op
   have g3:=K.iv.key _ g2
   obtain⟨loc,τ2⟩:=s
   dsimp only at l0 l1 l2 l8 e
   subst e
   refine Wp.mono (Q:=fun _ s1=>s1=⟨upd (upd loc 6 (some (.int a.1))) 9 (some (.int a.2)),τ2⟩) (show Wp (M.sets [6,9] [V.int a.1,V.int a.2]) _ _ from .sets1 (.sets1 (.sets0 rfl))) ?_
   rintro _ _ rfl
   refine .seq (.assign (.op2 (bit_w (g:=a.1) (r:=r) (gs:=gs) (kvs:=kvs) K2.hm K.mo ⟨g1,by lia⟩ ((f2.free hn).mono (by decide)) l1 l2 hr (.getL (v:=.int a.1) rfl ⟨rfl,rfl⟩) (.pure (W.eqI ?_)))))
   have hy:(decide (((if yb (row r) gs a.1 then 1 else 0:Nat):Int)=1)^^false)=yb (row r) gs a.1:=by cases yb (row r) gs a.1<;>rfl
   rw [hy]
   have hp:=p a.2.natAbs
   have it:((kvGet kv (a.2.natAbs:Int)).isSome^^true)=(φ a.2.natAbs).isNone:=by rw [hp];cases φ a.2.natAbs<;>rfl
   refine .seq (.assign (.ife (.tcmp (.call (.cons (.getL (v:=.int a.2) rfl (.nil (W.abs (.getL (v:=.dct kv) l8 (W.inD dct_at (.asBool ⟨fun hb=>?_,fun hb=>?_⟩)))))))))))
   ·rw [it,Option.isNone_iff_eq_none] at hb
    obtain⟨c3,c4⟩:=c1 hb
    rw [←yb_iff] at c3
    rw [c3]
    refine .pure (.seq (.ite (.or1 (.and1 (.tcmp (.getL (v:=.none) rfl (.pure (W.isNone rfl (.asBool ⟨fun _=>.and1 (.or1 (.tnot (.truth (.getL (v:=.bool true) rfl (.asBool ⟨fun q=>absurd q (by decide),fun _=>.or1 (.tcmp (.op1 (.getL (v:=.ref 6) l0 (W.kWhole K2.h (.pure (W.eqI (.asBool ⟨fun q=>?_,fun _=>.or0 ⟨nofun,fun _=>⟨nofun,fun _=>.or1 (.and1 (.tcmp (.getL (v:=.none) rfl (.pure (W.isNone rfl (.asBool ⟨fun q=>Bool.noConfusion (show false=true from q),fun _=>⟨nofun,fun _=>.or0 ⟨nofun,fun _=>.end (.end ⟨l0,l1,l2,l8,rfl⟩)⟩⟩⟩))))))⟩⟩⟩)))))))⟩))))),fun q=>Bool.noConfusion (show true=false from q)⟩)))))))))
    exact absurd (by simpa using q:d.w=1) (by lia)
   ·cases hb2:φ a.2.natAbs with
    |none=>rw [it,hb2] at hb;cases hb
    |some b =>
     rw [hb2] at hp
     have c3:=c2 b hb2
     refine .op2 (.op2 (.getL (v:=.dct kv) l8 (.call (.cons (.getL (v:=.int a.2) rfl (.nil (W.abs (W.itemD dct_at hp (.op2 (.getL (v:=.int a.2) rfl (.pure (W.gt (W.eqB ?_)))))))))))))
     rw [c3,W3]
     refine .seq (.ite (.or1 (.and1 (.tcmp (.getL (v:=.bool (yb (row r) gs a.1)) rfl (.pure (W.isNone rfl (.asBool ⟨fun q=>Bool.noConfusion (show false=true from q),fun _=>⟨nofun,fun _=>.or1 (.and1 (.tcmp (.getL (v:=.bool (yb (row r) gs a.1)) rfl (.pure (W.isNone rfl (.asBool ⟨fun _=>.and1 (.tcmp (.getL (v:=.bool (yb (row r) gs a.1)) rfl (.getL (v:=.bool (yb (row r) gs a.1)) rfl (W.eqB (.asBool ⟨fun q=>?_,fun _=>⟨nofun,fun _=>.or0 ⟨nofun,fun _=>.end (.end ⟨l0,l1,l2,l8,rfl⟩)⟩⟩⟩))))),fun q=>Bool.noConfusion (show true=false from q)⟩))))))⟩⟩))))))))
     rw [beq_self_eq_true] at q
     cases q
  ·rintro s ⟨_,_,_,_,e⟩
   exact .seq (.ret (.pure ⟨_,_,rfl,Zi fun _=>V.noConfusion,rfl,(congrArg (cut 140) e).trans (f2.cut hn)⟩))
end L03
end Lay
namespace Lay
namespace L03
variable{gs:List G}{tops:List Int}{d d':Cl}{kn:List (List Int×V)}{σ τ:Hp}{kvs:List (Int×V)}{asked:List (Int×Int)}{told:List (List Int)}{xs pool:List Int}{al:Int}{n m:Nat}
theorem range_get(L:List Int):((List.range L.length).map fun i=>V.int ((L[i]?).getD 0))=L.map .int:=by
 refine List.ext_getElem (by simp) fun i h1 h2=>?_
 rw [X4] at h2
 simp [X3 h2]
theorem gates_w{s:St}{Q:V→St→Prop}{j:Nat}(hg:gs.length≤20)(h:ClsAt d s.hp)(iv:Inv gs tops d)(hn:Free 140 s.hp)(l1:s.loc 1=some (.ref 6))(hj:j≠1)(k : ∀ s':St,s'.hp=s.hp→(∀ k,k≠j→s'.loc k=s.loc k)→Q (.lst ((nuK d).map .int)) s') :
  Wp (X.comp none 140 j (X.call bRange (X.cons (pure (.int 1)) (X.cons (X.op2 (vAdd none) (X.meth (instOk 112 (Xx "many")) (callM (runF 320 1 m_Clauses_many)) (M.getL 1) X.nil) (pure (.int 1))) X.nil))) (X.and0) (X.meth (instOk 112 (Xx "gate_of")) (callM (runF 680 2 m_Clauses_gate_of)) (M.getL 1) (X.cons (M.getL j) X.nil))) s Q:=by
 have l1000:1000<lim:=by decide
 obtain⟨b1,b2,_,_⟩:=iv.bounds hg
 have gl:d.ga.length=(nuK d).length+1:=by rw [iv.ga];rfl
 have gl2:(nuK d).length=d.nu.length:=X4 ..
 refine W.filt (RS:=List.range (nuK d).length) (emb:=fun i=>V.int ((1+i:Nat):Int)) (e:=fun i=>V.int (((nuK d)[i]?).getD 0)) (p:=fun _=>true) (v:=.rng 1 d.ga.length 1) ?_ rfl (fun s' _=>?_) (fun _ _ _ _ _ _=>.and0 ⟨rfl,rfl⟩) (fun i hi _ s' e1 e2 e3=>?_) (fun _ _=>rfl) (by rw [List.length_range];lia) fun s' e1 e2=>?_
 ·refine .call (.cons (.pure (.cons (.op2 (.meth (.getL (v:=.ref 6) l1 ⟨okK h (by rfl),.nil (.callM ((many_ws h (hn.mono (by decide)) (by exact(Ys b2 (nle 20 1000 rfl)))).mono ?_))⟩))))))
  rintro _ _ ⟨rfl,rfl⟩
  exact .pure (W.add (.nil (W.range2 ⟨by congr 1;lia,rfl⟩)))
 ·rw [Yh (by decide) (by lia),show ((d.ga.length:Int)-1).toNat=(nuK d).length by lia];rfl
 ·have hi:=List.mem_range.mp hi
  have hx:(nuK d)[i]?=some (nuK d)[i]:=X3 hi
  have hga:d.ga[1+i]?=some (((nuK d)[i]?).getD 0):=by rw [iv.ga,Nat.add_comm,List.getElem?_cons_succ,hx];rfl
  refine .meth (.getL (v:=.ref 6) ((e2 1 (Ne.symm hj)).trans l1) ⟨okK (d:=d) (by rw [e1];exact h) (by rfl),.cons (.getL e3 (.nil (.callM ((gateof_ws (d:=d) (by rw [e1];exact h) (by rw [e1];exact hn.mono (by decide)) (by exact(Ys b2 (nle 20 1000 rfl))) hga).mono ?_))))⟩)
  rintro _ _ ⟨rfl,rfl⟩
  exact⟨rfl,rfl⟩
 ·rw [List.filter_eq_self.mpr fun _ _=>rfl,range_get]
  exact k s' e1 e2
theorem nuk_pre(iv:Inv gs tops d){tops':List Int}(iv':Inv gs tops' d')(e:Ext d d'):nuK d<+:nuK d':=by
 have:=e.ga
 rw [iv.ga,iv'.ga] at this
 exact(List.cons_prefix_cons.mp this).2
theorem Ask.ext{a:Int×Int}(A:Ask d a)(e:Ext d d'):Ask d' a:=⟨e.op _ A.op,A.li.ext e,fun q=>e.op _ (A.all (e.w▸q))⟩
noncomputable abbrev stO(told:List (List Int)):List (Str×V) := [(Xx "tops",.ref 13),(Xx "asked",.ref 14),(Xx "told",.lst (told.map tupI))]
structure Tld(d:Cl)(told:List (List Int)):Prop where
 fr : ∀ c∈told,∃ s,Did d s∧From d c s
 nd:told.Nodup
 le:told.length≤4*d.op.length
structure Ast(gs:List G)(kn:List (List Int×V))(kvs:List (Int×V))(d:Cl)(tops:List Int)(asked:List (Int×Int))(told:List (List Int))(xs:List Int)(al:Int)(n:Nat)(pool:List Int)(m:Nat)(σ:Hp):Prop where
 K:Kst gs kn kvs d tops σ
 D:Drw xs al n pool σ
 hp : ∀ p∈pool,In gs p
 st:σ 103=some (.sdict (stO told))
 ht:σ 13=some (.list (tops.map .int))
 ha:σ 14=some (.list (asked.map fun a=>tupI (askT a)))
 A : ∀ a∈asked,Ask d a
 T:Tld d told
 lc:d.cs.length≤4*d.op.length+38*tops.length
 cnt:tops.length+asked.length≤m
 m4:m≤4
 fr:Free 120 σ
theorem op_le(iv:Inv gs tops d)(e:Ext d d'):d.op.length≤d'.op.length:=by
 have:=Zt iv.opn e.op
 rwa [X4,X4] at this
theorem Tld.ext(T:Tld d told)(iv:Inv gs tops d)(e:Ext d d'):Tld d' told:=by
 refine⟨fun c hc=>?_,T.nd,Ys T.le (Nat.mul_le_mul_left 4 (op_le iv e))⟩
 obtain⟨s,q1,q2⟩:=T.fr c hc
 exact⟨s,e.did q1,q2.ext e⟩
noncomputable def several(F:List (List Int)):List (List Int):=F.filter fun c=>decide (1<c.length)
theorem Tld.add{F:List (List Int)}{tops':List Int}(T:Tld d told)(iv:Inv gs tops d)(iv':Inv gs tops' d')(e:Ext d d')(fr:Fresh d d' (fun s=>Did d' s∧¬ Did d s) F)(le:d'.cs.length+4*d.op.length≤d.cs.length+4*d'.op.length):Tld d' (told++several F):=by
 have T':=T.ext iv e
 refine⟨fun c hc=>?_,List.nodup_append.mpr ⟨T.nd,fr.nd,fun a ha b hb q=>?_⟩,?_⟩
 ·rcases X9.mp hc with q|q
  ·exact T'.fr c q
  ·obtain⟨q1,q2⟩:=List.mem_filter.mp q
   obtain⟨s,q3,q4⟩:=fr.long c q1 (of_decide_eq_true q2)
   exact⟨s,q3.1,q4⟩
 ·subst q
  obtain⟨q1,q2⟩:=List.mem_filter.mp hb
  obtain⟨s,q3,q4⟩:=fr.long a q1 (of_decide_eq_true q2)
  obtain⟨s',q5,q6⟩:=T.fr a ha
  have:=(q6.ext e).one iv' q4
  subst this
  exact q3.2 q5
 ·have h1:=T.le
  have h2:=congrArg List.length fr.eq
  have h3:(several F).length≤F.length:=List.length_filter_le _ _
  rw [X6] at h2 ⊢
  lia
theorem pre_take{α:Type}{a b:List α}(h:a<+:b):b.take a.length=a:=(List.prefix_iff_eq_take.mp h).symm
end L03
end Lay
namespace Lay
theorem Wp.bOr{m1 m2:M V}{s:St}{Q:V→St→Prop}(h:Wp m1 s (fun v s1 => ∃ b,v = .bool b∧(b=true→Q (.bool true) s1)∧(b=false→Wp m2 s1 Q))):Wp (X.bOr m1 m2) s Q:=by
 obtain⟨_,s1,h1,b,rfl,h2,h3⟩:=h
 cases b with
 |true=>exact⟨_,_,R.bind h1 (R.bind (R.pure (a:=true)) (R.pure (a:=V.bool true))),h2 rfl⟩
 |false=>obtain⟨v,s2,h4,h5⟩:=h3 rfl;exact⟨v,s2,R.bind h1 (R.bind (R.pure (a:=false)) h4),h5⟩
theorem Wp.bAnd{m1 m2:M V}{s:St}{Q:V→St→Prop}(h:Wp m1 s (fun v s1=>v = .bool true∧Wp m2 s1 Q)):Wp (X.bAnd m1 m2) s Q:=by
 obtain⟨_,s1,h1,rfl,v,s2,h4,h5⟩:=h
 exact⟨v,s2,R.bind h1 (R.bind (R.pure (a:=true)) h4),h5⟩
namespace L03
variable{gs:List G}{tops:List Int}{d d':Cl}{kn:List (List Int×V)}{σ τ:Hp}{kvs:List (Int×V)}{asked:List (Int×Int)}{told:List (List Int)}{xs pool:List Int}{al:Int}{n m:Nat}{g:Int}
theorem Ast.sip(A:Ast gs kn kvs d tops asked told xs al n pool m σ)(c:Cup xs al (n+1) τ)(f:FrC σ τ)(hl:n+1<2^39):Ast gs kn kvs d tops asked told xs al (n+1) pool m τ :=
 {A with
  K:={A.K with hc:=A.K.hc.mono fun n q=>f n (by exact(Yu (Yr q (nlt 5 100 rfl)))),hm:=(f _ (by decide)).trans A.K.hm,h:=A.K.h.mono fun n _ q=>f n (by lia)}
  D:=⟨c,(f _ (by decide)).trans A.D.poo,A.D.xl,hl,A.D.p0,A.D.pl⟩
  st:=(f _ (by decide)).trans A.st,ht:=(f _ (by decide)).trans A.ht,ha:=(f _ (by decide)).trans A.ha,fr:=f.free A.fr (by decide)}
theorem top_bound(ok:COk gs kn)(hg:In gs g)(c:gs.length≤20) : ∃ B,g.natAbs≤B∧(∀ i:Nat,gs[i]?=some .inp→i≤g.natAbs→i<B)∧∀ ps,gs[g.natAbs]?=some (.and ps)→B=g.natAbs:=by
 have hx:gs[g.natAbs]?=some gs[g.natAbs]:=X3 hg.2
 generalize gs[g.natAbs]=x at hx
 by_cases q : ∃ ps,x = .and ps
 ·refine⟨g.natAbs,Yy _,fun i hi hle=>Nat.lt_of_le_of_ne hle fun e=>?_,fun _ _=>rfl⟩
  obtain⟨ps,rfl⟩:=q
  subst e
  rw [hx] at hi
  exact G.noConfusion (Xm hi)
 ·exact⟨20,by have:=hg.2;lia,fun i hi _=>by have:=(X5.mp hi).1;lia,fun ps h=>absurd ⟨ps,Xm (hx.symm.trans h)⟩ q⟩
inductive DeR(gs:List G)(kn:List (List Int×V))(kvs:List (Int×V))(d:Cl)(told:List (List Int))(xs:List Int)(al:Int)(n:Nat)(pool:List Int)(m:Nat)(b:Bool)(g:Int)(f:Fl)(s:St):Prop
 |mk (e:f = .next) (l1:s.loc 1=some (.ref 6)) (l2:s.loc 2=some (.ref 1)) (l4:s.loc 4=some (.ref 103)) (l5:s.loc 5=some (.bool b)) (l6:s.loc 6=some (.int g)) (l7:s.loc 7=some (.lst (d.cs.map tupI))) (l8:s.loc 8=some (.lst ((nuK d).map .int)))
   (d':Cl) (tops':List Int) (asked':List (Int×Int)) (ext:Ext d d') (A:Ast gs kn kvs d' tops' asked' told xs al n pool m s.hp) (top:b=true→∀ ps,gs[g.natAbs]?=some (.and ps)→(g.natAbs:Int)∈nuK d'→(g.natAbs:Int)∈nuK d)
   (lit:b=false→∃ F,Fresh d d' (fun s=>Did d' s∧¬ Did d s) F∧d'.cs.length+4*d.op.length≤d.cs.length+4*d'.op.length)
theorem top_ast{B:Nat}(A:Ast gs kn kvs d tops asked told xs al n pool m σ)(hm:m<4)(hg:In gs g)(T:TopR gs tops B d σ g τ) :
  ∃ d',Ext d d'∧Ast gs kn kvs d' (tops ++ [g]) asked told xs al n pool (m+1) (upd τ 13 (some (.list (tops.map .int ++ [.int g]))))∧∀ k∈nuK d',k∈nuK d∨k.natAbs<B:=by
 obtain⟨d',f,k,iv,ext,wa,pe,ok,low,le⟩:=T
 have f2 : ∀ i,i≠13→i<8∨12<i→upd τ 13 (some (.list (tops.map .int ++ [.int g]))) i=σ i:=fun i q1 q2=>by rw [upd_ne _ _ q1];exact f i q2
 have ol:=op_le A.K.iv ext
 have c:=A.K.c
 have cnt:=A.cnt
 have lc:=A.lc
 have b3:=(iv.bounds c).2.2.1
 have tl:(tops ++ [g]).length=tops.length+1:=by rw [X6];rfl
 have lc':d'.cs.length≤4*d'.op.length+38*(tops ++ [g]).length:=by rw [tl];lia
 refine⟨d',ext,{A with K:=⟨c,A.K.ok,A.K.hc.mono fun i q=>f2 i (by exact(Yu (Yr q (nlt 5 13 rfl)))) (by lia),(f2 _ (by decide) (by decide)).trans A.K.hm,A.K.mo,k.mono fun i q1 q2=>upd_ne _ _ (by exact(Yu (Yr q2 (nlt 12 13 rfl)))),iv,wa,pe,⟨ext.num _ _ A.K.inp.1,ext.num _ _ A.K.inp.2.1,ext.num _ _ A.K.inp.2.2⟩,fun t ht=>?_,by rw [tl] at lc';lia⟩,D:=⟨?_,(f2 _ (by decide) (by decide)).trans A.D.poo,A.D.xl,A.D.nl,A.D.p0,A.D.pl⟩,st:=(f2 _ (by decide) (by decide)).trans A.st,ht:=(by rw [Zc,Xc];rfl),ha:=(f2 _ (by decide) (by decide)).trans A.ha,A:=fun a ha=>(A.A a ha).ext ext,T:=A.T.ext A.K.iv ext,lc:=lc',cnt:=(by rw [tl];lia),m4:=hm,fr:=fun i q=>(f2 i (by exact(Yv (Yq (nlt 13 120 rfl) q))) (by lia)).trans (A.fr i q)},low⟩
 ·rcases X9.mp ht with q|q
  ·exact⟨(A.K.tp t q).1.ext ext,(A.K.tp t q).2⟩
  ·rw [X7.mp q];exact⟨ok,hg⟩
 ·obtain⟨k,k0,k1,k2⟩:=A.D.cup
  exact⟨k,k0,k1,(f2 _ (by decide) (by decide)).trans k2⟩
theorem lit_ast{x:Int}(A:Ast gs kn kvs d tops asked told xs al n pool m σ)(hm:m<4)(f:Fr8 σ τ)(k:ClsAt d' τ)(iv:Inv gs tops d')(ext:Ext d d')(wa:d'.wa = [])(pe:Pend gs d')(op:g∈opK d')(li:Lit d' g x)(all:0<d.w→ -g∈opK d')(le:d'.cs.length+4*d.op.length≤d.cs.length+4*d'.op.length) :
  Ast gs kn kvs d' tops (asked ++ [(g,x)]) told xs al n pool (m+1) (upd τ 14 (some (.list ((asked.map fun a=>tupI (askT a)) ++ [tupI [g,x]])))):=by
 have f2 : ∀ i,i≠14→i<8∨12<i→upd τ 14 (some (.list ((asked.map fun a=>tupI (askT a)) ++ [tupI [g,x]]))) i=σ i:=fun i q1 q2=>by rw [upd_ne _ _ q1];exact f i q2
 have c:=A.K.c
 have cnt:=A.cnt
 have lc:=A.lc
 have b3:=(iv.bounds c).2.2.1
 have lc':d'.cs.length≤4*d'.op.length+38*tops.length:=by lia
 refine {A with K:=⟨c,A.K.ok,A.K.hc.mono fun i q=>f2 i (by exact(Yu (Yr q (nlt 5 14 rfl)))) (by lia),(f2 _ (by decide) (by decide)).trans A.K.hm,A.K.mo,k.mono fun i q1 q2=>upd_ne _ _ (by exact(Yu (Yr q2 (nlt 12 14 rfl)))),iv,wa,pe,⟨ext.num _ _ A.K.inp.1,ext.num _ _ A.K.inp.2.1,ext.num _ _ A.K.inp.2.2⟩,fun t ht=>⟨(A.K.tp t ht).1.ext ext,(A.K.tp t ht).2⟩,by lia⟩,D:=⟨?_,(f2 _ (by decide) (by decide)).trans A.D.poo,A.D.xl,A.D.nl,A.D.p0,A.D.pl⟩,st:=(f2 _ (by decide) (by decide)).trans A.st,ht:=(f2 _ (by decide) (by decide)).trans A.ht,ha:=(by rw [Zc,Xc];rfl),A:=fun a ha=>?_,T:=A.T.ext A.K.iv ext,lc:=lc',cnt:=(by rw [X6,List.length_singleton];lia),m4:=hm,fr:=fun i q=>(f2 i (by exact(Yv (Yq (nlt 14 120 rfl) q))) (by lia)).trans (A.fr i q)}
 ·obtain⟨k,k0,k1,k2⟩:=A.D.cup
  exact⟨k,k0,k1,(f2 _ (by decide) (by decide)).trans k2⟩
 ·rcases X9.mp ha with q|q
  ·exact(A.A a q).ext ext
  ·rw [X7.mp q];exact⟨op,li,fun q=>all (ext.w▸q)⟩
end L03
end Lay
namespace Lay
namespace L03
variable{gs:List G}{tops:List Int}{d d':Cl}{kn:List (List Int×V)}{σ τ:Hp}{kvs:List (Int×V)}{asked:List (Int×Int)}{told:List (List Int)}{xs pool:List Int}{al:Int}{n m:Nat}{g:Int}
theorem xor_f{b:Bool}(h:(b^^true)=false):b=true:=by cases b<;>first|rfl|cases h
theorem Kst.at(K:Kst gs kn kvs d tops σ)(e : ∀ n,n≠103→τ n=σ n):Kst gs kn kvs d tops τ :=
 {K with hc:=K.hc.mono fun n q=>e n (by exact(Yu (Yr q (nlt 5 103 rfl)))),hm:=(e _ (by decide)).trans K.hm,h:=K.h.mono fun n _ q=>e n (by lia)}
theorem sto_set{told tl:List (List Int)}:kvSet (stO told) (Xx "told") (.lst (tl.map tupI))=stO tl:=by
 have e1:Xx "tops" ≠Xx "told" :=by decide
 have e2:Xx "asked" ≠Xx "told" :=by decide
 unfold kvSet;simp [e1,e2]
inductive DedR(gs:List G)(kn:List (List Int×V))(kvs:List (Int×V))(xs:List Int)(al:Int)(n:Nat)(pool:List Int)(m:Nat)(v:V)(σ:Hp):Prop
 |mk (e:v = .bool true) (d:Cl) (tops:List Int) (asked:List (Int×Int)) (told:List (List Int)) (A:Ast gs kn kvs d tops asked told xs al n pool m σ)
theorem deed_ws(A:Ast gs kn kvs d tops asked told xs al n pool m σ)(hm:m<4)(hl:n+3<2^39) :
  Ws (runF 120 5 m__law_deed_right) [.ref 100,.ref 6,.ref 1,.ref 15,.ref 103] σ (DedR gs kn kvs xs al (n+3) pool (m+1)):=by
 have l1000:1000<lim:=by decide
 have pl:=A.D.pl
 have l5:=A.K.ok.len
 refine Ws.fn rfl ?_
 unfold m__law_deed_right
 refine .seq (.assignSwap (.cons (.op2 (.call (.cons (.getL (v:=.ref 100) rfl (.cons (.pure (.nil (.callM ((sip_ws A.D.cup A.D.nl A.D.xl (show (0:Int)<2 by decide) (A.fr.mono (by decide))).mono ?_)))))))))))
 rintro _ σ1 ⟨r1,rfl,_,_,c1,f1⟩
 have A1:=A.sip c1 f1 (by lia)
 refine .pure (W.eqI (.cons (.op2 (.op2 (.list (.cons (.pure (.nil (.mkLst rfl (show 1≤lim by decide) (.getL (v:=.ref 15) rfl (W.addL (x := [.int 1]) (y:=pool.map .int) (un_none fun _=>V.noConfusion) lst_at (ref_at A1.D.poo) (Yd (1::pool)) (by rw [X6,X4];show 1+_≤_;lia) (.call (.cons (.getL (v:=.ref 100) rfl (.cons (.op2 (.call (.cons (.getL (v:=.ref 15) rfl (.nil (W.len (n:=pool.length) (len_rm A1.D.poo) (by exact(Yw (Yt (Yr pl (nlt 40 1000 rfl)) l1000))) (.pure (W.add (.nil (.callM ((sip_ws (many:=pool.length+1) A1.D.cup A1.D.nl A1.D.xl (by lia) (A1.fr.mono (by decide))).mono ?_))))))))))))))))))))))))))
 rintro _ σ2 ⟨r2,rfl,r20,r21,c2,f2⟩
 have A2:=A1.sip c2 f2 (by lia)
 obtain⟨g0,hg0,g0m⟩ : ∃ g0,(1::pool)[r2.toNat]?=some g0∧g0∈1::pool:=by
  have hlt:r2.toNat<(1::pool).length:=by rw [Xg];lia
  exact⟨_,X3 hlt,List.getElem_mem hlt⟩
 have in0:In gs g0:=by
  rcases Xd.mp g0m with rfl|q
  ·exact⟨by decide,by show 1<_;exact(Yq (nlt 1 5 rfl) l5)⟩
  ·exact A.hp g0 q
 refine W.itemL (u:=.int g0) (lst_at (v := [V.int 1]++pool.map .int)) r20 (by lia) (by rw [show [V.int 1]++pool.map V.int=(1::pool).map V.int from rfl,X8,hg0];rfl) (.nil ⟨show 2≤100 by decide,.sets1 (.sets1 (.sets0 ?_))⟩)
 generalize (decide (r1=1)^^false)=b
 refine .seq (Wp.mono (Q:=fun f s=>f=Fl.next∧∃ g,In gs g∧Ast gs kn kvs d tops asked told xs al (n+3) pool m s.hp∧s.loc 1=some (.ref 6)∧s.loc 2=some (.ref 1)∧s.loc 4=some (.ref 103)∧s.loc 5=some (.bool b)∧s.loc 6=some (.int g)) ?_ ?_)
 ·refine .assign (.ife (.tcmp (.call (.cons (.getL (v:=.ref 100) rfl (.cons (.pure (.nil (.callM ((sip_ws A2.D.cup A2.D.nl A2.D.xl (show (0:Int)<2 by decide) (A2.fr.mono (by decide))).mono ?_))))))))))
  rintro _ σ3 ⟨r3,rfl,_,_,c3,f3⟩
  have A3:=A2.sip c3 f3 (by lia)
  exact .pure (W.eqI (.asBool ⟨fun _=>.getL (v:=.int g0) rfl ⟨rfl,g0,in0,A3,rfl,rfl,rfl,rfl,rfl⟩,fun _=>.op1 (.getL (v:=.int g0) rfl (W.neg ⟨rfl,-g0,in0.neg,A3,rfl,rfl,rfl,rfl,rfl⟩))⟩))
 rintro _ ⟨loc,τ⟩ ⟨rfl,g,hg,A3,l1,l2,l4,l5,l6⟩
 dsimp only at A3 l1 l2 l4 l5 l6
 have iv0:=A.K.iv
 have A0:=A.T
 clear A A1 A2 c1 f1 c2 f2 g0m in0 hg0
 refine .seq (.assignSwap (.cons (.call (.cons (.op1 (.getL (v:=.ref 6) l1 (W.kClauses A3.K.h (.nil (W.list (coll_lst (un_none fun _=>V.noConfusion) (ref_at A3.K.h.cs)) (tups_low _) (by have:=A3.K.lc;rw [X4];exact(Yw (Yt (Yr this (nlt 400 1000 rfl)) l1000))) (.cons (gates_w A3.K.c A3.K.h A3.K.iv (A3.fr.mono (by decide)) l1 (by decide) fun s' e1 e2=>.nil ⟨show 2≤100 by decide,.sets1 (.sets1 (.sets0 ?_))⟩)))))))))))
 have l1:=(e2 1 (by decide)).trans l1
 have l2:=(e2 2 (by decide)).trans l2
 have l4:=(e2 4 (by decide)).trans l4
 have l5:=(e2 5 (by decide)).trans l5
 have l6:=(e2 6 (by decide)).trans l6
 have e1:s'.hp=τ:=e1
 obtain⟨loc3,τ3⟩:=s'
 dsimp only at e1 l1 l2 l4 l5 l6
 subst e1
 clear e2
 have lc:=A3.K.lc
 refine .seq (Wp.mono (Q:=DeR gs kn kvs d told xs al (n+3) pool (m+1) b g) ?_ ?_)
 ·refine .ite (.truth (.getL l5 (.asBool ⟨fun hb=>?_,fun hb=>?_⟩)))
  ·subst hb
   obtain⟨B,B1,B2,B3⟩:=top_bound A3.K.ok hg A3.K.c
   refine .seq (.expr (.meth (.getL (v:=.ref 6) l1 ⟨okK A3.K.h (by rfl),.cons (.getL (v:=.int g) l6 (.nil (.callM ((top_ws (tops:=tops) (B:=B) A3.K.c A3.K.ok A3.K.h A3.K.hc A3.K.iv (A3.fr.mono (by decide)) A3.K.pe lc A3.K.wa hg B1 B2).mono ?_))))⟩)))
   intro _ τ2 T
   have f:Fr8 τ3 τ2:=by obtain⟨_,f⟩:=T;exact f
   obtain⟨d',ext,A',low⟩:=top_ast A3 hm hg T
   have h13:=(f 13 (by decide)).trans A3.ht
   refine .seq (.expr (.meth (.op2 (.getL (v:=.ref 103) l4 (.pure (W.itemS (u:=.ref 13) ((f 103 (by decide)).trans A3.st) (by rfl) ⟨isLst_ref h13,.cons (.getL (v:=.int g) l6 (.nil (W.app h13 rfl (by have:=A3.cnt;rw [X4];lia) (.end ⟨rfl,l1,l2,l4,l5,l6,rfl,rfl,d',_,_,ext,A',fun _ ps hx hk=>(low _ hk).elim id fun q=>?_,nofun⟩))))⟩))))))
   rw [B3 ps hx,Int.natAbs_natCast] at q
   exact absurd q (Nat.lt_irrefl _)
  ·subst hb
   refine .seq (.assign (.meth (.getL (v:=.ref 6) l1 ⟨okK A3.K.h (by rfl),.cons (.getL (v:=.int g) l6 (.nil (.callM ((literal_ws (tops:=tops) A3.K.c A3.K.ok A3.K.h A3.K.hc A3.K.iv (A3.fr.mono (by decide)) A3.K.pe (by exact(Ys lc (nle 400 500 rfl))) A3.K.wa hg).mono ?_))))⟩)))
   rintro _ τ2 ⟨d',x,rfl,f,k,iv,ext,wa,pe,op,li,all,F,fr,le⟩
   have A':=lit_ast A3 hm f k iv ext wa pe op li all le
   have h14:=(f 14 (by decide)).trans A3.ha
   obtain⟨q,q1,q2⟩:=li
   obtain⟨q3,q4⟩:=iv.num _ _ q1
   have q5:=lit_abs q2
   have q6:=(iv.bounds A3.K.c).2.1
   refine .seq (.expr (.meth (.op2 (.getL (v:=.ref 103) l4 (.pure (W.itemS (u:=.ref 14) ((f 103 (by decide)).trans A3.st) (by rfl) ⟨isLst_ref h14,.cons (.tup (.cons (.getL (v:=.int g) l6 (.cons (.getL (v:=.int x) rfl (.nil (.mkTup rfl (show 2≤lim by decide) (.nil (W.app h14 rfl (by have:=A3.cnt;rw [X4];lia) ?_)))))))))⟩))))))
   refine .seq (.ite (.or1 (.tcmp (.meth (.getL (v:=.ref 6) l1 ⟨okK A'.K.h (by rfl),.cons (.call (.cons (.getL (v:=.int x) rfl (.nil (W.abs (.nil (.callM ((gateof_ws (n:=x.natAbs) (g:=(g.natAbs:Int)) A'.K.h (A'.fr.mono (by decide)) (by exact(Ys q6 (nle 20 1000 rfl))) (by rw [q5];exact q4)).mono ?_))))))))⟩)))))
   rintro _ _ ⟨rfl,rfl⟩
   refine .call (.cons (.getL (v:=.int g) l6 (.nil (W.abs (W.eqI (.asBool ⟨fun w=>?_,fun _=>.or1 (.tcmp (.op2 (.getL (v:=.int x) rfl (.pure (W.gt (.op2 (.getL (v:=.int g) l6 (.pure (W.gt (W.eqB (.asBool ⟨fun w=>?_,fun _=>.or0 ⟨nofun,fun _=>.end (.end ⟨rfl,l1,l2,l4,l5,l6,rfl,rfl,d',_,_,ext,A',nofun,fun _=>⟨F,fr,le⟩⟩)⟩⟩)))))))))))⟩))))))
   ·rw [decide_eq_true rfl] at w;cases w
   ·have:decide (0<x)=decide (0<g):=by rw [decide_eq_decide,q2];split<;>lia
    rw [this,beq_self_eq_true] at w;cases w
 clear A3 l1 l2 l4 l5 l6 lc
 rintro _ ⟨loc,τ4⟩ ⟨rfl,l1,l2,l4,l5,l6,l7,l8,d',tops',asked',ext,A,top,lit⟩
 dsimp only at l1 l2 l4 l5 l6 l7 l8 A
 have lc:=A.K.lc
 have cl:d.cs.length≤d'.cs.length:=ext.cs.length_le
 obtain⟨b1,b2,b3,b4⟩:=A.K.iv.bounds A.K.c
 have le7 : ∀ {loc:Nat→Option V} {τ:Hp},lenOf (.lst (d.cs.map tupI)) ⟨loc,τ⟩=some d.cs.length:=by intro _ _;rw [len_lst lst_at,X4]
 have lem:(d'.cs.map tupI).length≤lim:=by rw [X4];exact(Yw (Yt (Yr lc (nlt 400 1000 rfl)) l1000))
 refine .seq (.assignSwap (.cons (.op2 (.op1 (.getL (v:=.ref 6) l1 (W.kClauses A.K.h (.call (.cons (.getL l7 (.nil (W.len le7 (by exact(Yw (Yt (Yr (Ys cl lc) (nlt 400 1000 rfl)) l1000))) (W.from (ref_at A.K.h.cs) (Int.natCast_nonneg _) lem (tups_low _) (.cons (gates_w A.K.c A.K.h A.K.iv (A.fr.mono (by decide)) l1 (by decide) fun s' e1 e2=>.nil ⟨show 2≤100 by decide,.sets1 (.sets1 (.sets0 ?_))⟩))))))))))))))
 rw [Int.toNat_natCast,←List.map_drop]
 have l1:=(e2 1 (by decide)).trans l1
 have l2:=(e2 2 (by decide)).trans l2
 have l4:=(e2 4 (by decide)).trans l4
 have l5:=(e2 5 (by decide)).trans l5
 have l6:=(e2 6 (by decide)).trans l6
 have l7:=(e2 7 (by decide)).trans l7
 have l8:=(e2 8 (by decide)).trans l8
 have e1:s'.hp=τ4:=e1
 obtain⟨loc5,τ5⟩:=s'
 dsimp only at e1 l1 l2 l4 l5 l6 l7 l8
 subst e1
 clear e2
 have pr:=nuk_pre iv0 A.K.iv ext
 have nl:(nuK d').length=d'.nu.length:=X4 ..
 have nl0:=pr.length_le
 have lm:((nuK d').map V.int).length≤lim:=by rw [X4];exact(Yw (Yt (Yr (Ys (Yz nl) b1) (nlt 19 1000 rfl)) l1000))
 refine .seq (.ite (.or1 (.tcmp (.op2 (.op1 (.getL (v:=.ref 6) l1 (W.kClauses A.K.h (.call (.cons (.getL l7 (.nil (W.len le7 (by exact(Yw (Yt (Yr (Ys cl lc) (nlt 400 1000 rfl)) l1000))) (W.upto (ref_at A.K.h.cs) (Int.natCast_nonneg _) lem (tups_low _) ?_)))))))))))))
 rw [Int.toNat_natCast,←List.map_take,pre_take ext.cs]
 refine .getL l7 (W.eqTs (.asBool ⟨fun w=>?_,fun _=>.or1 (.tcmp (.op2 (.getL (v:=.lst ((nuK d').map .int)) rfl (.call (.cons (.getL l8 (.nil (W.len (n:=(nuK d).length) len_lm (by lia) (W.upto lst_at (Int.natCast_nonneg _) lm (Yd _) ?_)))))))))⟩))
 ·rw [decide_eq_true rfl] at w;cases w
 rw [Int.toNat_natCast,←List.map_take,pre_take pr]
 refine .getL l8 (W.eqL (.asBool ⟨fun w=>?_,fun _=>.or1 (.tcmp (.bind (.getL (v:=.lst ((nuK d').map .int)) rfl (W.lenSetI A.K.iv.nd (by exact(Ys (Ys (Yz nl) b1) (nle 19 300 rfl))) (.call (.cons (.getL (v:=.lst ((nuK d').map .int)) rfl (.nil (W.len (n:=(nuK d').length) len_lm (by exact(Yw (Yt (Yr (Ys (Yz nl) b1) (nlt 19 1000 rfl)) l1000))) (W.eqI (.asBool ⟨fun w=>?_,fun _=>.or0 ⟨nofun,fun _=>.end ?_⟩⟩)))))))))))⟩))
 ·rw [decide_eq_true rfl] at w;cases w
 ·rw [decide_eq_true rfl] at w;cases w
 refine .seq (.ite (.truth (.getL l5 (.asBool ⟨fun hb=>?_,fun hb=>.end ?_⟩))))
 ·have fin : ∀ loc,Qk.fn 120 (DedR gs kn kvs xs al (n+3) pool (m+1)) (.ret (.bool true)) ⟨loc,τ5⟩:=fun loc=>⟨_,_,rfl,Zi fun _=>V.noConfusion,rfl,d',tops',asked',told,by rw [show cut 120 _=τ5 from cut_free A.fr];exact A⟩
  have hx:gs[g.natAbs]?=some gs[g.natAbs]:=X3 hg.2
  generalize gs[g.natAbs]=x at hx
  refine .seq (.ret (.bOr (.op2 (.meth (.getL (v:=.ref 1) l2 ⟨okC A.K.hc (by rfl),.cons (.getL (v:=.int g) l6 (.nil (.callM ((kind_ws (g:=g) (x:=x) A.K.hc hx (by have:=A.K.c;lia) (A.fr.mono (by decide))).mono ?_))))⟩)))))
  rintro _ _ ⟨rfl,rfl⟩
  refine .pure (W.eqS (Zq x) (Zq (.and [])) ⟨_,rfl,fun _=>fin _,fun w=>.bOr (.op2 (.call (.cons (.getL (v:=.int g) l6 (.nil (W.abs (.getL l8 (W.inL ⟨_,rfl,fun _=>fin _,fun w2=>.op2 (.call (.cons (.getL (v:=.int g) l6 (.nil (W.abs (.getL (v:=.lst ((nuK d').map .int)) rfl (W.inL ?_)))))))⟩))))))))⟩)
  have w:(x.kind==(G.and []).kind)=true:=xor_f w
  obtain⟨ps,rfl⟩ : ∃ ps,x = .and ps:=by rcases G.kind_eq (y:=.and []) w with q|⟨ps,_,q,_⟩<;>exact⟨_,q⟩
  have w2:(g.natAbs:Int)∉nuK d:=by simpa using w2
  rw [decide_eq_false fun q=>w2 (top hb ps hx q)]
  exact fin _
 obtain⟨F,fr,le⟩:=lit hb
 have ed:d'.cs.drop d.cs.length=F:=by rw [fr.eq,List.drop_left]
 have fl:F.length≤400:=by have:=congrArg List.length fr.eq;rw [X6] at this;lia
 rw [ed]
 have sl:(several F).length≤F.length:=List.length_filter_le _ _
 have T':=A0.add iv0 A.K.iv ext fr le
 have tle:=T'.le
 rw [X6] at tle
 refine .seq (.assign (W.filt (RS:=F) (emb:=tupI) (e:=tupI) (p:=fun c=>decide (1<c.length)) (v:=.lst (F.map tupI)) (.getL rfl ⟨rfl,rfl⟩) rfl (fun _ _=>Yl) (fun c hc s' e1 e2 e3=>?_) (fun _ _ _ _ _ _ e3=>.getL e3 ⟨rfl,rfl⟩) (fun _ _=>rfl) (by exact(Yt (Yr fl (nlt 400 1000 rfl)) l1000)) fun s' e1 e2=>?_))
 ·have c5:=(A.K.iv.row c (by rw [fr.eq];exact Xh _ hc)).1.2
  exact .tcmp (.call (.cons (.getL e3 (.nil (W.len (n:=c.length) (by rw [show tupI c = .tup (c.map .int) from rfl,len_tup,X4]) (by exact(Yw (Yt (Yr c5 (nlt 5 1000 rfl)) l1000))) (.pure (W.gt (.asBool ⟨by rw [decide_eq_decide];lia,rfl⟩))))))))
 have l1:=(e2 1 (by decide)).trans l1
 have l4:=(e2 4 (by decide)).trans l4
 have l10:s'.loc 10=some (.lst (F.map tupI)):=(e2 10 (by decide)).trans rfl
 have l11:s'.loc 11=some (.lst ((nuK d').map .int)):=(e2 11 (by decide)).trans rfl
 have e1:s'.hp=τ5:=e1
 obtain⟨loc6,τ6⟩:=s'
 dsimp only at e1 l1 l4 l10 l11
 subst e1
 clear e2 l5 l6 l7 l8 l2
 rw [show F.filter (fun c=>decide (1<c.length))=several F from rfl]
 refine .seq (.assignSub (.op2 (.op2 (.getL (v:=.ref 103) l4 (.pure (W.itemS (u:=.lst (told.map tupI)) A.st (by rfl) (.getL (v:=.lst ((several F).map tupI)) rfl (W.addL (un_none fun _=>V.noConfusion) lst_at lst_at (by rw [←Xc];exact tups_low _) (by rw [X6,X4,X4];lia) (.getL (v:=.ref 103) l4 (.pure (W.setS A.st rfl (show 3<lim by decide) ?_)))))))))))
 rw [←Xc,sto_set]
 have st6 : ∀ loc:Nat→Option V,(⟨loc,upd τ6 103 (some (.sdict (stO (told++several F))))⟩:St).hp 103=some (.sdict (stO (told++several F))):=fun _=>show upd τ6 103 _ 103=_ from Zc _ _ _
 have nd:=T'.nd
 have ll : ∀ {s:St},lenOf (.lst ((told++several F).map tupI)) s=some (told++several F).length:=by intro _;rw [len_lst lst_at,X4]
 have tl:(told++several F).length≤152:=by rw [X6];lia
 have fin : ∀ loc,Qk.fn 120 (DedR gs kn kvs xs al (n+3) pool (m+1)) (.ret (.bool true)) ⟨loc,upd τ6 103 (some (.sdict (stO (told++several F))))⟩:=fun loc=>by
  have f6 : ∀ i,i≠103→upd τ6 103 (some (.sdict (stO (told++several F)))) i=τ6 i:=fun i q=>upd_ne _ _ q
  have A':Ast gs kn kvs d' tops' asked' (told++several F) xs al (n+3) pool (m+1) (upd τ6 103 (some (.sdict (stO (told++several F))))) :=
   {A with K:=A.K.at fun i q=>f6 i (by lia),D:=⟨by obtain⟨k,k0,k1,k2⟩:=A.D.cup;exact⟨k,k0,k1,(f6 _ (by decide)).trans k2⟩,(f6 _ (by decide)).trans A.D.poo,A.D.xl,A.D.nl,A.D.p0,A.D.pl⟩,st:=Zc _ _ _,ht:=(f6 _ (by decide)).trans A.ht,ha:=(f6 _ (by decide)).trans A.ha,T:=T',fr:=A.fr.upd (by decide)}
  exact⟨_,_,rfl,Zi fun _=>V.noConfusion,rfl,d',tops',asked',_,by rw [show cut 120 _=upd τ6 103 _ from cut_free A'.fr];exact A'⟩
 refine .seq (.ret (.bAnd (.op2 (.bind (.op2 (.getL (v:=.ref 103) l4 (.pure (W.itemS (u:=.lst ((told++several F).map tupI)) (st6 _) (by rfl) (W.lenSetT nd (by exact(Ys tl (nle 152 300 rfl))) (.call (.cons (.op2 (.getL (v:=.ref 103) l4 (.pure (W.itemS (u:=.lst ((told++several F).map tupI)) (st6 _) (by rfl) (.nil (W.len ll (by exact(Yw (Yt (Yr tl (nlt 152 1000 rfl)) l1000))) (W.eqI ⟨by rw [decide_eq_true rfl];rfl,.bOr (.op2 (.call (.cons (.getL (v:=.lst ((several F).map tupI)) rfl (.nil (W.len (n:=(several F).length) len_lm (by exact(Yw (Yt (Yr (Ys sl fl) (nlt 400 1000 rfl)) l1000))) (.call (.cons (.getL (v:=.lst (F.map tupI)) l10 (.nil (W.len (n:=F.length) len_lm (by exact(Yw (Yt (Yr fl (nlt 400 1000 rfl)) l1000))) (W.eqI ⟨_,rfl,fun _=>?_,fun w=>?_⟩))))))))))))⟩))))))))))))))))))
 ·exact fin _
 ·rw [W3] at w
  have hne:(several F).length≠F.length:=fun q=>by rw [q,decide_eq_true rfl] at w;cases w
  have h1:(1:Int)∈nuK d':=Xr fun q=>hne (by rw [show several F=F from List.filter_eq_self.mpr fun c hc=>Xr fun q2=>q (fr.short c hc fun q3=>q2 (decide_eq_true q3))])
  refine .op2 (.pure (.getL (v:=.lst ((nuK d').map .int)) l11 (W.inL ?_)))
  rw [decide_eq_true h1]
  exact fin _
end L03
end Lay
namespace Lay
theorem Wp.newM{n d:Nat}{Cl:Addr}{fm:FM}{vs:List V}{s:St}{Q:V→St→Prop}(h1:s.hp d=none)(h2:upd s.hp d (some (.attrs [])) n=none)(h:Ws fm (.ref n::vs) (upd (upd s.hp d (some (.attrs []))) n (some (.inst Cl d))) (fun r σ'=>r = .none∧Q (.ref n) {s with hp:=σ'})):Wp (newM n d Cl fm vs) s Q:=by
 obtain⟨_,σ',h3,rfl,h4⟩:=h
 exact⟨_,_,R.bind (R.new h1) (R.bind (R.new h2) (R.bind (R.callM h3) (R.bind (R.guard (b:=true) rfl) R.pure))),h4⟩
theorem W.mkDict{K:Type} [DecidableEq K]{key:V→Option K}{mk:List (K×V)→O}{n:Nat}{vs:List (V×V)}{kvs:List (K×V)}{s:St}{Q:V→St→Prop}(h:pairsOf key vs=some kvs)(hn:s.hp n=none)(k:Q (.ref n) {s with hp:=upd s.hp n (some (mk (foldSet kvs)))}):Wp (mkDict key mk n vs) s Q :=
 ⟨_,_,bs h (R.new hn),k⟩
theorem pairs_cons{K:Type}{key:V→Option K}{k v:V}{x:K}{r:List (V×V)}{r':List (K×V)}(h1:key k=some x)(h2:v.low=true)(h3:pairsOf key r=some r'):pairsOf key ((k,v)::r)=some ((x,v)::r'):=bs h1 ((if_pos h2).trans (bs h3 rfl))
theorem Wp.dictI{n:Nat}{m:M (List (V×V))}{s:St}{Q:V→St→Prop}(h:Wp m s (fun vs s1=>Wp (mkDict intKey .idict n vs) s1 Q)):Wp (X.dictI n m) s Q:=.bind h
open Classical in
theorem forZ_run{v1:V}{xs ys:List V}{bind:V→M Unit}{body:M Fl}{s:St}{Q:Fl→St→Prop}(I:Nat→St→Prop)(h0:I 0 s)(hit : ∀ i s,I i s→lView v1 s=some xs)(hl:xs.length≤ys.length)
  (step : ∀ i s x,I i s→(List.zipWith (fun a b=>V.tup [a,b]) xs ys)[i]?=some x→Wp (bind x) s (Qk.then body (Qk.loop (I (i+1)) Q)))
  (last : ∀ s,I xs.length s→Q .next s):Wp (M.forZ v1 (.tup ys) bind body) s Q:=by
 have zl:(List.zipWith (fun a b=>V.tup [a,b]) xs ys).length=xs.length:=by rw [List.length_zipWith];lia
 rcases forN_ret (items:=fun s'=>if lView v1 s'=some xs then some (List.zipWith (fun a b=>V.tup [a,b]) xs ys) else none) (bind:=bind) (body:=body) I (fun v s=>Q (.ret v) s) (fun i s q=>if_pos (hit i s q)) (fun i s x hi hx=>by
  obtain⟨_,s1,h1,f,s2,h2,h3⟩:=step i s x hi hx
  refine⟨s1,s2,f,h1,h2,?_⟩
  cases f with
  |next=>exact .inl ⟨.inl rfl,h3⟩
  |cont=>exact .inl ⟨.inr rfl,h3⟩
  |brk=>exact h3.elim
  |ret v=>exact .inr ⟨v,rfl,h3⟩) (xs.length+1) 0 s (by lia) h0 (Yx _) with⟨s',h1,h2⟩|⟨v',s',h1,h2⟩
 ·exact⟨_,_,bs (hit 0 s h0) (bs un_tup ((if_pos hl).trans h1)),last _ (zl▸h2)⟩
 ·exact⟨_,_,bs (hit 0 s h0) (bs un_tup ((if_pos hl).trans h1)),h2⟩
theorem Wp.forZip{B:Nat}{m1 m2:M V}{i j:Nat}{mb:M Fl}{s:St}{Q:Fl→St→Prop}(h:Wp m1 s (fun v1 s1=>Wp m2 s1 (fun v2 s2=>v1.stays B=true∧Wp (M.forZ v1 v2 (M.unpack [i,j]) mb) s2 Q))):Wp (Y.forZip B m1 m2 i j mb) s Q :=
 .bind (h.mono fun _ _ h=>.bind (h.mono fun _ _ h=>.bind (.guard h.1 h.2)))
theorem atH{P:Hp→Prop}{σ:Hp}(Q:Hp→Prop)(h:Q σ)(k : ∀ σ,Q σ→P σ):P σ:=k σ h
namespace L03
variable{σ:Hp}
theorem cinit_ws(h1:σ 1=some (.inst 222 2))(h2:σ 2=some (.attrs []))(h3 : ∀ n,3≤n→n≤5→σ n=none)(hn:Free 560 σ) :
  Ws (runF 560 1 m_Circuit_init__) [.ref 1] σ (fun u σ'=>u = .none∧CircAt [.non,.tru] [] σ'∧∀ n,5<n→σ' n=σ n):=by
 refine Ws.fn rfl ?_
 unfold m_Circuit_init__
 refine .seq (.assignAttr (.list (.cons (.pure (.cons (.pure (.nil (.mkLstS rfl (show 2≤lim by decide) (h3 3 (by decide) (by decide)) (.getL (v:=.ref 1) rfl (W.setA (d:=2) h1 h2 rfl (by decide) ?_))))))))))
 rw [kvSet_new (by simp)]
 refine .seq (.assignAttr (.list (.cons (.tup (.nil (.mkTup rfl (Yx _) (.cons (.tup (.nil (.mkTup rfl (Yx _) (.nil (.mkLstS rfl (show 2≤lim by decide) (h3 4 (by decide) (by decide)) (.getL (v:=.ref 1) rfl (W.setA (d:=2) h1 rfl rfl (show 1<1000 by decide) ?_))))))))))))))
 rw [kvSet_new (by simp only [List.nil_append,Xb,List.map_nil];decide)]
 refine .seq (.assignAttr (.new (h3 5 (by decide) (by decide)) (.getL (v:=.ref 1) rfl (W.setA (d:=2) h1 rfl rfl (show 2<1000 by decide) ?_))))
 rw [kvSet_new (by simp only [List.nil_append,List.cons_append,Xb,List.map_nil];decide)]
 refine .end ⟨_,_,rfl,Zi fun _=>V.noConfusion,rfl,?_⟩
 refine atH (P:=fun τ=>CircAt [.non,.tru] [] (cut 560 τ)∧∀ n,5<n→cut 560 τ n=σ n) (fun τ=>CircAt [.non,.tru] [] τ∧∀ n,5<n→τ n=σ n) ⟨⟨h1,rfl,rfl,rfl,rfl⟩,fun n q=>?_⟩ fun τ h=>?_
 ·simp only [upd_ne _ _ (show n≠2 by exact(Yv (Yt (nlt 2 5 rfl) q))),upd_ne _ _ (show n≠3 by exact(Yv (Yt (nlt 3 5 rfl) q))),upd_ne _ _ (show n≠4 by exact(Yv (Yt (nlt 4 5 rfl) q))),upd_ne _ _ (show n≠5 by exact(Yv q))]
 ·rw [cut_free fun n q=>(h.2 n (by exact(Yq (nlt 5 560 rfl) q))).trans (hn n q)];exact h
end L03
end Lay
namespace Lay
namespace L03
variable{gs t:List G}{tops:List Int}{d:Cl}{kn kn':List (List Int×V)}{σ τ:Hp}{kvs kvs':List (Int×V)}{asked:List (Int×Int)}{told:List (List Int)}{xs pool:List Int}{al g:Int}{n m:Nat}
noncomputable def base(k:Nat):List G:=.non :: .tru::List.replicate k .inp
theorem base_ok:COk (base 3) []:=by
 refine⟨by decide,fun i x h=>?_,(fun _ _ q=>nomatch q),Yx _⟩
 have hl:=(X5.mp h).1
 have:i=0∨i=1∨i=2∨i=3∨i=4:=by
  have:(base 3).length=5:=rfl
  lia
 rcases this with rfl|rfl|rfl|rfl|rfl<;>obtain rfl:=Xm h
 ·exact .non rfl
 ·exact .tru rfl
 ·exact .inp (by decide) (by decide)
 ·exact .inp (by decide) (by decide)
 ·exact .inp (by decide) (by decide)
noncomputable def mk3:List (Int×V) := [(1,.int 255),(2,.int 170),(3,.int 204),(4,.int 240)]
theorem mk3_ok:MkOk (base 3) 4 mk3:=by
 refine⟨rfl,fun i h1 h2=>?_⟩
 have:i=1∨i=2∨i=3∨i=4:=by lia
 rcases this with rfl|rfl|rfl|rfl
 ·exact⟨255,rfl,msk_all.iff fun r _=>iff_of_true trivial (val_tru base_ok _)⟩
 ·exact⟨170,rfl,(msk_in (i:=2) (.inl ⟨rfl,rfl⟩)).iff fun r _=>by rw [val_inp (row r) (gs:=base 3) (i:=2) rfl]⟩
 ·exact⟨204,rfl,(msk_in (i:=3) (.inr (.inl ⟨rfl,rfl⟩))).iff fun r _=>by rw [val_inp (row r) (gs:=base 3) (i:=3) rfl]⟩
 ·exact⟨240,rfl,(msk_in (i:=4) (.inr (.inr ⟨rfl,rfl⟩))).iff fun r _=>by rw [val_inp (row r) (gs:=base 3) (i:=4) rfl]⟩
inductive InpI(s:St)(i:Nat)(acc:List V)(s':St):Prop
 |mk (f:Fr5 s.hp s'.hp) (l : ∀ k,k≠24→s'.loc k=s.loc k) (c:CircAt (base i) [] s'.hp) (e:acc=(List.range i).map fun(j:Nat)=>V.int (2+j))
theorem inputs_w{s:St}{Q:V→St→Prop}(l3:s.loc 3=some (.ref 1))(hc:CircAt (base 0) [] s.hp)(hn:Free 120 s.hp)(h15:s.hp 15=none)(k : ∀ s':St,Fr5 s.hp s'.hp→(∀ k,k≠24→s'.loc k=s.loc k)→CircAt (base 3) [] s'.hp→Q (.ref 15) {s' with hp:=upd s'.hp 15 (some (.list ([2,3,4].map V.int)))}) :
  Wp (X.comp (some 15) 120 24 (X.call bRange (X.cons (pure (.int 3)) X.nil)) (X.and0) (X.meth (instOk 222 (Xx "new_input")) (callM (runF 460 1 m_Circuit_new_input)) (M.getL 3) X.nil)) s Q:=by
 have l1000:1000<lim:=by decide
 refine .comp (.call (.cons (.pure (.nil (W.range1 ⟨rfl,.compM (xs:=_) (InpI s) ⟨Fr5.refl _,fun _ _=>rfl,hc,rfl⟩ (fun i acc s _=>Yh (by decide) (by decide)) ?_ ?_⟩)))))
 ·rintro i acc s' x ⟨f,l,c,rfl⟩ hx
  obtain⟨_,hi⟩:=rng_get hx
  have bl:(base i).length=2+i:=by unfold base;simp;lia
  refine .and0 ⟨nofun,fun _=>.meth (.getL (v:=.ref 1) ((l 3 (by decide)).trans l3) ⟨okC c (by rfl),.nil (.callM ((input_ws c (by lia) ((f.free hn (by decide)).mono (by decide))).mono ?_))⟩)⟩
  rintro _ τ ⟨rfl,c2,f2⟩
  refine⟨rfl,by rw [X4,List.length_range];lia,f.trans f2,fun k hk=>?_,?_,?_⟩
  ·show upd _ _ _ _=_
   rw [upd_ne _ _ hk];exact l k hk
  ·have:base (i+1)=base i ++ [.inp]:=by unfold base;rw [List.replicate_succ'];rfl
   rw [this];exact c2
  ·rw [bl,List.range_succ,Xc];rfl
 ·rintro acc s' ⟨f,l,c,rfl⟩
  refine .mkLstS rfl (show 3≤lim by decide) ((f _ (by decide) (by decide) (by decide)).trans h15) (k ⟨upd s'.loc 24 none,s'.hp⟩ f (fun k hk=>?_) c)
  show upd _ _ _ _=_
  rw [upd_ne _ _ hk];exact l k hk
inductive ZpI(s:St)(i:Nat)(s':St):Prop
 |mk (l : ∀ k,k≠8→k≠9→s'.loc k=s.loc k) (f:FrM s.hp s'.hp) (m:s'.hp 101=some (.idict (mk3.take (i+1))))
theorem zip_w{s:St}{Q:Fl→St→Prop}(l5:s.loc 5=some (.ref 101))(l7:s.loc 7=some (.ref 15))(h101:s.hp 101=some (.idict [(1,.int 255)]))(h15:s.hp 15=some (.list ([2,3,4].map V.int)))(k : ∀ s':St,(∀ k,k≠8→k≠9→s'.loc k=s.loc k)→FrM s.hp s'.hp→s'.hp 101=some (.idict mk3)→Q .next s') :
  Wp (Y.forZip 100 (M.getL 7) (X.tup (X.cons (pure (.int 170)) (X.cons (pure (.int 204)) (X.cons (pure (.int 240)) X.nil)))) 8 9 (M.seq (Y.assignSub (M.getL 9) (M.getL 5) (M.getL 8))
 (Y.end))) s Q:=by
 have l1000:1000<lim:=by decide
 refine .forZip (.getL l7 (.tup (.cons (.pure (.cons (.pure (.cons (.pure (.nil (.mkTup rfl (show 3≤lim by decide) ⟨rfl,forZ_run (xs := [2,3,4].map V.int) (ys := [.int 170,.int 204,.int 240]) (ZpI s) ⟨fun _ _ _=>rfl,fun _ _=>rfl,h101⟩ (fun i s' q=>?_) (by decide) ?_ ?_⟩))))))))))
 ·obtain⟨_,f,_⟩:=q
  exact ref_at ((f _ (by decide)).trans h15)
 ·rintro i s' x ⟨l,f,m⟩ hx
  have hl:=(X5.mp hx).1
  have : ∃ a b:Int,x = .tup [.int a,.int b]∧kvSet (mk3.take (i+1)) a (.int b)=mk3.take (i+1+1)∧(mk3.take (i+1)).length<100:=by
   have:i=0∨i=1∨i=2:=by
    have:(List.zipWith (fun a b=>V.tup [a,b]) ([2,3,4].map V.int) [V.int 170,V.int 204,V.int 240]).length=3:=rfl
    lia
   rcases this with rfl|rfl|rfl
   ·exact⟨2,170,(Xm hx).symm,rfl,by decide⟩
   ·exact⟨3,204,(Xm hx).symm,rfl,by decide⟩
   ·exact⟨4,240,(Xm hx).symm,rfl,by decide⟩
  obtain⟨a,b,rfl,e,ml⟩:=this
  refine Wp.mono (Q:=fun _ s1=>s1=⟨upd (upd s'.loc 8 (some (.int a))) 9 (some (.int b)),s'.hp⟩) (show Wp (M.sets [8,9] [V.int a,V.int b]) _ _ from .sets1 (.sets1 (.sets0 rfl))) ?_
  rintro _ _ rfl
  refine .seq (.assignSub (.getL (v:=.int b) rfl (.getL (v:=.ref 101) ((l 5 (by decide) (by decide)).trans l5) (.getL (v:=.int a) rfl (W.setD m rfl (by exact(Yt (Yt ml (nlt 100 1000 rfl)) l1000)) (.end ⟨fun k q1 q2=>?_,fun j q=>?_,by rw [←e];exact(show upd s'.hp 101 _ 101=_ from Zc _ _ _)⟩))))))
  ·show upd (upd _ _ _) _ _ _=_
   rw [upd_ne _ _ q2,upd_ne _ _ q1];exact l k q1 q2
  ·show upd _ _ _ _=_
   rw [upd_ne _ _ q];exact f j q
 ·rintro s' ⟨l,f,m⟩
  exact k s' l f m
structure Gst(gs:List G)(kn:List (List Int×V))(kvs:List (Int×V))(xs:List Int)(al:Int)(n:Nat)(pool:List Int)(σ:Hp):Prop where
 ok:COk gs kn
 hc:CircAt gs kn σ
 hm:σ 101=some (.idict kvs)
 mo:MkOk gs (gs.length-1) kvs
 D:Drw xs al n pool σ
 hp : ∀ p∈pool,In gs p
 fr : ∀ m,5<m→m≠15→m≠100→m≠101→σ m=none
theorem Gst.gate(S:Gst gs kn kvs xs al n pool σ)(h:GtR gs xs al n pool σ τ) : ∃ t kn' kvs' g,t.length≤3∧Gst (gs++t) kn' kvs' xs al (n+12) (pool ++ [g]) τ:=by
 obtain⟨t,kn',g,kvs',ok,hc,ht,hm,mo,d,hg,fr⟩:=h
 refine⟨t,kn',kvs',g,ht,ok,hc,hm,mo,d,fun p hp=>?_,fun m q1 q2 q3 q4=>(fr m q1 q2 q3 q4).trans (S.fr m q1 q2 q3 q4)⟩
 rcases X9.mp hp with q|q
 ·exact(S.hp p q).app
 ·rw [X7.mp q];exact hg
theorem Done.app{s:Int}(iv:Inv gs tops d)(hs:s∈opK d)(h:Done gs d s):Done (gs++t) d s:=fun x hx=>h x (by
 obtain⟨h1,h2⟩:=iv.opk s hs
 have:=iv.key _ h2
 rwa [Xj (by lia)] at hx)
theorem Ast.gate(A:Ast gs kn kvs d tops asked told xs al n pool m σ)(h:GtR gs xs al n pool σ τ)(hl:gs.length≤17) : ∃ t kn' kvs' g,t.length≤3∧Ast (gs++t) kn' kvs' d tops asked told xs al (n+12) (pool ++ [g]) m τ:=by
 obtain⟨t,kn',g,kvs',ok,hc,ht,hm,mo,D,hg,fr⟩:=h
 have f : ∀ i,5<i→i<15∨101<i→τ i=σ i:=fun i q1 q2=>fr i q1 (by lia) (by lia) (by lia)
 refine⟨t,kn',kvs',g,ht,⟨by rw [X6];lia,ok,hc,hm,mo,A.K.h.mono fun i q1 q2=>f i (by exact(Yq (nlt 5 6 rfl) q1)) (by lia),A.K.iv.app t,A.K.wa,fun s q=>(A.K.pe s q).app A.K.iv q.1,A.K.inp,fun t ht=>⟨(A.K.tp t ht).1.app,(A.K.tp t ht).2.app⟩,A.K.lc⟩,D,fun p hp=>?_,(f _ (by decide) (by decide)).trans A.st,(f _ (by decide) (by decide)).trans A.ht,(f _ (by decide) (by decide)).trans A.ha,A.A,A.T,A.lc,A.cnt,A.m4,fun i q=>(f i (by exact(Yq (nlt 5 120 rfl) q)) (by lia)).trans (A.fr i q)⟩
 rcases X9.mp hp with q|q
 ·exact(A.hp p q).app
 ·rw [X7.mp q];exact hg
theorem Ast.zero{w:Int}(S:Gst gs kn kvs xs al n pool σ)(c:gs.length≤20)(e : ∀ i,i<6∨(14<i∧i≠103)→τ i=σ i)(h:ClsAt (Cin w 3) τ)(h13:τ 13=some (.list []))(h14:τ 14=some (.list []))(h103:τ 103=some (.sdict (stO []))):Ast gs kn kvs (Cin w 3) [] [] [] xs al n pool 0 τ:=by
 have fr:Free 120 τ:=fun i q=>(e i (.inr ⟨by exact(Yq (nlt 14 120 rfl) q),by exact(Yv (Yq (nlt 103 120 rfl) q))⟩)).trans (S.fr i (by exact(Yq (nlt 5 120 rfl) q)) (by exact(Yv (Yq (nlt 15 120 rfl) q))) (by exact(Yv (Yq (nlt 100 120 rfl) q))) (by exact(Yv (Yq (nlt 101 120 rfl) q))))
 refine⟨⟨c,S.ok,S.hc.mono fun i q=>e i (.inl (by exact(Yr q (nlt 5 6 rfl)))),(e _ (.inr (by decide))).trans S.hm,S.mo,h,inv_cin S.ok (Yy _),rfl,(fun s q=>nomatch q.1),⟨rfl,rfl,rfl⟩,(fun _ q=>nomatch q),Yx _⟩,⟨?_,(e _ (.inr (by decide))).trans S.D.poo,S.D.xl,S.D.nl,S.D.p0,S.D.pl⟩,S.hp,h103,h13,h14,(fun _ q=>nomatch q),⟨(fun _ q=>nomatch q),Xf,Yx _⟩,Yx _,Yx _,Yx _,fr⟩
 obtain⟨k,k0,k1,k2⟩:=S.D.cup
 exact⟨k,k0,k1,(e _ (.inr (by decide))).trans k2⟩
end L03
end Lay
namespace Lay
namespace L03
variable{gs t:List G}{tops:List Int}{d:Cl}{kn kn':List (List Int×V)}{σ τ:Hp}{kvs kvs':List (Int×V)}{asked:List (Int×Int)}{told:List (List Int)}{xs pool:List Int}{al g:Int}{n m:Nat}
structure Lc(w:Int)(s:St):Prop where
 l2:s.loc 2=some (.ref 100)
 l3:s.loc 3=some (.ref 1)
 l4:s.loc 4=some (.int w)
 l5:s.loc 5=some (.ref 101)
 l7:s.loc 7=some (.ref 15)
inductive GdI(xs:List Int)(al w:Int)(n0:Nat)(i:Nat)(s:St):Prop
 |mk (l:Lc w s) (gs:List G) (kn:List (List Int×V)) (kvs:List (Int×V)) (pool:List Int) (S:Gst gs kn kvs xs al (n0+12*i) pool s.hp) (gl:gs.length≤5+3*i) (pl:pool.length≤3+i)
structure Ld(s:St):Prop where
 l10:s.loc 10=some (.ref 6)
 l11:s.loc 11=some (.ref 103)
inductive DdI(xs:List Int)(al w:Int)(n0:Nat)(i:Nat)(s:St):Prop
 |mk (l:Lc w s) (l':Ld s) (gs:List G) (kn:List (List Int×V)) (kvs:List (Int×V)) (pool:List Int) (d:Cl) (tops:List Int) (asked:List (Int×Int)) (told:List (List Int)) (A:Ast gs kn kvs d tops asked told xs al (n0+15*i) pool i s.hp) (gl:gs.length≤if 2<i then 17 else 14) (pl:pool.length≤7+i)
theorem gate_call{w:Int}{s:St}{Q:Bool→St→Prop}(l:Lc w s)(hc:CircAt gs kn s.hp)(ok:COk gs kn)(hl:gs.length≤20)(hm:s.hp 101=some (.idict kvs))(mo:MkOk gs (gs.length-1) kvs)(D:Drw xs al n pool s.hp)(pl:pool.length≤39)(hp : ∀ p∈pool,In gs p)(hn:Free 160 s.hp)(hl2:n+12<2^39)
  (k : ∀ τ,GtR gs xs al n pool s.hp τ→Q false {s with hp:=τ}) :
  Wp (X.tnot (X.truth (X.call (callM (runF 160 4 m__law_gate)) (X.cons (M.getL 2) (X.cons (M.getL 3) (X.cons (M.getL 7) (X.cons (M.getL 5) X.nil))))))) s Q:=by
 refine .tnot (.truth (.call (.cons (.getL l.l2 (.cons (.getL l.l3 (.cons (.getL l.l7 (.cons (.getL l.l5 (.nil (.callM ((gate_ws hc ok (by exact(Ys hl (nle 20 800 rfl))) hm mo D pl hp hn hl2).mono ?_)))))))))))))
 rintro _ τ ⟨rfl,h⟩
 exact .asBool (k τ h)
theorem rows_w{w:Int}{s:St}{Q:Fl→St→Prop}(l:Lc w s)(l':Ld s)(A:Ast gs kn kvs d tops asked told xs al n pool m s.hp)(k : ∀ s':St,Lc w s'→Ld s'→s'.hp=s.hp→Q .next s') :
  Wp (Y.for 100 (X.call bRange (X.cons (pure (.int 8)) X.nil)) (fun v=>M.setL 12 v) (M.seq (Y.ite (X.tnot (X.truth (X.call (callM (runF 140 5 m__law_row_right)) (X.cons (M.getL 10) (X.cons (M.getL 5) (X.cons (M.getL 12) (X.cons (X.op2 vItem (M.getL 11) (pure (.str (Xx "tops")))) (X.cons (X.op2 vItem (M.getL 11) (pure (.str (Xx "asked")))) X.nil)))))))) (M.seq (Y.ret (pure (.bool false)))
 (Y.end)) (Y.end))
 (Y.end))) s Q:=by
 have cnt:=A.cnt
 have m4:=A.m4
 refine .for (.call (.cons (.pure (.nil (W.range1 ⟨rfl,.forS (xs:=_) (fun _ s'=>(Lc w s'∧Ld s')∧s'.hp=s.hp) ⟨⟨l,l'⟩,rfl⟩ (fun i s _=>Yh (by decide) (by decide)) ?_ fun s' h=>k s' h.1.1 h.1.2 h.2⟩)))))
 rintro i s' x ⟨⟨a,b⟩,e⟩ hx
 obtain⟨rfl,hi⟩:=rng_get hx
 rw [Int.zero_add]
 have st:s'.hp 103=_:=e▸A.st
 refine .setL (.seq (.ite (.tnot (.truth (.call (.cons (.getL b.l10 (.cons (.getL a.l5 (.cons (.getL (v:=.int (i:Nat)) rfl (.cons (.op2 (.getL b.l11 (.pure (W.itemS (u:=.ref 13) st (by rfl) (.cons (.op2 (.getL b.l11 (.pure (W.itemS (u:=.ref 14) st (by rfl) (.nil (.callM ((row_ws (r:=i) (e▸A.K) (by lia) (e▸A.ht) (e▸A.ha) A.A (by lia) (by lia) (e▸A.fr.mono (by decide))).mono ?_))))))))))))))))))))))))
 rintro _ _ ⟨rfl,rfl⟩
 exact .asBool ⟨nofun,fun _=>.end (.end ⟨⟨⟨a.l2,a.l3,a.l4,a.l5,a.l7⟩,⟨b.l10,b.l11⟩⟩,e⟩)⟩
end L03
end Lay
namespace Lay
namespace L03
variable{gs t:List G}{tops:List Int}{d:Cl}{kn kn':List (List Int×V)}{σ τ:Hp}{kvs kvs':List (Int×V)}{asked:List (Int×Int)}{told:List (List Int)}{xs pool:List Int}{al g:Int}{n m:Nat}
theorem Drw.weak{n':Nat}(D:Drw xs al n pool σ)(h:n≤n')(h':n'<2^39):Drw xs al n' pool σ:=⟨by obtain⟨k,k0,k1,k2⟩:=D.cup;exact⟨k,k0,by lia,k2⟩,D.poo,D.xl,h',D.p0,D.pl⟩
theorem Gst.sip(S:Gst gs kn kvs xs al n pool σ)(c:Cup xs al (n+1) τ)(f:FrC σ τ)(hl:n+1<2^39):Gst gs kn kvs xs al (n+1) pool τ :=
 ⟨S.ok,S.hc.mono fun i q=>f i (by exact(Yu (Yr q (nlt 5 100 rfl)))),(f _ (by decide)).trans S.hm,S.mo,⟨c,(f _ (by decide)).trans S.D.poo,S.D.xl,hl,S.D.p0,S.D.pl⟩,S.hp,fun m q1 q2 q3 q4=>(f m q3).trans (S.fr m q1 q2 q3 q4)⟩
inductive DdG(xs:List Int)(al w:Int)(n:Nat)(i:Nat)(d:Cl)(tops:List Int)(asked:List (Int×Int))(told:List (List Int))(f:Fl)(s:St):Prop
 |mk (e:f = .next) (l:Lc w s) (l':Ld s) (gs:List G) (kn:List (List Int×V)) (kvs:List (Int×V)) (pool:List Int) (A:Ast gs kn kvs d tops asked told xs al n pool i s.hp) (gl:gs.length≤if 2<i+1 then 17 else 14) (pl:pool.length≤8+i)
theorem deeds_w{w:Int}{n0 i:Nat}{s:St}{Q:Fl→St→Prop}(h:DdI xs al w n0 i s)(l6:s.loc 6=some (.int i))(hi:i<4)(hn:n0<200)(k : ∀ s',DdI xs al w n0 (i+1) s'→Q .next s') :
  Wp (M.seq (Y.ite ((X.and1 (X.tcmp (vEq false) (M.getL 6) (pure (.int 2))) (X.and1 (X.tnot (X.truth (X.call (callM (runF 160 4 m__law_gate)) (X.cons (M.getL 2) (X.cons (M.getL 3) (X.cons (M.getL 7) (X.cons (M.getL 5) X.nil))))))) X.and0))) (M.seq (Y.ret (pure (.bool false)))
 (Y.end)) (Y.end))
 (M.seq (Y.ite ((X.or1 (X.tnot (X.truth (X.call (callM (runF 120 5 m__law_deed_right)) (X.cons (M.getL 2) (X.cons (M.getL 10) (X.cons (M.getL 3) (X.cons (M.getL 7) (X.cons (M.getL 11) X.nil)))))))) (X.or1 (X.tnot (X.truth (X.call (callM (runF 660 1 m__law_are_plain)) (X.cons (X.op1 (getAC 112 (Xx "clauses")) (M.getL 10)) X.nil)))) X.or0))) (M.seq (Y.ret (pure (.bool false)))
 (Y.end)) (Y.end))
 (M.seq (Y.for 100 (X.call bRange (X.cons (pure (.int 8)) X.nil)) (fun v=>M.setL 12 v) (M.seq (Y.ite (X.tnot (X.truth (X.call (callM (runF 140 5 m__law_row_right)) (X.cons (M.getL 10) (X.cons (M.getL 5) (X.cons (M.getL 12) (X.cons (X.op2 vItem (M.getL 11) (pure (.str (Xx "tops")))) (X.cons (X.op2 vItem (M.getL 11) (pure (.str (Xx "asked")))) X.nil)))))))) (M.seq (Y.ret (pure (.bool false)))
 (Y.end)) (Y.end))
 (Y.end)))
 (Y.end)))) s Q:=by
 obtain⟨l,l',gs,kn,kvs,pool,d,tops,asked,told,A,gl,pl⟩:=h
 have g17:gs.length≤17:=Ys gl (by split<;>decide)
 refine .seq (Wp.mono (Q:=DdG xs al w (n0+15*i+12) i d tops asked told) ?_ ?_)
 ·refine .ite (.and1 (.tcmp (.getL l6 (.pure (W.eqI (.asBool ⟨fun hb=>?_,fun hb=>⟨nofun,fun _=>.end ⟨rfl,l,l',gs,kn,kvs,pool,{A with D:=A.D.weak (by lia) (by lia)},?_,by lia⟩⟩⟩))))))
  ·have i2:i=2:=by
    have:(i:Int)=2:=by simpa using hb
    lia
   refine .and1 (gate_call l A.K.hc A.K.ok A.K.c A.K.hm A.K.mo A.D (by lia) A.hp (A.fr.mono (by decide)) (by lia) fun τ hg=>⟨nofun,fun _=>⟨nofun,fun _=>.end ?_⟩⟩)
   obtain⟨t,kn',kvs',g,ht,A'⟩:=A.gate hg g17
   refine⟨rfl,⟨l.l2,l.l3,l.l4,l.l5,l.l7⟩,⟨l'.l10,l'.l11⟩,_,kn',kvs',_,A',?_,by rw [X6,List.length_singleton];lia⟩
   subst i2
   rw [if_neg (by decide)] at gl
   rw [if_pos (by decide),X6];lia
  ·have i2:i≠2:=fun e=>by subst e;cases hb
   refine Ys gl ?_
   by_cases q:2<i
   ·rw [if_pos q,if_pos (by lia)];exact Yy _
   ·rw [if_neg q,if_neg (by lia)];exact Yy _
 clear l l' A gl pl g17 kn kvs pool gs l6
 rintro _ s1 ⟨rfl,l,l',gs,kn,kvs,pool,A,gl,pl⟩
 refine .seq (.ite (.or1 (.tnot (.truth (.call (.cons (.getL l.l2 (.cons (.getL l'.l10 (.cons (.getL l.l3 (.cons (.getL l.l7 (.cons (.getL l'.l11 (.nil (.callM ((deed_ws A hi (by lia)).mono ?_))))))))))))))))))
 rintro _ τ ⟨rfl,d',tops',asked',told',A'⟩
 refine .asBool ⟨nofun,fun _=>.or1 (.tnot (.truth (.call (.cons (.op1 (.getL l'.l10 (W.kClauses A'.K.h (.nil (.callM ((plain_ws A'.K.h.cs (fun c hc=>(A'.K.iv.row c hc).1) (A'.fr.mono (by decide))).mono ?_))))))))))⟩
 rintro _ _ ⟨rfl,rfl⟩
 refine .asBool ⟨nofun,fun _=>.or0 ⟨nofun,fun _=>.end (.seq (rows_w (w:=w) ⟨l.l2,l.l3,l.l4,l.l5,l.l7⟩ ⟨l'.l10,l'.l11⟩ A' fun s' a b e=>.end (k s' ⟨a,b,gs,kn,kvs,pool,d',tops',asked',told',?_,gl,by lia⟩)))⟩⟩
 rw [e,show n0+15*(i+1)=n0+15*i+12+3 by lia];exact A'
end L03
end Lay
namespace Lay
namespace L03
theorem Cup.mono{xs:List Int}{al:Int}{n:Nat}{σ τ:Hp}(c:Cup xs al n σ)(h:τ 100=σ 100):Cup xs al n τ:=by obtain⟨k,k0,k1,k2⟩:=c;exact⟨k,k0,k1,h.trans k2⟩
theorem run_law(ys:List Int)(hys:ys.length≤63) : ∃ σ',runF 100 1 m_law [.lst (ys.map .int)] (fun _=>none)=some (.bool true,σ'):=by
 suffices h:Ws (runF 100 1 m_law) [.lst (ys.map .int)] (fun _=>none) (fun v _=>v = .bool true) by
  obtain⟨v,σ',h1,rfl⟩:=h;exact⟨σ',h1⟩
 have l1000:1000<lim:=by decide
 have hxl:(ys.take 60).length≤60:=by rw [List.length_take];lia
 refine Ws.fn rfl ?_
 unfold m_law
 refine .seq (.assign (W.filt (RS:=ys.take 60) (emb:=V.int) (e:=fun y=>V.int (y%5040)) (p:=fun _=>true) (v:=.lst ((ys.take 60).map .int)) ?_ rfl (fun _ _=>Yl) (fun _ _ _ _ _ _=>.and0 ⟨rfl,rfl⟩) (fun y _ _ s' _ _ e3=>?_) (fun _ _=>rfl) (by exact(Yt (Yr hxl (nlt 60 1000 rfl)) l1000)) fun s' e1 e2=>?_))
 ·exact .op2 (.getL (v:=.lst (ys.map .int)) rfl (.pure (W.upto lst_at (by decide) (lmLe (by exact(Yw (Yt (Yr hys (nlt 63 1000 rfl)) l1000)))) (Yd _) ⟨by rw [←List.map_take];rfl,rfl⟩)))
 ·exact .op2 (.call (.cons (.getL e3 (.nil (W.int (.pure (W.mod (by decide) ⟨rfl,rfl⟩)))))))
 rw [List.filter_eq_self.mpr fun _ _=>rfl,show (ys.take 60).map (fun y=>V.int (y%5040))=((ys.take 60).map (· % 5040)).map V.int by rw [List.map_map];rfl]
 have hxl:((ys.take 60).map (· % 5040)).length≤60:=by rw [X4];exact hxl
 generalize (ys.take 60).map (· % 5040)=xs at hxl
 obtain⟨loc,σ0⟩:=s'
 have e1:σ0=fun _=>none:=e1
 subst e1
 clear e2
 refine .seq (.assignDisp (.cons (.dictS (.dcons (.pure (.pure (.dcons (.pure (.getL (v:=.lst (xs.map .int)) rfl (.dcons (.pure (.op2 (.call (.cons (.getL (v:=.lst (xs.map .int)) rfl (.nil (W.sum lst_at (.pure (W.mod (by decide) (.dnil (W.mkDict (pairs_cons un_str rfl (pairs_cons un_str rfl (pairs_cons un_str rfl rfl))) rfl ?_)))))))))))))))))))))
 rw [show foldSet [(Xx "at",V.int 0),(Xx "row",.lst (xs.map .int)),(Xx "all",.int (xs.sum%997))] = [(Xx "at",V.int 0),(Xx "row",.lst (xs.map .int)),(Xx "all",.int (xs.sum%997))] from rfl]
 generalize xs.sum%997=al
 refine .cons (.call (.nil (.newM rfl rfl ((cinit_ws rfl rfl (fun n h1 h2=>?_) (fun n h=>?_)).mono ?_))))
 ·dsimp only;rw [upd_ne _ _ (by exact(Yv (Yq (nlt 1 3 rfl) h1))),upd_ne _ _ (by exact(Yv (Yq (nlt 2 3 rfl) h1))),upd_ne _ _ (by exact(Yu (Yr h2 (nlt 5 100 rfl))))]
 ·dsimp only;rw [upd_ne _ _ (by exact(Yv (Yq (nlt 1 560 rfl) h))),upd_ne _ _ (by exact(Yv (Yq (nlt 2 560 rfl) h))),upd_ne _ _ (by exact(Yv (Yq (nlt 100 560 rfl) h)))]
 rintro _ σ1 ⟨rfl,c1,o1⟩
 have s1 : ∀ n,5<n→n≠100→σ1 n=none:=fun n h1 h2=>by
  rw [o1 n h1]
  simp only [upd_ne _ _ (show n≠1 by exact(Yv (Yt (nlt 1 5 rfl) h1))),upd_ne _ _ (show n≠2 by exact(Yv (Yt (nlt 2 5 rfl) h1))),upd_ne _ _ h2]
 have u1:Cup xs al 0 σ1:=⟨0,by decide,by decide,by rw [o1 100 (by decide)];rfl⟩
 clear o1
 refine⟨rfl,.nil ⟨show 2≤100 by decide,.sets1 (.sets1 (.sets0 ?_))⟩⟩
 have fr1:Free 120 σ1:=fun n h=>s1 n (by exact(Yq (nlt 5 120 rfl) h)) (by exact(Yv (Yq (nlt 100 120 rfl) h)))
 refine .seq (.assignSwap (.cons (.call (.cons (.getL (v:=.ref 100) rfl (.cons (.pure (.nil (.callM ((sip_ws u1 (by decide) hxl (show (0:Int)<2 by decide) (fr1.mono (by decide))).mono ?_))))))))))
 rintro _ σ2 ⟨w,rfl,_,_,u2,f2⟩
 refine .cons (.dictI (.dcons (.pure (.pure (.dnil (W.mkDict (kvs := [(1,.int 255)]) (pairs_cons un_int rfl rfl) ((f2 101 (by decide)).trans (s1 101 (by decide) (by decide))) (.nil ⟨show 2≤100 by decide,.sets1 (.sets1 (.sets0 ?_))⟩)))))))
 refine atS (fun s=>(s.loc 2=some (.ref 100)∧s.loc 3=some (.ref 1)∧s.loc 4=some (.int w)∧s.loc 5=some (.ref 101))∧(CircAt (base 0) [] s.hp∧Cup xs al 1 s.hp∧s.hp 101=some (.idict [(1,.int 255)]))∧∀ n,5<n→n≠100→n≠101→s.hp n=none) ⟨⟨rfl,rfl,rfl,rfl⟩,⟨c1.mono fun n q=>?_,u2.mono ?_,rfl⟩,fun n q1 q2 q3=>?_⟩ ?_
 ·dsimp only;rw [upd_ne _ _ (by exact(Yu (Yr q (nlt 5 101 rfl)))),f2 n (by exact(Yu (Yr q (nlt 5 100 rfl))))]
 ·rfl
 ·dsimp only;rw [upd_ne _ _ q3,f2 n q2];exact s1 n q1 q2
 clear c1 s1 u1 fr1 u2 f2
 rintro⟨loc,σ1⟩ ⟨⟨l2,l3,l4,l5⟩,⟨c1,u1,m1⟩,s1⟩
 dsimp only at l2 l3 l4 l5 c1 u1 m1 s1
 refine .seq (.assign (inputs_w l3 c1 (fun n q=>s1 n (by exact(Yq (nlt 5 120 rfl) q)) (by exact(Yv (Yq (nlt 100 120 rfl) q))) (by exact(Yv (Yq (nlt 101 120 rfl) q)))) (s1 15 (by decide) (by decide) (by decide)) fun s' f l c=>?_))
 refine .seq (zip_w ((l 5 (by decide)).trans l5) rfl (by exact(f 101 (by decide) (by decide) (by decide)).trans m1) rfl fun s2 l' f' m2=>?_)
 have f3 : ∀ n,n≠15→n≠101→s2.hp n=s'.hp n:=fun n q1 q2=>(f' n q2).trans (upd_ne _ _ q1)
 have L:Lc w s2:=⟨(l' 2 (by decide) (by decide)).trans ((l 2 (by decide)).trans l2),(l' 3 (by decide) (by decide)).trans ((l 3 (by decide)).trans l3),(l' 4 (by decide) (by decide)).trans ((l 4 (by decide)).trans l4),(l' 5 (by decide) (by decide)).trans ((l 5 (by decide)).trans l5),(l' 7 (by decide) (by decide)).trans rfl⟩
 have S:Gst (base 3) [] mk3 xs al 1 [2,3,4] s2.hp:=⟨base_ok,c.mono fun n q=>f3 n (by exact(Yu (Yr q (nlt 5 15 rfl)))) (by exact(Yu (Yr q (nlt 5 101 rfl)))),m2,mk3_ok,⟨u1.mono ((f3 _ (by decide) (by decide)).trans (f _ (by decide) (by decide) (by decide))),(f' 15 (by decide)).trans rfl,hxl,by decide,by decide,by decide⟩,(by decide),fun n q1 q2 q3 q4=>(f3 n q2 q4).trans ((f n (by exact(Yv (Yt (nlt 3 5 rfl) q1))) (by exact(Yv (Yt (nlt 4 5 rfl) q1))) (by exact(Yv q1))).trans (s1 n q1 q3 q4))⟩
 clear l l' f f' f3 c c1 u1 m1 m2 s1 l2 l3 l4 l5 s'
 refine .seq (.for (.call (.cons (.op2 (.pure (.call (.cons (.getL L.l2 (.cons (.pure (.nil (.callM ((sip_ws S.D.cup S.D.nl hxl (show (0:Int)<3 by decide) (fun n q=>S.fr n (by exact(Yq (nlt 5 580 rfl) q)) (by exact(Yv (Yq (nlt 15 580 rfl) q))) (by exact(Yv (Yq (nlt 100 580 rfl) q))) (by exact(Yv (Yq (nlt 101 580 rfl) q))))).mono ?_)))))))))))))
 rintro _ σ3 ⟨r,rfl,r0,r1,u3,f3⟩
 have S3:=S.sip u3 f3 (by decide)
 refine W.add (.nil (W.range1 ⟨rfl,.forS (xs:=_) (GdI xs al w 2) ⟨⟨L.l2,L.l3,L.l4,L.l5,L.l7⟩,base 3,[],mk3,[2,3,4],S3,by decide,by decide⟩ (fun i s _=>Yh (by decide) (by lia)) ?_ ?_⟩))
 ·rintro i s x ⟨l,gs,kn,kvs,pool,S,gl,pl⟩ hx
  obtain⟨rfl,hi⟩:=rng_get hx
  refine .setL (.seq (.ite (gate_call (w:=w) ⟨l.l2,l.l3,l.l4,l.l5,l.l7⟩ S.hc S.ok (by lia) S.hm S.mo S.D (by lia) S.hp (fun n q=>S.fr n (by exact(Yq (nlt 5 160 rfl) q)) (by exact(Yv (Yq (nlt 15 160 rfl) q))) (by exact(Yv (Yq (nlt 100 160 rfl) q))) (by exact(Yv (Yq (nlt 101 160 rfl) q)))) (by lia) fun τ h=>⟨nofun,fun _=>.end (.end ?_)⟩)))
  obtain⟨t,kn',kvs',g,ht,S'⟩:=S.gate h
  exact⟨⟨l.l2,l.l3,l.l4,l.l5,l.l7⟩,gs++t,kn',kvs',_,S',by rw [X6];lia,by rw [X6,List.length_singleton];lia⟩
 clear S S3 L u3 f3
 rintro s ⟨l,gs,kn,kvs,pool,S,gl,pl⟩
 rw [X4,List.length_range] at S gl pl
 have hn:2+12*(1+r-0).toNat<100:=by lia
 have g14:gs.length≤14:=by lia
 have p6:pool.length≤6:=by lia
 generalize 2+12*(1+r-0).toNat=n at S hn
 clear gl pl
 have none6 : ∀ i,5<i→i<15∨101<i→s.hp i=none:=fun i q1 q2=>S.fr i q1 (by lia) (by lia) (by lia)
 have h7:upd (upd s.hp 7 (some (.attrs []))) 6 (some (.inst 112 7)) 7=some (.attrs []):=rfl
 have fu : ∀ i,i≠6→i≠7→upd (upd s.hp 7 (some (.attrs []))) 6 (some (.inst 112 7)) i=s.hp i:=fun i q1 q2=>by rw [upd_ne _ _ q1,upd_ne _ _ q2]
 refine .seq (.assignSwap (.cons (.call (.cons (.getL l.l3 (.cons (.getL l.l4 (.nil (.newM (none6 7 (by decide) (by decide)) ((upd_ne _ _ (by decide)).trans (none6 6 (by decide) (by decide))) ((init_ws (w:=w) (by exact(Ys g14 (nle 14 20 rfl))) S.ok (S.hc.mono fun i q=>fu i (by exact(Yu (Yr q (nlt 5 6 rfl)))) (by exact(Yu (Yr q (nlt 5 7 rfl))))) (Zc _ _ _) h7 (fun i q1 q2=>(fu i (by exact(Yv (Yq (nlt 6 8 rfl) q1))) (by exact(Yv (Yq (nlt 7 8 rfl) q1)))).trans (none6 i (by exact(Yq (nlt 5 8 rfl) q1)) (by lia))) (fun i q=>(fu i (by exact(Yv (Yq (nlt 6 280 rfl) q))) (by exact(Yv (Yq (nlt 7 280 rfl) q)))).trans (none6 i (by exact(Yq (nlt 5 280 rfl) q)) (by lia)))).mono ?_))))))))))
 rintro _ σ3 ⟨rfl,f3,k3⟩
 have fz : ∀ i,i<6∨12<i→σ3 i=s.hp i:=fun i q=>(f3 i q).trans (fu i (by lia) (by lia))
 clear f3
 refine⟨rfl,.cons (.dictS (.dcons (.pure (.list (.nil (.mkLstS rfl (Yx _) ((fz 13 (by decide)).trans (none6 13 (by decide) (by decide))) (.dcons (.pure (.list (.nil (.mkLstS rfl (Yx _) (by exact(fz 14 (by decide)).trans (none6 14 (by decide) (by decide))) (.dcons (.pure (.list (.nil (.mkLst rfl (Yx _) (.dnil (W.mkDict (pairs_cons un_str rfl (pairs_cons un_str rfl (pairs_cons un_str rfl rfl))) (by exact(fz 103 (by decide)).trans (none6 103 (by decide) (by decide))) (.nil ⟨show 2≤100 by decide,.sets1 (.sets1 (.sets0 ?_))⟩)))))))))))))))))))⟩
 refine atS (fun s=>(Lc w s∧Ld s)∧Ast gs kn kvs (Cin w 3) [] [] [] xs al n pool 0 s.hp) ⟨⟨⟨l.l2,l.l3,l.l4,l.l5,l.l7⟩,⟨rfl,rfl⟩⟩,Ast.zero (τ:=upd (upd (upd σ3 13 (some (.list []))) 14 (some (.list []))) 103 (some (.sdict (stO [])))) S (by exact(Ys g14 (nle 14 20 rfl))) (fun i q=>?_) (k3.mono fun i q1 q2=>?_) rfl rfl rfl⟩ ?_
 ·rw [upd_ne _ _ (by lia),upd_ne _ _ (by lia),upd_ne _ _ (by lia)];exact fz i (by lia)
 ·rw [upd_ne _ _ (by exact(Yu (Yr q2 (nlt 12 103 rfl)))),upd_ne _ _ (by exact(Yu (Yr q2 (nlt 12 14 rfl)))),upd_ne _ _ (by exact(Yu (Yr q2 (nlt 12 13 rfl))))]
 clear k3 fz l S none6 h7 fu σ3
 rintro s2 ⟨⟨l,l'⟩,A⟩
 refine .seq (.for (.call (.cons (.op2 (.pure (.call (.cons (.getL l.l2 (.cons (.pure (.nil (.callM ((sip_ws A.D.cup A.D.nl hxl (show (0:Int)<2 by decide) (A.fr.mono (by decide))).mono ?_)))))))))))))
 rintro _ σ4 ⟨r',rfl,_,_,u4,f4⟩
 have A4:=A.sip u4 f4 (by lia)
 refine W.add (.nil (W.range1 ⟨rfl,.forS (xs:=_) (DdI xs al w (n+1)) ⟨⟨l.l2,l.l3,l.l4,l.l5,l.l7⟩,⟨l'.l10,l'.l11⟩,gs,kn,kvs,pool,_,[],[],[],A4,by rw [if_neg (by decide)];exact g14,by lia⟩ (fun i s _=>Yh (by decide) (by lia)) ?_ fun s h=>?_⟩))
 ·rintro i s x h hx
  obtain⟨rfl,hi⟩:=rng_get hx
  rw [Int.zero_add]
  obtain⟨l,l',gs,kn,kvs,pool,d,tops,asked,told,A,gl,pl⟩:=h
  exact .setL (deeds_w (w:=w) (n0:=n+1) (i:=i) ⟨⟨l.l2,l.l3,l.l4,l.l5,l.l7⟩,⟨l'.l10,l'.l11⟩,gs,kn,kvs,pool,d,tops,asked,told,A,gl,pl⟩ rfl (by lia) (by lia) fun s' h=>h)
 ·exact .seq (.ret (.pure ⟨_,_,rfl,Zi fun _=>V.noConfusion,rfl⟩))
end L03
end Lay
namespace Lay
theorem hl_of_boot{p q:Program}{loose:List Str}{Xt:Shared→Bool}{α:Type}{Yf:Shared→α}{Ya:World→α}{N:Nat}{g0:Bool}{m₀:Nat}{ann:Option Value}
  (e:opening p=plainProg p.main.scope.names) (hN:Nat.ble 600 N=true) (f : ∀ s,fenceModules? p s=some s)
  (size : ∀ w:World,(((boot_heap w.params).isNs mainGlobals&&((Array.mk []:Array GenState).size==0)),(boot_heap w.params).objs.size,(boot_heap w.params).nsMap mainGlobals "__annotations__")=(true,m₀,ann))
  (h : ∀ (w:World) (os:OsState),(Fast.tw14082659384304107361 Fast.tw14364793385576792824 p w m₀ ann N ⟨boot_heap w.params,Array.mk [],boot_drawn,boot_toks,os⟩ (topStub p)).map
    (fun s=>(staticsOk (Fast.tw5923862056798008813 p.main.body) (boot_heap w.params) s.heap&&namesBound p s.heap&&gensDone s&&laidKept (boot_heap w.params) s.heap,Fast.tw4187177175401517315 q loose (Fast.tw5923862056798008813 p.main.body) Xt g0 s,Yf s))=some (true,openGood q loose,Ya w)):LeftO p q loose Xt Yf Ya N g0:=fun w=>by
 obtain⟨⟨hp,gs,d,k,os⟩,h1,h2⟩:=Xl.mp (boot_open e hN f w)
 obtain⟨rfl,rfl,rfl,rfl⟩:hp=boot_heap w.params∧gs=Array.mk []∧d=boot_drawn∧k=boot_toks:=by simpa using h2
 obtain⟨z1,z2,z3⟩:_∧_∧_:=by simpa only [Prod.mk.injEq] using size w
 have h3:=h w os
 rw [←Fast.te14082659384304107361,←Fast.te14364793385576792824,←Fast.te5923862056798008813,←Fast.te4187177175401517315] at h3
 obtain⟨s,h4,h5⟩:=Xl.mp h3
 obtain⟨l1,l2,l3⟩:_∧_∧_:=by simpa only [Prod.mk.injEq] using h5
 have t:topFrom treeTable p w N ⟨boot_heap w.params,Array.mk [],boot_drawn,boot_toks,os⟩=some s:=by
  unfold topFrom
  dsimp only
  rw [z1,z2,z3,h4]
  show (match staticsOk (importedModules p.main.body) (boot_heap w.params) s.heap&&namesBound p s.heap&&gensDone s&&laidKept (boot_heap w.params) s.heap with|true=>_|false=>_)=_
  rw [l1]
 unfold openEnds
 rw [h1]
 show (topFrom treeTable p w N ⟨boot_heap w.params,Array.mk [],boot_drawn,boot_toks,os⟩).map _=_
 rw [t]
 show some (_,_)=_
 rw [l2,l3]
end Lay
set_option maxRecDepth 100000
set_option maxHeartbeats 8000000
namespace Lay
noncomputable def view03:Program:=view PySem.Challenge.pw_rr0081_03 [0,2,3,4,6,8,9,10,11,12,13,14,15,16,17]
theorem head03(H:Hook){d:DefRec}{kwd:List (Str×Expr)}(hw:(OpenLaw.row Challenge.rw_rr0081_03).toRowW.promised)(hc:WalkO view03 [] (XL view03 []) H.says (OpenLaw.row Challenge.rw_rr0081_03).toRowW d kwd fun f vs=>PySem.call f vs)
  (h : ∀ (w:World) (os:OsState),(Fast.tw14082659384304107361 Fast.tw14364793385576792824 (OpenLaw.row Challenge.rw_rr0081_03).prog w 11 (some (.ref 6)) 3234 ⟨boot_heap w.params,Array.mk [],boot_drawn,boot_toks,os⟩ (topStub (OpenLaw.row Challenge.rw_rr0081_03).prog)).map
    (fun s=>(staticsOk (Fast.tw5923862056798008813 (OpenLaw.row Challenge.rw_rr0081_03).prog.main.body) (boot_heap w.params) s.heap&&namesBound (OpenLaw.row Challenge.rw_rr0081_03).prog s.heap&&gensDone s&&laidKept (boot_heap w.params) s.heap,Fast.tw4187177175401517315 view03 [] (Fast.tw5923862056798008813 (OpenLaw.row Challenge.rw_rr0081_03).prog.main.body) (fun s=>xlAt view03 [] s&&recOk (OpenLaw.row Challenge.rw_rr0081_03).toRowW.records s) true s,H.obs s))=some (true,openGood view03 [],H.val w):=by exact fun _ _=>by kernel_rfl)
  (hdef:defOf view03 (OpenLaw.row Challenge.rw_rr0081_03).name=some (d,kwd):=by rfl) (hp:(OpenLaw.row Challenge.rw_rr0081_03).prog.theDef (OpenLaw.row Challenge.rw_rr0081_03).name=some (d.params,d.body,d.scope):=by rfl) (hk:kwWritten? d.params.kwonlyargs d.params.kw_defaults=some kwd:=by rfl)
  (k1:(OpenLaw.row Challenge.rw_rr0081_03).wellSaid=true:=by assumption):(OpenLaw.row Challenge.rw_rr0081_03).Holds :=
 holds_open (q:=view03) (loose := []) (Xt:=fun s=>xlAt view03 [] s&&recOk (RowW.records (OpenRow.toRowW (OpenLaw.row Challenge.rw_rr0081_03))) s) (XP:=XL view03 []) (Yf:=H.obs) (Ya:=H.val) (YP:=H.says) (N:=3234)
  (hl_of_boot (m₀:=11) (ann:=some (.ref 6)) (by kernel_rfl) (by kernel_rfl) (fun s=>by kernel_rfl) (fun w=>by kernel_rfl) h) H.of H.keeps (fun s e=>xl_of s (Bool.and_eq_true_iff.mp e).1) XL.keeps hdef hp hk (fun s e=>recFacts_of (Bool.and_eq_true_iff.mp e).2) (by rfl) k1 (by decide +kernel) ⟨rfl,rfl,rfl,rfl,rfl,by decide +kernel⟩ hw hc
theorem law03(h:(OpenLaw.row Challenge.rw_rr0081_03).wellSaid=true→(OpenLaw.row Challenge.rw_rr0081_03).Holds):Challenge.rw_rr0081_03.Holds:=holds_law (by kernel_rfl) h
local macro_rules | `(tactic| o_head $H) => `(tactic| refine head03 $H ?hw ?hc)
local macro_rules | `(tactic| o_law) => `(tactic| refine law03 fun said => ?_)
open_top hd03 for PySem.Challenge.rw_rr0081_03
end Lay
set_option maxRecDepth 100000
set_option maxHeartbeats 8000000
namespace Lay
namespace L03
noncomputable abbrev Wd03(w:World)(l:List Str)(mg mb:Str→Option Value):Wd:=⟨Challenge.rw_rr0081_03.row.prog,w,Lay.hd03.heap_1 w.params,view03,l,mg,mb⟩
theorem at_Clauses_gates(w:World)(l:List Str)(mg mb:Str→Option Value):AttrOk (Wd03 w l mg mb) 112 (Xx "gates"):=⟨by rfl,by rfl,_,by rfl,by rfl⟩
theorem g_abs(p:Params):nsIn (Lay.hd03.heap_1 p) mainGlobals (Xx "abs")=some none:=by rfl
theorem g_sorted(p:Params):nsIn (Lay.hd03.heap_1 p) mainGlobals (Xx "sorted")=some none:=by rfl
theorem g_set(p:Params):nsIn (Lay.hd03.heap_1 p) mainGlobals (Xx "set")=some none:=by rfl
theorem g_dict(p:Params):nsIn (Lay.hd03.heap_1 p) mainGlobals (Xx "dict")=some none:=by rfl
theorem g_len(p:Params):nsIn (Lay.hd03.heap_1 p) mainGlobals (Xx "len")=some none:=by rfl
theorem g_place_of(p:Params):nsIn (Lay.hd03.heap_1 p) mainGlobals (Xx "place_of")=some (some (.ref 35)):=by rfl
theorem g_tuple(p:Params):nsIn (Lay.hd03.heap_1 p) mainGlobals (Xx "tuple")=some none:=by rfl
theorem kp_233(p:Params):keepIn (Lay.hd03.heap_1 p) (.ref 233)=true:=by rfl
theorem g__law_sip(p:Params):nsIn (Lay.hd03.heap_1 p) mainGlobals (Xx "_law_sip")=some (some (.ref 233)):=by rfl
theorem so_Circuit_kinds(w:World)(l:List Str)(mg mb:Str→Option Value):SetOk (Wd03 w l mg mb) 222 (Xx "kinds"):=⟨by rfl,by rfl,by rfl,by rfl⟩
theorem so_Circuit_parts_now(w:World)(l:List Str)(mg mb:Str→Option Value):SetOk (Wd03 w l mg mb) 222 (Xx "parts_now"):=⟨by rfl,by rfl,by rfl,by rfl⟩
theorem so_Circuit_known(w:World)(l:List Str)(mg mb:Str→Option Value):SetOk (Wd03 w l mg mb) 222 (Xx "known"):=⟨by rfl,by rfl,by rfl,by rfl⟩
theorem at_Circuit_kinds(w:World)(l:List Str)(mg mb:Str→Option Value):AttrOk (Wd03 w l mg mb) 222 (Xx "kinds"):=⟨by rfl,by rfl,_,by rfl,by rfl⟩
theorem at_Circuit_parts_now(w:World)(l:List Str)(mg mb:Str→Option Value):AttrOk (Wd03 w l mg mb) 222 (Xx "parts_now"):=⟨by rfl,by rfl,_,by rfl,by rfl⟩
theorem pg_Circuit_new_gate(p:Params):plainGet (Lay.hd03.heap_1 p) 222 (Xx "new_gate")=true:=by rfl
theorem mf_Circuit_new_gate(p:Params):findIn (Lay.hd03.heap_1 p) (.ref 222) (Xx "new_gate")=some (some (.ref 158)):=by rfl
theorem fn_158(p:Params):isFn (Lay.hd03.heap_1 p) (.ref 158)=true:=by rfl
theorem kp_158(p:Params):keepIn (Lay.hd03.heap_1 p) (.ref 158)=true:=by rfl
theorem at_Circuit_known(w:World)(l:List Str)(mg mb:Str→Option Value):AttrOk (Wd03 w l mg mb) 222 (Xx "known"):=⟨by rfl,by rfl,_,by rfl,by rfl⟩
theorem pg_Circuit_all_of(p:Params):plainGet (Lay.hd03.heap_1 p) 222 (Xx "all_of")=true:=by rfl
theorem mf_Circuit_all_of(p:Params):findIn (Lay.hd03.heap_1 p) (.ref 222) (Xx "all_of")=some (some (.ref 172)):=by rfl
theorem fn_172(p:Params):isFn (Lay.hd03.heap_1 p) (.ref 172)=true:=by rfl
theorem kp_172(p:Params):keepIn (Lay.hd03.heap_1 p) (.ref 172)=true:=by rfl
theorem pg_Circuit_implies(p:Params):plainGet (Lay.hd03.heap_1 p) 222 (Xx "implies")=true:=by rfl
theorem mf_Circuit_implies(p:Params):findIn (Lay.hd03.heap_1 p) (.ref 222) (Xx "implies")=some (some (.ref 198)):=by rfl
theorem fn_198(p:Params):isFn (Lay.hd03.heap_1 p) (.ref 198)=true:=by rfl
theorem kp_198(p:Params):keepIn (Lay.hd03.heap_1 p) (.ref 198)=true:=by rfl
theorem kp_28(p:Params):keepIn (Lay.hd03.heap_1 p) (.ref 28)=true:=by rfl
theorem g_clause_of(p:Params):nsIn (Lay.hd03.heap_1 p) mainGlobals (Xx "clause_of")=some (some (.ref 28)):=by rfl
theorem at_Clauses_clauses(w:World)(l:List Str)(mg mb:Str→Option Value):AttrOk (Wd03 w l mg mb) 112 (Xx "clauses"):=⟨by rfl,by rfl,_,by rfl,by rfl⟩
theorem at_Clauses_numbers(w:World)(l:List Str)(mg mb:Str→Option Value):AttrOk (Wd03 w l mg mb) 112 (Xx "numbers"):=⟨by rfl,by rfl,_,by rfl,by rfl⟩
theorem so_Clauses_circuit(w:World)(l:List Str)(mg mb:Str→Option Value):SetOk (Wd03 w l mg mb) 112 (Xx "circuit"):=⟨by rfl,by rfl,by rfl,by rfl⟩
theorem so_Clauses_whole(w:World)(l:List Str)(mg mb:Str→Option Value):SetOk (Wd03 w l mg mb) 112 (Xx "whole"):=⟨by rfl,by rfl,by rfl,by rfl⟩
theorem so_Clauses_clauses(w:World)(l:List Str)(mg mb:Str→Option Value):SetOk (Wd03 w l mg mb) 112 (Xx "clauses"):=⟨by rfl,by rfl,by rfl,by rfl⟩
theorem so_Clauses_gates(w:World)(l:List Str)(mg mb:Str→Option Value):SetOk (Wd03 w l mg mb) 112 (Xx "gates"):=⟨by rfl,by rfl,by rfl,by rfl⟩
theorem so_Clauses_numbers(w:World)(l:List Str)(mg mb:Str→Option Value):SetOk (Wd03 w l mg mb) 112 (Xx "numbers"):=⟨by rfl,by rfl,by rfl,by rfl⟩
theorem so_Clauses_opened(w:World)(l:List Str)(mg mb:Str→Option Value):SetOk (Wd03 w l mg mb) 112 (Xx "opened"):=⟨by rfl,by rfl,by rfl,by rfl⟩
theorem so_Clauses_waiting(w:World)(l:List Str)(mg mb:Str→Option Value):SetOk (Wd03 w l mg mb) 112 (Xx "waiting"):=⟨by rfl,by rfl,by rfl,by rfl⟩
theorem pg_Circuit_size(p:Params):plainGet (Lay.hd03.heap_1 p) 222 (Xx "size")=true:=by rfl
theorem mf_Circuit_size(p:Params):findIn (Lay.hd03.heap_1 p) (.ref 222) (Xx "size")=some (some (.ref 137)):=by rfl
theorem fn_137(p:Params):isFn (Lay.hd03.heap_1 p) (.ref 137)=true:=by rfl
theorem kp_137(p:Params):keepIn (Lay.hd03.heap_1 p) (.ref 137)=true:=by rfl
theorem g_range(p:Params):nsIn (Lay.hd03.heap_1 p) mainGlobals (Xx "range")=some none:=by rfl
theorem pg_Circuit_kind(p:Params):plainGet (Lay.hd03.heap_1 p) 222 (Xx "kind")=true:=by rfl
theorem mf_Circuit_kind(p:Params):findIn (Lay.hd03.heap_1 p) (.ref 222) (Xx "kind")=some (some (.ref 144)):=by rfl
theorem fn_144(p:Params):isFn (Lay.hd03.heap_1 p) (.ref 144)=true:=by rfl
theorem kp_144(p:Params):keepIn (Lay.hd03.heap_1 p) (.ref 144)=true:=by rfl
theorem pg_Clauses_number_of(p:Params):plainGet (Lay.hd03.heap_1 p) 112 (Xx "number_of")=true:=by rfl
theorem mf_Clauses_number_of(p:Params):findIn (Lay.hd03.heap_1 p) (.ref 112) (Xx "number_of")=some (some (.ref 64)):=by rfl
theorem fn_64(p:Params):isFn (Lay.hd03.heap_1 p) (.ref 64)=true:=by rfl
theorem kp_64(p:Params):keepIn (Lay.hd03.heap_1 p) (.ref 64)=true:=by rfl
theorem at_Clauses_whole(w:World)(l:List Str)(mg mb:Str→Option Value):AttrOk (Wd03 w l mg mb) 112 (Xx "whole"):=⟨by rfl,by rfl,_,by rfl,by rfl⟩
theorem at_Clauses_opened(w:World)(l:List Str)(mg mb:Str→Option Value):AttrOk (Wd03 w l mg mb) 112 (Xx "opened"):=⟨by rfl,by rfl,_,by rfl,by rfl⟩
theorem at_Clauses_waiting(w:World)(l:List Str)(mg mb:Str→Option Value):AttrOk (Wd03 w l mg mb) 112 (Xx "waiting"):=⟨by rfl,by rfl,_,by rfl,by rfl⟩
theorem at_Clauses_circuit(w:World)(l:List Str)(mg mb:Str→Option Value):AttrOk (Wd03 w l mg mb) 112 (Xx "circuit"):=⟨by rfl,by rfl,_,by rfl,by rfl⟩
theorem pg_Clauses_tell(p:Params):plainGet (Lay.hd03.heap_1 p) 112 (Xx "tell")=true:=by rfl
theorem mf_Clauses_tell(p:Params):findIn (Lay.hd03.heap_1 p) (.ref 112) (Xx "tell")=some (some (.ref 85)):=by rfl
theorem fn_85(p:Params):isFn (Lay.hd03.heap_1 p) (.ref 85)=true:=by rfl
theorem kp_85(p:Params):keepIn (Lay.hd03.heap_1 p) (.ref 85)=true:=by rfl
theorem pg_Circuit_parts(p:Params):plainGet (Lay.hd03.heap_1 p) 222 (Xx "parts")=true:=by rfl
theorem mf_Circuit_parts(p:Params):findIn (Lay.hd03.heap_1 p) (.ref 222) (Xx "parts")=some (some (.ref 151)):=by rfl
theorem fn_151(p:Params):isFn (Lay.hd03.heap_1 p) (.ref 151)=true:=by rfl
theorem kp_151(p:Params):keepIn (Lay.hd03.heap_1 p) (.ref 151)=true:=by rfl
theorem pg_Clauses_enter(p:Params):plainGet (Lay.hd03.heap_1 p) 112 (Xx "enter")=true:=by rfl
theorem mf_Clauses_enter(p:Params):findIn (Lay.hd03.heap_1 p) (.ref 112) (Xx "enter")=some (some (.ref 78)):=by rfl
theorem fn_78(p:Params):isFn (Lay.hd03.heap_1 p) (.ref 78)=true:=by rfl
theorem kp_78(p:Params):keepIn (Lay.hd03.heap_1 p) (.ref 78)=true:=by rfl
theorem pg_Clauses_open_gate(p:Params):plainGet (Lay.hd03.heap_1 p) 112 (Xx "open_gate")=true:=by rfl
theorem mf_Clauses_open_gate(p:Params):findIn (Lay.hd03.heap_1 p) (.ref 112) (Xx "open_gate")=some (some (.ref 90)):=by rfl
theorem fn_90(p:Params):isFn (Lay.hd03.heap_1 p) (.ref 90)=true:=by rfl
theorem kp_90(p:Params):keepIn (Lay.hd03.heap_1 p) (.ref 90)=true:=by rfl
theorem pg_Clauses_flush(p:Params):plainGet (Lay.hd03.heap_1 p) 112 (Xx "flush")=true:=by rfl
theorem mf_Clauses_flush(p:Params):findIn (Lay.hd03.heap_1 p) (.ref 112) (Xx "flush")=some (some (.ref 97)):=by rfl
theorem fn_97(p:Params):isFn (Lay.hd03.heap_1 p) (.ref 97)=true:=by rfl
theorem kp_97(p:Params):keepIn (Lay.hd03.heap_1 p) (.ref 97)=true:=by rfl
theorem g_reversed(p:Params):nsIn (Lay.hd03.heap_1 p) mainGlobals (Xx "reversed")=some none:=by rfl
theorem kp_247(p:Params):keepIn (Lay.hd03.heap_1 p) (.ref 247)=true:=by rfl
theorem g__law_mask(p:Params):nsIn (Lay.hd03.heap_1 p) mainGlobals (Xx "_law_mask")=some (some (.ref 247)):=by rfl
theorem kp_240(p:Params):keepIn (Lay.hd03.heap_1 p) (.ref 240)=true:=by rfl
theorem g__law_signed(p:Params):nsIn (Lay.hd03.heap_1 p) mainGlobals (Xx "_law_signed")=some (some (.ref 240)):=by rfl
theorem pg_Circuit_any_of(p:Params):plainGet (Lay.hd03.heap_1 p) 222 (Xx "any_of")=true:=by rfl
theorem mf_Circuit_any_of(p:Params):findIn (Lay.hd03.heap_1 p) (.ref 222) (Xx "any_of")=some (some (.ref 177)):=by rfl
theorem fn_177(p:Params):isFn (Lay.hd03.heap_1 p) (.ref 177)=true:=by rfl
theorem kp_177(p:Params):keepIn (Lay.hd03.heap_1 p) (.ref 177)=true:=by rfl
theorem pg_Circuit_iff(p:Params):plainGet (Lay.hd03.heap_1 p) 222 (Xx "iff")=true:=by rfl
theorem mf_Circuit_iff(p:Params):findIn (Lay.hd03.heap_1 p) (.ref 222) (Xx "iff")=some (some (.ref 205)):=by rfl
theorem fn_205(p:Params):isFn (Lay.hd03.heap_1 p) (.ref 205)=true:=by rfl
theorem kp_205(p:Params):keepIn (Lay.hd03.heap_1 p) (.ref 205)=true:=by rfl
theorem pg_Circuit_choose(p:Params):plainGet (Lay.hd03.heap_1 p) 222 (Xx "choose")=true:=by rfl
theorem mf_Circuit_choose(p:Params):findIn (Lay.hd03.heap_1 p) (.ref 222) (Xx "choose")=some (some (.ref 219)):=by rfl
theorem fn_219(p:Params):isFn (Lay.hd03.heap_1 p) (.ref 219)=true:=by rfl
theorem kp_219(p:Params):keepIn (Lay.hd03.heap_1 p) (.ref 219)=true:=by rfl
theorem kp_254(p:Params):keepIn (Lay.hd03.heap_1 p) (.ref 254)=true:=by rfl
theorem g__law_filled(p:Params):nsIn (Lay.hd03.heap_1 p) mainGlobals (Xx "_law_filled")=some (some (.ref 254)):=by rfl
theorem pg_Clauses_many(p:Params):plainGet (Lay.hd03.heap_1 p) 112 (Xx "many")=true:=by rfl
theorem mf_Clauses_many(p:Params):findIn (Lay.hd03.heap_1 p) (.ref 112) (Xx "many")=some (some (.ref 57)):=by rfl
theorem fn_57(p:Params):isFn (Lay.hd03.heap_1 p) (.ref 57)=true:=by rfl
theorem kp_57(p:Params):keepIn (Lay.hd03.heap_1 p) (.ref 57)=true:=by rfl
theorem pg_Clauses_gate_of(p:Params):plainGet (Lay.hd03.heap_1 p) 112 (Xx "gate_of")=true:=by rfl
theorem mf_Clauses_gate_of(p:Params):findIn (Lay.hd03.heap_1 p) (.ref 112) (Xx "gate_of")=some (some (.ref 71)):=by rfl
theorem fn_71(p:Params):isFn (Lay.hd03.heap_1 p) (.ref 71)=true:=by rfl
theorem kp_71(p:Params):keepIn (Lay.hd03.heap_1 p) (.ref 71)=true:=by rfl
theorem kp_264(p:Params):keepIn (Lay.hd03.heap_1 p) (.ref 264)=true:=by rfl
theorem g__law_units(p:Params):nsIn (Lay.hd03.heap_1 p) mainGlobals (Xx "_law_units")=some (some (.ref 264)):=by rfl
theorem g_list(p:Params):nsIn (Lay.hd03.heap_1 p) mainGlobals (Xx "list")=some none:=by rfl
theorem pg_Clauses_add_top(p:Params):plainGet (Lay.hd03.heap_1 p) 112 (Xx "add_top")=true:=by rfl
theorem mf_Clauses_add_top(p:Params):findIn (Lay.hd03.heap_1 p) (.ref 112) (Xx "add_top")=some (some (.ref 109)):=by rfl
theorem fn_109(p:Params):isFn (Lay.hd03.heap_1 p) (.ref 109)=true:=by rfl
theorem kp_109(p:Params):keepIn (Lay.hd03.heap_1 p) (.ref 109)=true:=by rfl
theorem pg_Clauses_literal_of(p:Params):plainGet (Lay.hd03.heap_1 p) 112 (Xx "literal_of")=true:=by rfl
theorem mf_Clauses_literal_of(p:Params):findIn (Lay.hd03.heap_1 p) (.ref 112) (Xx "literal_of")=some (some (.ref 104)):=by rfl
theorem fn_104(p:Params):isFn (Lay.hd03.heap_1 p) (.ref 104)=true:=by rfl
theorem kp_104(p:Params):keepIn (Lay.hd03.heap_1 p) (.ref 104)=true:=by rfl
theorem g_int(p:Params):nsIn (Lay.hd03.heap_1 p) mainGlobals (Xx "int")=some none:=by rfl
theorem kp_222(p:Params):keepIn (Lay.hd03.heap_1 p) (.ref 222)=true:=by rfl
theorem mk_222(p:Params):makesIn (Lay.hd03.heap_1 p) 222=true:=by rfl
theorem mf_Circuit_init(p:Params):findIn (Lay.hd03.heap_1 p) (.ref 222) (Xx "__init__")=some (some (.ref 130)):=by rfl
theorem ty_130(p:Params):typeIn (Lay.hd03.heap_1 p) (.ref 130)=some (.type "function"):=by rfl
theorem g_Circuit(p:Params):nsIn (Lay.hd03.heap_1 p) mainGlobals (Xx "Circuit")=some (some (.ref 222)):=by rfl
theorem g_sum(p:Params):nsIn (Lay.hd03.heap_1 p) mainGlobals (Xx "sum")=some none:=by rfl
theorem pg_Circuit_new_input(p:Params):plainGet (Lay.hd03.heap_1 p) 222 (Xx "new_input")=true:=by rfl
theorem mf_Circuit_new_input(p:Params):findIn (Lay.hd03.heap_1 p) (.ref 222) (Xx "new_input")=some (some (.ref 165)):=by rfl
theorem fn_165(p:Params):isFn (Lay.hd03.heap_1 p) (.ref 165)=true:=by rfl
theorem kp_165(p:Params):keepIn (Lay.hd03.heap_1 p) (.ref 165)=true:=by rfl
theorem g_zip(p:Params):nsIn (Lay.hd03.heap_1 p) mainGlobals (Xx "zip")=some none:=by rfl
theorem kp_259(p:Params):keepIn (Lay.hd03.heap_1 p) (.ref 259)=true:=by rfl
theorem g__law_gate(p:Params):nsIn (Lay.hd03.heap_1 p) mainGlobals (Xx "_law_gate")=some (some (.ref 259)):=by rfl
theorem kp_112(p:Params):keepIn (Lay.hd03.heap_1 p) (.ref 112)=true:=by rfl
theorem mk_112(p:Params):makesIn (Lay.hd03.heap_1 p) 112=true:=by rfl
theorem mf_Clauses_init(p:Params):findIn (Lay.hd03.heap_1 p) (.ref 112) (Xx "__init__")=some (some (.ref 50)):=by rfl
theorem ty_50(p:Params):typeIn (Lay.hd03.heap_1 p) (.ref 50)=some (.type "function"):=by rfl
theorem g_Clauses(p:Params):nsIn (Lay.hd03.heap_1 p) mainGlobals (Xx "Clauses")=some (some (.ref 112)):=by rfl
theorem kp_274(p:Params):keepIn (Lay.hd03.heap_1 p) (.ref 274)=true:=by rfl
theorem g__law_are_plain(p:Params):nsIn (Lay.hd03.heap_1 p) mainGlobals (Xx "_law_are_plain")=some (some (.ref 274)):=by rfl
theorem kp_279(p:Params):keepIn (Lay.hd03.heap_1 p) (.ref 279)=true:=by rfl
theorem g__law_deed_right(p:Params):nsIn (Lay.hd03.heap_1 p) mainGlobals (Xx "_law_deed_right")=some (some (.ref 279)):=by rfl
theorem kp_269(p:Params):keepIn (Lay.hd03.heap_1 p) (.ref 269)=true:=by rfl
theorem g__law_row_right(p:Params):nsIn (Lay.hd03.heap_1 p) mainGlobals (Xx "_law_row_right")=some (some (.ref 269)):=by rfl
theorem f__law_mask(w:World)(l:List Str)(mg mb:Str→Option Value):FnSim (Wd03 w l mg mb) (.ref 247) 700 (3+1) (runF 700 2 m__law_mask):=by
 refine FnSim_def (W:=Wd03 w l mg mb) (T:=720) (ho:=by rfl) (hcd:=by rfl) (hok:=by rfl) (hbind:=(fun s xs hl hk=>bind2 hl (fun a b=>by rfl))) (hbody:=?_)
 intro A L mid
 exact(Z1 (Zg (Yg (Z5 SV Z0 vGt_K) (Za SV SV) (Zh Z0 (Za SV (Zp SV vNeg_K)) vSub_K))) Zd)
theorem f_Clauses_gate_of(w:World)(l:List Str)(mg mb:Str→Option Value):FnSim (Wd03 w l mg mb) (.ref 71) 680 (3+1) (runF 680 2 m_Clauses_gate_of):=by
 refine FnSim_def (W:=Wd03 w l mg mb) (T:=700) (ho:=by rfl) (hcd:=by rfl) (hok:=by rfl) (hbind:=(fun s xs hl hk=>bind2 hl (fun a b=>by rfl))) (hbody:=?_)
 intro A L mid
 exact(Z1 (Zg (Za (Zn (at_Clauses_gates _ _ _ _) SV) SV)) Zd)
theorem f__law_are_plain(w:World)(l:List Str)(mg mb:Str→Option Value):FnSim (Wd03 w l mg mb) (.ref 274) 660 (3+1) (runF 660 1 m__law_are_plain):=by
 refine FnSim_def (W:=Wd03 w l mg mb) (T:=680) (ho:=by rfl) (hcd:=by rfl) (hok:=by rfl) (hbind:=(fun s xs hl hk=>bind1 hl (fun a=>by rfl))) (hbody:=?_)
 intro A L mid
 exact(Z1 (Yi SV (SimA.name (Z3 (by rfl) (by rfl))) (Z1 (Y7 none trivial SV (by rfl) (by rfl) (fun _=>SimT.nil) (fun _=>(C1 (Z7 (g_abs _) (by decide +kernel) (by decide) (by rfl)) CallOk.builtin SV bAbs_C)) (Z3 (by rfl) (by rfl))) (Z1 (Y0 (Z5 SV (Sim_SortedSet (Z7 (g_sorted _) (by decide +kernel) (by decide) (by rfl)) (Z7 (g_set _) (by decide +kernel) (by decide) (by rfl)) trivial SV) vNe_K) (Z1 (Zg Zl) Zd) Zd) Zd))) (Z1 (Zg Zl) Zd))
theorem f__law_units(w:World)(l:List Str)(mg mb:Str→Option Value):FnSim (Wd03 w l mg mb) (.ref 264) 640 (3+1) (runF 640 2 m__law_units):=by
 refine FnSim_def (W:=Wd03 w l mg mb) (T:=660) (ho:=by rfl) (hcd:=by rfl) (hok:=by rfl) (hbind:=(fun s xs hl hk=>bind2 hl (fun a b=>by rfl))) (hbody:=?_)
 intro A L mid
 exact(Z1 (Sim_AssignDisp (Z2 (C1 (Z7 (g_dict _) (by decide +kernel) (by decide) (by rfl)) CallOk.type SV (bDictD_C (nB rfl) (.inr (nB rfl)))) (Z2 Zl Ze)) (.cons (SimSts.name (Yp (by rfl) (by rfl) (by rfl))) (.cons (SimSts.name (Z3 (by rfl) (by rfl))) .nil))) (Z1 (Sim_While (Yc SV) (Z1 (Zu Zl (Z3 (by rfl) (by rfl))) (Z1 (Yi SV (SimA.name (Z3 (by rfl) (by rfl))) (Z1 (Y7 none trivial SV (by rfl) (by rfl) (fun _=>(SimT.one (Zx (Zz (Z5 (C1 (Z7 (g_abs _) (by decide +kernel) (by decide) (by rfl)) CallOk.builtin SV bAbs_C) (Zj (Zb (by rfl) (by rfl) (by rfl))) vNotIn_K) (Zz (Z5 (Za (Zj (Zb (by rfl) (by rfl) (by rfl))) (C1 (Z7 (g_abs _) (by decide +kernel) (by decide) (by rfl)) CallOk.builtin SV bAbs_C)) (Zs SV Z0 vGt_K) vEq_K) Ym))))) (fun _=>SV) (Z3 (by rfl) (by rfl))) (Z1 (Y0 (Z5 SV (Y4 none Ze trivial) vEq_K) (Z1 (Zg Y6) Zd) Zd) (Z1 (Y0 (Zx (Y2 (Z5 (C1 (Z7 (g_len _) (by decide +kernel) (by decide) (by rfl)) CallOk.builtin SV bLen_C) Z0 vEq_K) (Y2 (Z5 (C1 (Z7 (g_abs _) (by decide +kernel) (by decide) (by rfl)) CallOk.builtin (Za SV Z0) bAbs_C) (Zj (Zb (by rfl) (by rfl) (by rfl))) vNotIn_K) Yk))) (Z1 (Zw (Zs (Za SV Z0) Z0 vGt_K) (Zj (Zb (by rfl) (by rfl) (by rfl))) (C1 (Z7 (g_abs _) (by decide +kernel) (by decide) (by rfl)) CallOk.builtin (Za SV Z0) bAbs_C)) (Z1 (Zu Zl (Z3 (by rfl) (by rfl))) Zd)) Zd) Zd)))) Zd))) (Z1 (Zg (Zj (Zb (by rfl) (by rfl) (by rfl)))) Zd)))
theorem f_place_of(w:World)(l:List Str)(mg mb:Str→Option Value):FnSim (Wd03 w l mg mb) (.ref 35) 620 (3+1) (runF 620 1 m_place_of):=by
 refine FnSim_def (W:=Wd03 w l mg mb) (T:=640) (ho:=by rfl) (hcd:=by rfl) (hok:=by rfl) (hbind:=(fun s xs hl hk=>bind1 hl (fun a=>by rfl))) (hbody:=?_)
 intro A L mid
 exact(Z1 (Zg (Y5 (Z2 (C1 (Z7 (g_abs _) (by decide +kernel) (by decide) (by rfl)) CallOk.builtin SV bAbs_C) (Z2 SV Ze)))) Zd)
theorem f_clause_of(w:World)(l:List Str)(mg mb:Str→Option Value):FnSim (Wd03 w l mg mb) (.ref 28) 600 (6+1) (runF 600 1 m_clause_of):=by
 refine FnSim_def (W:=Wd03 w l mg mb) (T:=620) (ho:=by rfl) (hcd:=by rfl) (hok:=by rfl) (hbind:=(fun s xs hl hk=>bind1 hl (fun a=>by rfl))) (hbody:=?_)
 intro A L mid
 exact(Z1 (Zu (Yo 600 _ emptyI (nB rfl) (.inr (nB rfl))) (Z3 (by rfl) (by rfl))) (Z1 (Yi SV (SimA.name (Z3 (by rfl) (by rfl))) (Z1 (Y0 (Z5 (Zp SV vNeg_K) SV vIn_K) (Z1 (Zg Y6) Zd) Zd) (Z1 (Zw Zl SV SV) Zd))) (Z1 (Zg (C1 (Z7 (g_tuple _) (by decide +kernel) (by decide) (by rfl)) CallOk.type (Sim_CallSortedK (Z7 (g_sorted _) (by decide +kernel) (by decide) (by rfl)) SV (Zm (g_place_of _) (by rfl)) trivial (f_place_of _ _ _ _) (nB rfl) (nB rfl)) bTuple_C)) Zd)))
theorem f__law_sip(w:World)(l:List Str)(mg mb:Str→Option Value):FnSim (Wd03 w l mg mb) (.ref 233) 580 (3+1) (runF 580 2 m__law_sip):=by
 refine FnSim_def (W:=Wd03 w l mg mb) (T:=600) (ho:=by rfl) (hcd:=by rfl) (hok:=by rfl) (hbind:=(fun s xs hl hk=>bind2 hl (fun a b=>by rfl))) (hbody:=?_)
 intro A L mid
 exact(Z1 (Zw (Zh (Za SV Zf) Z0 (vAdd_K trivial)) SV Zf) (Z1 (Y0 (Z5 (Za SV Zf) (C1 (Z7 (g_len _) (by decide +kernel) (by decide) (by rfl)) CallOk.builtin (Za SV Zf) bLen_C) vLe_K) (Z1 (Zg (Zh (Za (Za SV Zf) (Zh (Za SV Zf) Z0 vSub_K)) SV vMod_K)) Zd) Zd) (Z1 (Zg (Zh (Zh (Zh (Zh (Zh (Zh (Za SV Zf) (Za SV Zf) vMul_K) Z0 vMul_K) (Zh (Za SV Zf) Z0 vMul_K) (vAdd_K trivial)) (Za SV Zf) (vAdd_K trivial)) Z0 vFloorDiv_K) SV vMod_K)) Zd)))
theorem f__law_signed(w:World)(l:List Str)(mg mb:Str→Option Value):FnSim (Wd03 w l mg mb) (.ref 240) 570 (6+1) (runF 570 2 m__law_signed):=by
 refine FnSim_def (W:=Wd03 w l mg mb) (T:=580) (ho:=by rfl) (hcd:=by rfl) (hok:=by rfl) (hbind:=(fun s xs hl hk=>bind2 hl (fun a b=>by rfl))) (hbody:=?_)
 intro A L mid
 exact(Z1 (Zu (Za SV (Zh (Zh (C1 (Z7 (g_len _) (by decide +kernel) (by decide) (by rfl)) CallOk.builtin SV bLen_C) Z0 vSub_K) (C2 (Zm (g__law_sip _) (by rfl)) (CallOk.K (kp_233 _)) SV (C1 (Z7 (g_len _) (by decide +kernel) (by decide) (by rfl)) CallOk.builtin SV bLen_C) (SimC_fn (f__law_sip _ _ _ _) (nB rfl) (nB rfl))) vSub_K)) (Z3 (by rfl) (by rfl))) (Z1 (Zg (Yg (Z5 (C2 (Zm (g__law_sip _) (by rfl)) (CallOk.K (kp_233 _)) SV Z0 (SimC_fn (f__law_sip _ _ _ _) (nB rfl) (nB rfl))) Z0 vEq_K) SV (Zp SV vNeg_K))) Zd))
theorem f_Circuit_init__(w:World)(l:List Str)(mg mb:Str→Option Value):FnSim (Wd03 w l mg mb) (.ref 130) 560 (3+1) (runF 560 1 m_Circuit_init__):=by
 refine FnSim_def (W:=Wd03 w l mg mb) (T:=570) (ho:=by rfl) (hcd:=by rfl) (hok:=by rfl) (hbind:=(fun s xs hl hk=>bind1 hl (fun a=>by rfl))) (hbody:=?_)
 intro A L mid
 exact(Z1 (Zy (so_Circuit_kinds _ _ _ _) (Y4 (some 3) (Z2 Zf (Z2 Zf Ze)) ⟨(nB rfl),.inl (nB rfl)⟩) SV) (Z1 (Zy (so_Circuit_parts_now _ _ _ _) (Y4 (some 4) (Z2 (Y5 Ze) (Z2 (Y5 Ze) Ze)) ⟨(nB rfl),.inl (nB rfl)⟩) SV) (Z1 (Zy (so_Circuit_known _ _ _ _) (Yo 5 _ emptyT (nB rfl) (.inl (nB rfl))) SV) Zd)))
theorem f_Circuit_size(w:World)(l:List Str)(mg mb:Str→Option Value):FnSim (Wd03 w l mg mb) (.ref 137) 540 (3+1) (runF 540 1 m_Circuit_size):=by
 refine FnSim_def (W:=Wd03 w l mg mb) (T:=560) (ho:=by rfl) (hcd:=by rfl) (hok:=by rfl) (hbind:=(fun s xs hl hk=>bind1 hl (fun a=>by rfl))) (hbody:=?_)
 intro A L mid
 exact(Z1 (Zg (Zh (C1 (Z7 (g_len _) (by decide +kernel) (by decide) (by rfl)) CallOk.builtin (Zn (at_Circuit_kinds _ _ _ _) SV) bLen_C) Z0 vSub_K)) Zd)
theorem f_Circuit_kind(w:World)(l:List Str)(mg mb:Str→Option Value):FnSim (Wd03 w l mg mb) (.ref 144) 520 (3+1) (runF 520 2 m_Circuit_kind):=by
 refine FnSim_def (W:=Wd03 w l mg mb) (T:=540) (ho:=by rfl) (hcd:=by rfl) (hok:=by rfl) (hbind:=(fun s xs hl hk=>bind2 hl (fun a b=>by rfl))) (hbody:=?_)
 intro A L mid
 exact(Z1 (Zg (Za (Zn (at_Circuit_kinds _ _ _ _) SV) (C1 (Z7 (g_abs _) (by decide +kernel) (by decide) (by rfl)) CallOk.builtin SV bAbs_C))) Zd)
theorem f_Circuit_parts(w:World)(l:List Str)(mg mb:Str→Option Value):FnSim (Wd03 w l mg mb) (.ref 151) 500 (3+1) (runF 500 2 m_Circuit_parts):=by
 refine FnSim_def (W:=Wd03 w l mg mb) (T:=520) (ho:=by rfl) (hcd:=by rfl) (hok:=by rfl) (hbind:=(fun s xs hl hk=>bind2 hl (fun a b=>by rfl))) (hbody:=?_)
 intro A L mid
 exact(Z1 (Zg (Za (Zn (at_Circuit_parts_now _ _ _ _) SV) (C1 (Z7 (g_abs _) (by decide +kernel) (by decide) (by rfl)) CallOk.builtin SV bAbs_C))) Zd)
theorem f_Circuit_new_gate(w:World)(l:List Str)(mg mb:Str→Option Value):FnSim (Wd03 w l mg mb) (.ref 158) 480 (3+1) (runF 480 3 m_Circuit_new_gate):=by
 refine FnSim_def (W:=Wd03 w l mg mb) (T:=500) (ho:=by rfl) (hcd:=by rfl) (hok:=by rfl) (hbind:=(fun s xs hl hk=>bind3 hl (fun a b c=>by rfl))) (hbody:=?_)
 intro A L mid
 exact(Z1 (Y1 (M1 _ (Zn (at_Circuit_kinds _ _ _ _) SV) SV (MethAt.list PySem.F.slot_list_append PySem.F.type_list_append) CallOk.builtin mApp_C)) (Z1 (Y1 (M1 _ (Zn (at_Circuit_parts_now _ _ _ _) SV) SV (MethAt.list PySem.F.slot_list_append PySem.F.type_list_append) CallOk.builtin mApp_C)) (Z1 (Zg (Zh (C1 (Z7 (g_len _) (by decide +kernel) (by decide) (by rfl)) CallOk.builtin (Zn (at_Circuit_kinds _ _ _ _) SV) bLen_C) Z0 vSub_K)) Zd)))
theorem f_Circuit_new_input(w:World)(l:List Str)(mg mb:Str→Option Value):FnSim (Wd03 w l mg mb) (.ref 165) 460 (6+1) (runF 460 1 m_Circuit_new_input):=by
 refine FnSim_def (W:=Wd03 w l mg mb) (T:=480) (ho:=by rfl) (hcd:=by rfl) (hok:=by rfl) (hbind:=(fun s xs hl hk=>bind1 hl (fun a=>by rfl))) (hbody:=?_)
 intro A L mid
 exact(Z1 (Zg (M2 _ (SV) Zf (Y5 Ze) (MethAt.inst (pg_Circuit_new_gate _) (mf_Circuit_new_gate _) (fn_158 _)) (CallOk.K (kp_158 _)) (SimC_fn (f_Circuit_new_gate _ _ _ _) (nB rfl) (nB rfl)))) Zd)
theorem f_Circuit_all_of(w:World)(l:List Str)(mg mb:Str→Option Value):FnSim (Wd03 w l mg mb) (.ref 172) 440 (6+1) (runF 440 2 m_Circuit_all_of):=by
 refine FnSim_def (W:=Wd03 w l mg mb) (T:=460) (ho:=by rfl) (hcd:=by rfl) (hok:=by rfl) (hbind:=(fun s xs hl hk=>bind2 hl (fun a b=>by rfl))) (hbody:=?_)
 intro A L mid
 exact(Z1 (Zu (Yo 440 _ emptyI (nB rfl) (.inr (nB rfl))) (Z3 (by rfl) (by rfl))) (Z1 (Yi SV (SimA.name (Z3 (by rfl) (by rfl))) (Z1 (Y0 (Zx (Zz (Z5 SV (Zp Z0 vNeg_K) vEq_K) (Zz (Z5 (Zp SV vNeg_K) SV vIn_K) Ym))) (Z1 (Zg (Zp Z0 vNeg_K)) Zd) Zd) (Z1 (Y0 (Z5 SV Z0 vNe_K) (Z1 (Zw Zl SV SV) Zd) Zd) Zd))) (Z1 (Zu (C1 (Z7 (g_tuple _) (by decide +kernel) (by decide) (by rfl)) CallOk.type (C1 (Z7 (g_sorted _) (by decide +kernel) (by decide) (by rfl)) CallOk.builtin SV (bSorted_C trivial)) bTuple_C) (Z3 (by rfl) (by rfl))) (Z1 (Y0 (Z5 (C1 (Z7 (g_len _) (by decide +kernel) (by decide) (by rfl)) CallOk.builtin SV bLen_C) Z0 vLt_K) (Z1 (Zg (Yg (Z5 (C1 (Z7 (g_len _) (by decide +kernel) (by decide) (by rfl)) CallOk.builtin SV bLen_C) Z0 vEq_K) (Za SV Z0) Z0)) Zd) Zd) (Z1 (Y0 (Z5 SV (Zn (at_Circuit_known _ _ _ _) SV) vNotIn_K) (Z1 (Zw (M2 _ (SV) Zf SV (MethAt.inst (pg_Circuit_new_gate _) (mf_Circuit_new_gate _) (fn_158 _)) (CallOk.K (kp_158 _)) (SimC_fn (f_Circuit_new_gate _ _ _ _) (nB rfl) (nB rfl))) (Zn (at_Circuit_known _ _ _ _) SV) SV) Zd) Zd) (Z1 (Zg (Za (Zn (at_Circuit_known _ _ _ _) SV) SV)) Zd))))))
theorem f_Circuit_any_of(w:World)(l:List Str)(mg mb:Str→Option Value):FnSim (Wd03 w l mg mb) (.ref 177) 420 (9+1) (runF 420 2 m_Circuit_any_of):=by
 refine FnSim_def (W:=Wd03 w l mg mb) (T:=440) (ho:=by rfl) (hcd:=by rfl) (hok:=by rfl) (hbind:=(fun s xs hl hk=>bind2 hl (fun a b=>by rfl))) (hbody:=?_)
 intro A L mid
 exact(Z1 (Zg (Zp (M1 _ (SV) (Yj none trivial SV (by rfl) (by rfl) (fun _=>SimT.nil) (fun _=>(Zp SV vNeg_K))) (MethAt.inst (pg_Circuit_all_of _) (mf_Circuit_all_of _) (fn_172 _)) (CallOk.K (kp_172 _)) (SimC_fn (f_Circuit_all_of _ _ _ _) (nB rfl) (nB rfl))) vNeg_K)) Zd)
theorem f_Circuit_implies(w:World)(l:List Str)(mg mb:Str→Option Value):FnSim (Wd03 w l mg mb) (.ref 198) 400 (9+1) (runF 400 3 m_Circuit_implies):=by
 refine FnSim_def (W:=Wd03 w l mg mb) (T:=420) (ho:=by rfl) (hcd:=by rfl) (hok:=by rfl) (hbind:=(fun s xs hl hk=>bind3 hl (fun a b c=>by rfl))) (hbody:=?_)
 intro A L mid
 exact(Z1 (Zg (Zp (M1 _ (SV) (Y5 (Z2 SV (Z2 (Zp SV vNeg_K) Ze))) (MethAt.inst (pg_Circuit_all_of _) (mf_Circuit_all_of _) (fn_172 _)) (CallOk.K (kp_172 _)) (SimC_fn (f_Circuit_all_of _ _ _ _) (nB rfl) (nB rfl))) vNeg_K)) Zd)
theorem f_Circuit_iff(w:World)(l:List Str)(mg mb:Str→Option Value):FnSim (Wd03 w l mg mb) (.ref 205) 380 (12+1) (runF 380 3 m_Circuit_iff):=by
 refine FnSim_def (W:=Wd03 w l mg mb) (T:=400) (ho:=by rfl) (hcd:=by rfl) (hok:=by rfl) (hbind:=(fun s xs hl hk=>bind3 hl (fun a b c=>by rfl))) (hbody:=?_)
 intro A L mid
 exact(Z1 (Zg (M1 _ (SV) (Y5 (Z2 (M2 _ (SV) SV SV (MethAt.inst (pg_Circuit_implies _) (mf_Circuit_implies _) (fn_198 _)) (CallOk.K (kp_198 _)) (SimC_fn (f_Circuit_implies _ _ _ _) (nB rfl) (nB rfl))) (Z2 (M2 _ (SV) SV SV (MethAt.inst (pg_Circuit_implies _) (mf_Circuit_implies _) (fn_198 _)) (CallOk.K (kp_198 _)) (SimC_fn (f_Circuit_implies _ _ _ _) (nB rfl) (nB rfl))) Ze))) (MethAt.inst (pg_Circuit_all_of _) (mf_Circuit_all_of _) (fn_172 _)) (CallOk.K (kp_172 _)) (SimC_fn (f_Circuit_all_of _ _ _ _) (nB rfl) (nB rfl)))) Zd)
theorem f_Circuit_choose(w:World)(l:List Str)(mg mb:Str→Option Value):FnSim (Wd03 w l mg mb) (.ref 219) 360 (12+1) (runF 360 4 m_Circuit_choose):=by
 refine FnSim_def (W:=Wd03 w l mg mb) (T:=380) (ho:=by rfl) (hcd:=by rfl) (hok:=by rfl) (hbind:=(fun s xs hl hk=>bind4 hl (fun a b c d=>by rfl))) (hbody:=?_)
 intro A L mid
 exact(Z1 (Zg (M1 _ (SV) (Y5 (Z2 (M2 _ (SV) SV SV (MethAt.inst (pg_Circuit_implies _) (mf_Circuit_implies _) (fn_198 _)) (CallOk.K (kp_198 _)) (SimC_fn (f_Circuit_implies _ _ _ _) (nB rfl) (nB rfl))) (Z2 (M2 _ (SV) (Zp SV vNeg_K) SV (MethAt.inst (pg_Circuit_implies _) (mf_Circuit_implies _) (fn_198 _)) (CallOk.K (kp_198 _)) (SimC_fn (f_Circuit_implies _ _ _ _) (nB rfl) (nB rfl))) Ze))) (MethAt.inst (pg_Circuit_all_of _) (mf_Circuit_all_of _) (fn_172 _)) (CallOk.K (kp_172 _)) (SimC_fn (f_Circuit_all_of _ _ _ _) (nB rfl) (nB rfl)))) Zd)
theorem f_Clauses_tell(w:World)(l:List Str)(mg mb:Str→Option Value):FnSim (Wd03 w l mg mb) (.ref 85) 340 (9+1) (runF 340 2 m_Clauses_tell):=by
 refine FnSim_def (W:=Wd03 w l mg mb) (T:=360) (ho:=by rfl) (hcd:=by rfl) (hok:=by rfl) (hbind:=(fun s xs hl hk=>bind2 hl (fun a b=>by rfl))) (hbody:=?_)
 intro A L mid
 exact(Z1 (Zu (C1 (Zm (g_clause_of _) (by rfl)) (CallOk.K (kp_28 _)) SV (SimC_fn (f_clause_of _ _ _ _) (nB rfl) (nB rfl))) (Z3 (by rfl) (by rfl))) (Z1 (Y0 (Z5 SV Y6 vIsNot_K) (Z1 (Y1 (M1 _ (Zn (at_Clauses_clauses _ _ _ _) SV) SV (MethAt.list PySem.F.slot_list_append PySem.F.type_list_append) CallOk.builtin mApp_C)) Zd) Zd) Zd))
theorem f_Clauses_many(w:World)(l:List Str)(mg mb:Str→Option Value):FnSim (Wd03 w l mg mb) (.ref 57) 320 (3+1) (runF 320 1 m_Clauses_many):=by
 refine FnSim_def (W:=Wd03 w l mg mb) (T:=340) (ho:=by rfl) (hcd:=by rfl) (hok:=by rfl) (hbind:=(fun s xs hl hk=>bind1 hl (fun a=>by rfl))) (hbody:=?_)
 intro A L mid
 exact(Z1 (Zg (Zh (C1 (Z7 (g_len _) (by decide +kernel) (by decide) (by rfl)) CallOk.builtin (Zn (at_Clauses_gates _ _ _ _) SV) bLen_C) Z0 vSub_K)) Zd)
theorem f_Clauses_number_of(w:World)(l:List Str)(mg mb:Str→Option Value):FnSim (Wd03 w l mg mb) (.ref 64) 300 (3+1) (runF 300 2 m_Clauses_number_of):=by
 refine FnSim_def (W:=Wd03 w l mg mb) (T:=320) (ho:=by rfl) (hcd:=by rfl) (hok:=by rfl) (hbind:=(fun s xs hl hk=>bind2 hl (fun a b=>by rfl))) (hbody:=?_)
 intro A L mid
 exact(Z1 (Y0 (Z5 SV (Zn (at_Clauses_numbers _ _ _ _) SV) vNotIn_K) (Z1 (Zw (C1 (Z7 (g_len _) (by decide +kernel) (by decide) (by rfl)) CallOk.builtin (Zn (at_Clauses_gates _ _ _ _) SV) bLen_C) (Zn (at_Clauses_numbers _ _ _ _) SV) SV) (Z1 (Y1 (M1 _ (Zn (at_Clauses_gates _ _ _ _) SV) SV (MethAt.list PySem.F.slot_list_append PySem.F.type_list_append) CallOk.builtin mApp_C)) Zd)) Zd) (Z1 (Zg (Za (Zn (at_Clauses_numbers _ _ _ _) SV) SV)) Zd))
theorem f_Clauses_init__(w:World)(l:List Str)(mg mb:Str→Option Value):FnSim (Wd03 w l mg mb) (.ref 50) 280 (6+1) (runF 280 3 m_Clauses_init__):=by
 refine FnSim_def (W:=Wd03 w l mg mb) (T:=300) (ho:=by rfl) (hcd:=by rfl) (hok:=by rfl) (hbind:=(fun s xs hl hk=>bindD3 hl (fun a b c=>binds_K hk (by rfl) (by rfl) (by rfl) (by rfl) (by rfl)))) (hbody:=?_)
 intro A L mid
 exact(Z1 (Zy (so_Clauses_circuit _ _ _ _) SV SV) (Z1 (Zy (so_Clauses_whole _ _ _ _) SV SV) (Z1 (Zy (so_Clauses_clauses _ _ _ _) (Y4 (some 8) Ze ⟨(nB rfl),.inl (nB rfl)⟩) SV) (Z1 (Zy (so_Clauses_gates _ _ _ _) (Y4 (some 9) (Z2 Z0 Ze) ⟨(nB rfl),.inl (nB rfl)⟩) SV) (Z1 (Zy (so_Clauses_numbers _ _ _ _) (Yo 10 _ emptyI (nB rfl) (.inl (nB rfl))) SV) (Z1 (Zy (so_Clauses_opened _ _ _ _) (Yo 11 _ emptyI (nB rfl) (.inl (nB rfl))) SV) (Z1 (Zy (so_Clauses_waiting _ _ _ _) (Y4 (some 12) Ze ⟨(nB rfl),.inl (nB rfl)⟩) SV) (Z1 (Yi (C2 (Z7 (g_range _) (by decide +kernel) (by decide) (by rfl)) CallOk.type Z0 (Zh (M0 _ (SV) (MethAt.inst (pg_Circuit_size _) (mf_Circuit_size _) (fn_137 _)) (CallOk.K (kp_137 _)) (SimC_fn (f_Circuit_size _ _ _ _) (nB rfl) (nB rfl))) Z0 (vAdd_K trivial)) bRange_C) (SimA.name (Z3 (by rfl) (by rfl))) (Z1 (Y0 (Z5 (M1 _ (SV) SV (MethAt.inst (pg_Circuit_kind _) (mf_Circuit_kind _) (fn_144 _)) (CallOk.K (kp_144 _)) (SimC_fn (f_Circuit_kind _ _ _ _) (nB rfl) (nB rfl))) Zf vEq_K) (Z1 (Y1 (M1 _ (SV) SV (MethAt.inst (pg_Clauses_number_of _) (mf_Clauses_number_of _) (fn_64 _)) (CallOk.K (kp_64 _)) (SimC_fn (f_Clauses_number_of _ _ _ _) (nB rfl) (nB rfl)))) Zd) Zd) Zd)) Zd))))))))
theorem f_Clauses_enter(w:World)(l:List Str)(mg mb:Str→Option Value):FnSim (Wd03 w l mg mb) (.ref 78) 260 (6+1) (runF 260 2 m_Clauses_enter):=by
 refine FnSim_def (W:=Wd03 w l mg mb) (T:=280) (ho:=by rfl) (hcd:=by rfl) (hok:=by rfl) (hbind:=(fun s xs hl hk=>bind2 hl (fun a b=>by rfl))) (hbody:=?_)
 intro A L mid
 exact(Z1 (Zu (C1 (Z7 (g_abs _) (by decide +kernel) (by decide) (by rfl)) CallOk.builtin SV bAbs_C) (Z3 (by rfl) (by rfl))) (Z1 (Zu (M1 _ (SV) SV (MethAt.inst (pg_Clauses_number_of _) (mf_Clauses_number_of _) (fn_64 _)) (CallOk.K (kp_64 _)) (SimC_fn (f_Clauses_number_of _ _ _ _) (nB rfl) (nB rfl))) (Z3 (by rfl) (by rfl))) (Z1 (Yi (Yg (Z5 (Zn (at_Clauses_whole _ _ _ _) SV) Z0 vGt_K) (Y5 (Z2 SV (Z2 (Zp SV vNeg_K) Ze))) (Y5 (Z2 SV Ze))) (SimA.name (Z3 (by rfl) (by rfl))) (Z1 (Y0 (Z5 SV (Zn (at_Clauses_opened _ _ _ _) SV) vNotIn_K) (Z1 (Zw Zl (Zn (at_Clauses_opened _ _ _ _) SV) SV) (Z1 (Y1 (M1 _ (Zn (at_Clauses_waiting _ _ _ _) SV) SV (MethAt.list PySem.F.slot_list_append PySem.F.type_list_append) CallOk.builtin mApp_C)) Zd)) Zd) Zd)) (Z1 (Zg (Yg (Z5 SV Z0 vGt_K) SV (Zp SV vNeg_K))) Zd))))
theorem f_Clauses_open_gate(w:World)(l:List Str)(mg mb:Str→Option Value):FnSim (Wd03 w l mg mb) (.ref 90) 240 (12+1) (runF 240 2 m_Clauses_open_gate):=by
 refine FnSim_def (W:=Wd03 w l mg mb) (T:=260) (ho:=by rfl) (hcd:=by rfl) (hok:=by rfl) (hbind:=(fun s xs hl hk=>bind2 hl (fun a b=>by rfl))) (hbody:=?_)
 intro A L mid
 exact(Z1 (Zv (names := [(Xx "kind"),(Xx "number")]) (Z2 (M1 _ (Zn (at_Clauses_circuit _ _ _ _) (Zj (Zb (by rfl) (by rfl) (by rfl)))) (C1 (Z7 (g_abs _) (by decide +kernel) (by decide) (by rfl)) CallOk.builtin SV bAbs_C) (MethAt.inst (pg_Circuit_kind _) (mf_Circuit_kind _) (fn_144 _)) (CallOk.K (kp_144 _)) (SimC_fn (f_Circuit_kind _ _ _ _) (nB rfl) (nB rfl))) (Z2 (Za (Zn (at_Clauses_numbers _ _ _ _) (Zj (Zb (by rfl) (by rfl) (by rfl)))) (C1 (Z7 (g_abs _) (by decide +kernel) (by decide) (by rfl)) CallOk.builtin SV bAbs_C)) Ze)) (.cons (SimSts.bind (Z3 (by rfl) (by rfl))) (.cons (SimSts.bind (Z3 (by rfl) (by rfl))) .nil)) (by rfl)) (Z1 (Y0 (Z5 SV Zf vEq_K) (Z1 (Y1 (M1 _ (Zj (Zb (by rfl) (by rfl) (by rfl))) (Y4 none (Z2 SV Ze) trivial) (MethAt.inst (pg_Clauses_tell _) (mf_Clauses_tell _) (fn_85 _)) (CallOk.K (kp_85 _)) (SimC_fn (f_Clauses_tell _ _ _ _) (nB rfl) (nB rfl)))) Zd) (Z1 (Y0 (Zx (Y2 (Z5 SV Zf vEq_K) (Y2 (Z5 SV Z0 vGt_K) Yk))) (Z1 (Yi (M1 _ (Zn (at_Clauses_circuit _ _ _ _) (Zj (Zb (by rfl) (by rfl) (by rfl)))) SV (MethAt.inst (pg_Circuit_parts _) (mf_Circuit_parts _) (fn_151 _)) (CallOk.K (kp_151 _)) (SimC_fn (f_Circuit_parts _ _ _ _) (nB rfl) (nB rfl))) (SimA.name (Z3 (by rfl) (by rfl))) (Z1 (Y1 (M1 _ (Zj (Zb (by rfl) (by rfl) (by rfl))) (Y4 none (Z2 (Zp SV vNeg_K) (Z2 (M1 _ (Zj (Zb (by rfl) (by rfl) (by rfl))) SV (MethAt.inst (pg_Clauses_enter _) (mf_Clauses_enter _) (fn_78 _)) (CallOk.K (kp_78 _)) (SimC_fn (f_Clauses_enter _ _ _ _) (nB rfl) (nB rfl))) Ze)) trivial) (MethAt.inst (pg_Clauses_tell _) (mf_Clauses_tell _) (fn_85 _)) (CallOk.K (kp_85 _)) (SimC_fn (f_Clauses_tell _ _ _ _) (nB rfl) (nB rfl)))) Zd)) Zd) (Z1 (Y0 (Z5 SV Zf vEq_K) (Z1 (Y1 (M1 _ (Zj (Zb (by rfl) (by rfl) (by rfl))) (Zh (Y4 none (Z2 SV Ze) trivial) (Yj none trivial (M1 _ (Zn (at_Clauses_circuit _ _ _ _) (Zj (Zb (by rfl) (by rfl) (by rfl)))) (Zp SV vNeg_K) (MethAt.inst (pg_Circuit_parts _) (mf_Circuit_parts _) (fn_151 _)) (CallOk.K (kp_151 _)) (SimC_fn (f_Circuit_parts _ _ _ _) (nB rfl) (nB rfl))) (by rfl) (by rfl) (fun _=>SimT.nil) (fun _=>(M1 _ (Zj (Zb (by rfl) (by rfl) (by rfl))) (Zp SV vNeg_K) (MethAt.inst (pg_Clauses_enter _) (mf_Clauses_enter _) (fn_78 _)) (CallOk.K (kp_78 _)) (SimC_fn (f_Clauses_enter _ _ _ _) (nB rfl) (nB rfl))))) (vAdd_K trivial)) (MethAt.inst (pg_Clauses_tell _) (mf_Clauses_tell _) (fn_85 _)) (CallOk.K (kp_85 _)) (SimC_fn (f_Clauses_tell _ _ _ _) (nB rfl) (nB rfl)))) Zd) Zd) Zd)) Zd)) Zd))
theorem f_Clauses_flush(w:World)(l:List Str)(mg mb:Str→Option Value):FnSim (Wd03 w l mg mb) (.ref 97) 220 (15+1) (runF 220 1 m_Clauses_flush):=by
 refine FnSim_def (W:=Wd03 w l mg mb) (T:=240) (ho:=by rfl) (hcd:=by rfl) (hok:=by rfl) (hbind:=(fun s xs hl hk=>bind1 hl (fun a=>by rfl))) (hbody:=?_)
 intro A L mid
 exact(Z1 (Sim_While (Z5 (C1 (Z7 (g_len _) (by decide +kernel) (by decide) (by rfl)) CallOk.builtin (Zn (at_Clauses_waiting _ _ _ _) SV) bLen_C) Z0 vGt_K) (Z1 (Y1 (M1 _ (SV) (M0 _ (Zn (at_Clauses_waiting _ _ _ _) SV) (MethAt.list PySem.F.slot_list_pop PySem.F.type_list_pop) CallOk.builtin mPop_C) (MethAt.inst (pg_Clauses_open_gate _) (mf_Clauses_open_gate _) (fn_90 _)) (CallOk.K (kp_90 _)) (SimC_fn (f_Clauses_open_gate _ _ _ _) (nB rfl) (nB rfl)))) Zd)) Zd)
theorem f_Clauses_literal_of(w:World)(l:List Str)(mg mb:Str→Option Value):FnSim (Wd03 w l mg mb) (.ref 104) 200 (18+1) (runF 200 2 m_Clauses_literal_of):=by
 refine FnSim_def (W:=Wd03 w l mg mb) (T:=220) (ho:=by rfl) (hcd:=by rfl) (hok:=by rfl) (hbind:=(fun s xs hl hk=>bind2 hl (fun a b=>by rfl))) (hbody:=?_)
 intro A L mid
 exact(Z1 (Zu (M1 _ (SV) SV (MethAt.inst (pg_Clauses_enter _) (mf_Clauses_enter _) (fn_78 _)) (CallOk.K (kp_78 _)) (SimC_fn (f_Clauses_enter _ _ _ _) (nB rfl) (nB rfl))) (Z3 (by rfl) (by rfl))) (Z1 (Y1 (M0 _ (SV) (MethAt.inst (pg_Clauses_flush _) (mf_Clauses_flush _) (fn_97 _)) (CallOk.K (kp_97 _)) (SimC_fn (f_Clauses_flush _ _ _ _) (nB rfl) (nB rfl)))) (Z1 (Zg SV) Zd)))
theorem f_Clauses_add_top(w:World)(l:List Str)(mg mb:Str→Option Value):FnSim (Wd03 w l mg mb) (.ref 109) 180 (18+1) (runF 180 2 m_Clauses_add_top):=by
 refine FnSim_def (W:=Wd03 w l mg mb) (T:=200) (ho:=by rfl) (hcd:=by rfl) (hok:=by rfl) (hbind:=(fun s xs hl hk=>bind2 hl (fun a b=>by rfl))) (hbody:=?_)
 intro A L mid
 exact(Z1 (Zv (names := [(Xx "waiting"),(Xx "seen")]) (Z2 (Y4 (some 181) (Z2 SV Ze) ⟨(nB rfl),.inr (nB rfl)⟩) (Z2 (Yo 180 _ emptyI (nB rfl) (.inr (nB rfl))) Ze)) (.cons (SimSts.bind (Z3 (by rfl) (by rfl))) (.cons (SimSts.bind (Z3 (by rfl) (by rfl))) .nil)) (by rfl)) (Z1 (Sim_While (Z5 (C1 (Z7 (g_len _) (by decide +kernel) (by decide) (by rfl)) CallOk.builtin SV bLen_C) Z0 vGt_K) (Z1 (Zu (M0 _ (SV) (MethAt.list PySem.F.slot_list_pop PySem.F.type_list_pop) CallOk.builtin mPop_C) (Z3 (by rfl) (by rfl))) (Z1 (Y0 (Z5 SV SV vIn_K) (Z1 Sim_Continue Zd) Zd) (Z1 (Zw Zl SV SV) (Z1 (Zu (M1 _ (Zn (at_Clauses_circuit _ _ _ _) (Zj (Zb (by rfl) (by rfl) (by rfl)))) (C1 (Z7 (g_abs _) (by decide +kernel) (by decide) (by rfl)) CallOk.builtin SV bAbs_C) (MethAt.inst (pg_Circuit_kind _) (mf_Circuit_kind _) (fn_144 _)) (CallOk.K (kp_144 _)) (SimC_fn (f_Circuit_kind _ _ _ _) (nB rfl) (nB rfl))) (Z3 (by rfl) (by rfl))) (Z1 (Y0 (Zx (Y2 (Z5 SV Zf vEq_K) (Y2 (Z5 SV Z0 vGt_K) Yk))) (Z1 (Y1 (Sim_ExtRev _ (Z7 (g_reversed _) (by decide +kernel) (by decide) (by rfl)) SV (M1 _ (Zn (at_Clauses_circuit _ _ _ _) (Zj (Zb (by rfl) (by rfl) (by rfl)))) SV (MethAt.inst (pg_Circuit_parts _) (mf_Circuit_parts _) (fn_151 _)) (CallOk.K (kp_151 _)) (SimC_fn (f_Circuit_parts _ _ _ _) (nB rfl) (nB rfl))))) Zd) (Z1 (Y0 (Z5 SV Zf vEq_K) (Z1 (Y1 (M1 _ (Zj (Zb (by rfl) (by rfl) (by rfl))) (Yj none trivial (M1 _ (Zn (at_Clauses_circuit _ _ _ _) (Zj (Zb (by rfl) (by rfl) (by rfl)))) (Zp SV vNeg_K) (MethAt.inst (pg_Circuit_parts _) (mf_Circuit_parts _) (fn_151 _)) (CallOk.K (kp_151 _)) (SimC_fn (f_Circuit_parts _ _ _ _) (nB rfl) (nB rfl))) (by rfl) (by rfl) (fun _=>SimT.nil) (fun _=>(M1 _ (Zj (Zb (by rfl) (by rfl) (by rfl))) (Zp SV vNeg_K) (MethAt.inst (pg_Clauses_enter _) (mf_Clauses_enter _) (fn_78 _)) (CallOk.K (kp_78 _)) (SimC_fn (f_Clauses_enter _ _ _ _) (nB rfl) (nB rfl))))) (MethAt.inst (pg_Clauses_tell _) (mf_Clauses_tell _) (fn_85 _)) (CallOk.K (kp_85 _)) (SimC_fn (f_Clauses_tell _ _ _ _) (nB rfl) (nB rfl)))) Zd) (Z1 (Y0 (Z5 SV Z0 vNe_K) (Z1 (Y1 (M1 _ (Zj (Zb (by rfl) (by rfl) (by rfl))) (Yg (Z5 SV Zf vEq_K) (Y4 none (Z2 (M1 _ (Zj (Zb (by rfl) (by rfl) (by rfl))) SV (MethAt.inst (pg_Clauses_enter _) (mf_Clauses_enter _) (fn_78 _)) (CallOk.K (kp_78 _)) (SimC_fn (f_Clauses_enter _ _ _ _) (nB rfl) (nB rfl))) Ze) trivial) (Y4 none Ze trivial)) (MethAt.inst (pg_Clauses_tell _) (mf_Clauses_tell _) (fn_85 _)) (CallOk.K (kp_85 _)) (SimC_fn (f_Clauses_tell _ _ _ _) (nB rfl) (nB rfl)))) Zd) Zd) Zd)) Zd)) Zd)))))) (Z1 (Y1 (M0 _ (Zj (Zb (by rfl) (by rfl) (by rfl))) (MethAt.inst (pg_Clauses_flush _) (mf_Clauses_flush _) (fn_97 _)) (CallOk.K (kp_97 _)) (SimC_fn (f_Clauses_flush _ _ _ _) (nB rfl) (nB rfl)))) Zd)))
theorem f__law_filled(w:World)(l:List Str)(mg mb:Str→Option Value):FnSim (Wd03 w l mg mb) (.ref 254) 170 (6+1) (runF 170 2 m__law_filled):=by
 refine FnSim_def (W:=Wd03 w l mg mb) (T:=180) (ho:=by rfl) (hcd:=by rfl) (hok:=by rfl) (hbind:=(fun s xs hl hk=>bind2 hl (fun a b=>by rfl))) (hbody:=?_)
 intro A L mid
 exact(Z1 (Yi (C2 (Z7 (g_range _) (by decide +kernel) (by decide) (by rfl)) CallOk.type (Zh (C1 (Z7 (g_len _) (by decide +kernel) (by decide) (by rfl)) CallOk.builtin SV bLen_C) Z0 (vAdd_K trivial)) (Zh (M0 _ (SV) (MethAt.inst (pg_Circuit_size _) (mf_Circuit_size _) (fn_137 _)) (CallOk.K (kp_137 _)) (SimC_fn (f_Circuit_size _ _ _ _) (nB rfl) (nB rfl))) Z0 (vAdd_K trivial)) bRange_C) (SimA.name (Z3 (by rfl) (by rfl))) (Z1 (Zw Z0 SV SV) (Z1 (Yi (M1 _ (SV) SV (MethAt.inst (pg_Circuit_parts _) (mf_Circuit_parts _) (fn_151 _)) (CallOk.K (kp_151 _)) (SimC_fn (f_Circuit_parts _ _ _ _) (nB rfl) (nB rfl))) (SimA.name (Z3 (by rfl) (by rfl))) (Z1 (Zw (Zh (Za SV SV) (C2 (Zm (g__law_mask _) (by rfl)) (CallOk.K (kp_247 _)) SV SV (SimC_fn (f__law_mask _ _ _ _) (nB rfl) (nB rfl))) vAnd_K) SV SV) Zd)) Zd))) Zd)
theorem f__law_gate(w:World)(l:List Str)(mg mb:Str→Option Value):FnSim (Wd03 w l mg mb) (.ref 259) 160 (15+1) (runF 160 4 m__law_gate):=by
 refine FnSim_def (W:=Wd03 w l mg mb) (T:=170) (ho:=by rfl) (hcd:=by rfl) (hok:=by rfl) (hbind:=(fun s xs hl hk=>bind4 hl (fun a b c d=>by rfl))) (hbody:=?_)
 intro A L mid
 exact(Z1 (Zu (C2 (Zm (g__law_sip _) (by rfl)) (CallOk.K (kp_233 _)) (Zj (Zb (by rfl) (by rfl) (by rfl))) Z0 (SimC_fn (f__law_sip _ _ _ _) (nB rfl) (nB rfl))) (Z3 (by rfl) (by rfl))) (Z1 (Y7 none trivial (C1 (Z7 (g_range _) (by decide +kernel) (by decide) (by rfl)) CallOk.type (Yg (Z5 SV Z0 vLt_K) (Zh Z0 (C2 (Zm (g__law_sip _) (by rfl)) (CallOk.K (kp_233 _)) (Zj (Zb (by rfl) (by rfl) (by rfl))) Z0 (SimC_fn (f__law_sip _ _ _ _) (nB rfl) (nB rfl))) (vAdd_K trivial)) SV) bRange_C) (by rfl) (by rfl) (fun _=>SimT.nil) (fun _=>(C2 (Zm (g__law_signed _) (by rfl)) (CallOk.K (kp_240 _)) (Zj (Zb (by rfl) (by rfl) (by rfl))) (Zj (Zb (by rfl) (by rfl) (by rfl))) (SimC_fn (f__law_signed _ _ _ _) (nB rfl) (nB rfl)))) (Z3 (by rfl) (by rfl))) (Z1 (Y7 none trivial SV (by rfl) (by rfl) (fun _=>SimT.nil) (fun _=>(C2 (Zm (g__law_mask _) (by rfl)) (CallOk.K (kp_247 _)) (Zj (Zb (by rfl) (by rfl) (by rfl))) SV (SimC_fn (f__law_mask _ _ _ _) (nB rfl) (nB rfl)))) (Z3 (by rfl) (by rfl))) (Z1 (Y0 (Z5 SV Z0 vEq_K) (Z1 (Zv (names := [(Xx "gate"),(Xx "due")]) (Z2 (M1 _ (SV) SV (MethAt.inst (pg_Circuit_all_of _) (mf_Circuit_all_of _) (fn_172 _)) (CallOk.K (kp_172 _)) (SimC_fn (f_Circuit_all_of _ _ _ _) (nB rfl) (nB rfl))) (Z2 (Zh (Zh (Zh (Za SV Z0) (Za SV Z0) vAnd_K) (Za SV Z0) vAnd_K) (Za SV (Zp Z0 vNeg_K)) vAnd_K) Ze)) (.cons (SimSts.bind (Z3 (by rfl) (by rfl))) (.cons (SimSts.bind (Z3 (by rfl) (by rfl))) .nil)) (by rfl)) Zd) (Z1 (Y0 (Z5 SV Z0 vEq_K) (Z1 (Zv (names := [(Xx "gate"),(Xx "due")]) (Z2 (M1 _ (SV) SV (MethAt.inst (pg_Circuit_any_of _) (mf_Circuit_any_of _) (fn_177 _)) (CallOk.K (kp_177 _)) (SimC_fn (f_Circuit_any_of _ _ _ _) (nB rfl) (nB rfl))) (Z2 (Zh (Zh (Zh (Za SV Z0) (Za SV Z0) vOr_K) (Za SV Z0) vOr_K) (Za SV (Zp Z0 vNeg_K)) vOr_K) Ze)) (.cons (SimSts.bind (Z3 (by rfl) (by rfl))) (.cons (SimSts.bind (Z3 (by rfl) (by rfl))) .nil)) (by rfl)) Zd) (Z1 (Y0 (Z5 SV Z0 vEq_K) (Z1 (Zv (names := [(Xx "gate"),(Xx "due")]) (Z2 (M2 _ (SV) (Za SV Z0) (Za SV Z0) (MethAt.inst (pg_Circuit_iff _) (mf_Circuit_iff _) (fn_205 _)) (CallOk.K (kp_205 _)) (SimC_fn (f_Circuit_iff _ _ _ _) (nB rfl) (nB rfl))) (Z2 (Zh Z0 (Zh (Za SV Z0) (Za SV Z0) vXor_K) vSub_K) Ze)) (.cons (SimSts.bind (Z3 (by rfl) (by rfl))) (.cons (SimSts.bind (Z3 (by rfl) (by rfl))) .nil)) (by rfl)) Zd) (Z1 (Zv (names := [(Xx "gate"),(Xx "due")]) (Z2 (Yn _ SV (Z2 (Za SV Z0) (Z2 (Za SV Z0) (Z2 (Za SV Z0) Ze))) (TreesOk.cons (TreesOk.cons (TreesOk.cons TreesOk.nil))) (MethAt.inst (pg_Circuit_choose _) (mf_Circuit_choose _) (fn_219 _)) (CallOk.K (kp_219 _)) (SimC_fn (f_Circuit_choose _ _ _ _) (nB rfl) (nB rfl))) (Z2 (Zh (Zh (Za SV Z0) (Za SV Z0) vAnd_K) (Zh (Zh Z0 (Za SV Z0) vSub_K) (Za SV Z0) vAnd_K) vOr_K) Ze)) (.cons (SimSts.bind (Z3 (by rfl) (by rfl))) (.cons (SimSts.bind (Z3 (by rfl) (by rfl))) .nil)) (by rfl)) Zd)) Zd)) Zd)) (Z1 (Y1 (C2 (Zm (g__law_filled _) (by rfl)) (CallOk.K (kp_254 _)) SV (Zj (Zb (by rfl) (by rfl) (by rfl))) (SimC_fn (f__law_filled _ _ _ _) (nB rfl) (nB rfl)))) (Z1 (Y1 (M1 _ (Zj (Zb (by rfl) (by rfl) (by rfl))) SV (MethAt.list PySem.F.slot_list_append PySem.F.type_list_append) CallOk.builtin mApp_C)) (Z1 (Zg (Zs (C2 (Zm (g__law_mask _) (by rfl)) (CallOk.K (kp_247 _)) (Zj (Zb (by rfl) (by rfl) (by rfl))) SV (SimC_fn (f__law_mask _ _ _ _) (nB rfl) (nB rfl))) SV vEq_K)) Zd)))))))
theorem f__law_row_right(w:World)(l:List Str)(mg mb:Str→Option Value):FnSim (Wd03 w l mg mb) (.ref 269) 140 (6+1) (runF 140 5 m__law_row_right):=by
 refine FnSim_def (W:=Wd03 w l mg mb) (T:=160) (ho:=by rfl) (hcd:=by rfl) (hok:=by rfl) (hbind:=(fun s xs hl hk=>bind5 hl (fun a b c d e=>by rfl))) (hbody:=?_)
 intro A L mid
 exact(Z1 (Zu (C1 (Z7 (g_dict _) (by decide +kernel) (by decide) (by rfl)) CallOk.type (Yj none trivial (C2 (Z7 (g_range _) (by decide +kernel) (by decide) (by rfl)) CallOk.type Z0 (Zh (M0 _ (Zj (Zb (by rfl) (by rfl) (by rfl))) (MethAt.inst (pg_Clauses_many _) (mf_Clauses_many _) (fn_57 _)) (CallOk.K (kp_57 _)) (SimC_fn (f_Clauses_many _ _ _ _) (nB rfl) (nB rfl))) Z0 (vAdd_K trivial)) bRange_C) (by rfl) (by rfl) (fun _=>SimT.nil) (fun _=>(Y5 (Z2 SV (Z2 (Zs (Zh (Zh (C2 (Zm (g__law_mask _) (by rfl)) (CallOk.K (kp_247 _)) (Zj (Zb (by rfl) (by rfl) (by rfl))) (M1 _ (Zj (Zb (by rfl) (by rfl) (by rfl))) SV (MethAt.inst (pg_Clauses_gate_of _) (mf_Clauses_gate_of _) (fn_71 _)) (CallOk.K (kp_71 _)) (SimC_fn (f_Clauses_gate_of _ _ _ _) (nB rfl) (nB rfl))) (SimC_fn (f__law_mask _ _ _ _) (nB rfl) (nB rfl))) (Zj (Zb (by rfl) (by rfl) (by rfl))) vRShift_K) Z0 vAnd_K) Z0 vEq_K) Ze))))) (bDictI_C (nB rfl) (.inr (nB rfl)))) (Yp (by rfl) (by rfl) (by rfl))) (Z1 (Zu (Zs (Yj none trivial SV (by rfl) (by rfl) (fun _=>(SimT.one (Z5 (Zh (Zh (C2 (Zm (g__law_mask _) (by rfl)) (CallOk.K (kp_247 _)) (Zj (Zb (by rfl) (by rfl) (by rfl))) SV (SimC_fn (f__law_mask _ _ _ _) (nB rfl) (nB rfl))) (Zj (Zb (by rfl) (by rfl) (by rfl))) vRShift_K) Z0 vAnd_K) Z0 vEq_K))) (fun _=>SV)) (Y4 none Ze trivial) vEq_K) (Z3 (by rfl) (by rfl))) (Z1 (Zu (C2 (Zm (g__law_units _) (by rfl)) (CallOk.K (kp_264 _)) (Zn (at_Clauses_clauses _ _ _ _) (Zj (Zb (by rfl) (by rfl) (by rfl)))) (C1 (Z7 (g_dict _) (by decide +kernel) (by decide) (by rfl)) CallOk.type (Yj none trivial (Y5 (Z2 Z0 (Z2 Z0 (Z2 Z0 Ze)))) (by rfl) (by rfl) (fun _=>SimT.nil) (fun _=>(Y5 (Z2 SV (Z2 (Za (Zj (Zb (by rfl) (by rfl) (by rfl))) SV) Ze))))) (bDictI_C (nB rfl) (.inr (nB rfl)))) (SimC_fn (f__law_units _ _ _ _) (nB rfl) (nB rfl))) (Z3 (by rfl) (by rfl))) (Z1 (Y0 (Z5 (Zs SV Y6 vIs_K) SV vEq_K) (Z1 (Zg Zl) Zd) Zd) (Z1 (Y0 (Ye (Yc SV)) (Z1 (Zg Zl) Zd) Zd) (Z1 (Y0 (Z5 (Yj none trivial (Zn (at_Clauses_clauses _ _ _ _) (Zj (Zb (by rfl) (by rfl) (by rfl)))) (by rfl) (by rfl) (fun _=>(SimT.one (Z5 (Yj none trivial SV (by rfl) (by rfl) (fun _=>(SimT.one (Z5 (Za (Zj (Zb (by rfl) (by rfl) (by rfl))) (C1 (Z7 (g_abs _) (by decide +kernel) (by decide) (by rfl)) CallOk.builtin SV bAbs_C)) (Zs SV Z0 vGt_K) vEq_K))) (fun _=>SV)) (Y4 none Ze trivial) vEq_K))) (fun _=>SV)) (Y4 none Ze trivial) vNe_K) (Z1 (Zg Zl) Zd) Zd) (Z1 (Yi SV (SimA.tuple (.cons (SimSts.name (Z3 (by rfl) (by rfl))) (.cons (SimSts.name (Z3 (by rfl) (by rfl))) .nil))) (Z1 (Zu (Zs (Zh (Zh (C2 (Zm (g__law_mask _) (by rfl)) (CallOk.K (kp_247 _)) (Zj (Zb (by rfl) (by rfl) (by rfl))) SV (SimC_fn (f__law_mask _ _ _ _) (nB rfl) (nB rfl))) (Zj (Zb (by rfl) (by rfl) (by rfl))) vRShift_K) Z0 vAnd_K) Z0 vEq_K) (Z3 (by rfl) (by rfl))) (Z1 (Zu (Yg (Z5 (C1 (Z7 (g_abs _) (by decide +kernel) (by decide) (by rfl)) CallOk.builtin SV bAbs_C) SV vNotIn_K) Y6 (Zs (Za SV (C1 (Z7 (g_abs _) (by decide +kernel) (by decide) (by rfl)) CallOk.builtin SV bAbs_C)) (Zs SV Z0 vGt_K) vEq_K)) (Z3 (by rfl) (by rfl))) (Z1 (Y0 (Zx (Zz (Zx (Y2 (Z5 SV Y6 vIs_K) (Y2 (Zx (Zz (Ye (Yc SV)) (Zz (Z5 (Zn (at_Clauses_whole _ _ _ _) (Zj (Zb (by rfl) (by rfl) (by rfl)))) Z0 vEq_K) Ym))) Yk))) (Zz (Zx (Y2 (Z5 SV Y6 vIsNot_K) (Y2 (Z5 SV SV vNe_K) Yk))) Ym))) (Z1 (Zg Zl) Zd) Zd) Zd)))) (Z1 (Zg Zl) Zd))))))))
theorem f__law_deed_right(w:World)(l:List Str)(mg mb:Str→Option Value):FnSim (Wd03 w l mg mb) (.ref 279) 120 (21+1) (runF 120 5 m__law_deed_right):=by
 refine FnSim_def (W:=Wd03 w l mg mb) (T:=140) (ho:=by rfl) (hcd:=by rfl) (hok:=by rfl) (hbind:=(fun s xs hl hk=>bind5 hl (fun a b c d e=>by rfl))) (hbody:=?_)
 intro A L mid
 exact(Z1 (Zv (names := [(Xx "is_top"),(Xx "gate")]) (Z2 (Zs (C2 (Zm (g__law_sip _) (by rfl)) (CallOk.K (kp_233 _)) SV Z0 (SimC_fn (f__law_sip _ _ _ _) (nB rfl) (nB rfl))) Z0 vEq_K) (Z2 (Za (Zh (Y4 none (Z2 Z0 Ze) trivial) SV (vAdd_K trivial)) (C2 (Zm (g__law_sip _) (by rfl)) (CallOk.K (kp_233 _)) SV (Zh (C1 (Z7 (g_len _) (by decide +kernel) (by decide) (by rfl)) CallOk.builtin SV bLen_C) Z0 (vAdd_K trivial)) (SimC_fn (f__law_sip _ _ _ _) (nB rfl) (nB rfl)))) Ze)) (.cons (SimSts.bind (Z3 (by rfl) (by rfl))) (.cons (SimSts.bind (Z3 (by rfl) (by rfl))) .nil)) (by rfl)) (Z1 (Zu (Yg (Z5 (C2 (Zm (g__law_sip _) (by rfl)) (CallOk.K (kp_233 _)) SV Z0 (SimC_fn (f__law_sip _ _ _ _) (nB rfl) (nB rfl))) Z0 vEq_K) SV (Zp SV vNeg_K)) (Z3 (by rfl) (by rfl))) (Z1 (Zv (names := [(Xx "elder"),(Xx "gates")]) (Z2 (C1 (Z7 (g_list _) (by decide +kernel) (by decide) (by rfl)) CallOk.type (Zn (at_Clauses_clauses _ _ _ _) (Zj (Zb (by rfl) (by rfl) (by rfl)))) (bList_C trivial)) (Z2 (Yj none trivial (C2 (Z7 (g_range _) (by decide +kernel) (by decide) (by rfl)) CallOk.type Z0 (Zh (M0 _ (Zj (Zb (by rfl) (by rfl) (by rfl))) (MethAt.inst (pg_Clauses_many _) (mf_Clauses_many _) (fn_57 _)) (CallOk.K (kp_57 _)) (SimC_fn (f_Clauses_many _ _ _ _) (nB rfl) (nB rfl))) Z0 (vAdd_K trivial)) bRange_C) (by rfl) (by rfl) (fun _=>SimT.nil) (fun _=>(M1 _ (Zj (Zb (by rfl) (by rfl) (by rfl))) SV (MethAt.inst (pg_Clauses_gate_of _) (mf_Clauses_gate_of _) (fn_71 _)) (CallOk.K (kp_71 _)) (SimC_fn (f_Clauses_gate_of _ _ _ _) (nB rfl) (nB rfl))))) Ze)) (.cons (SimSts.bind (Z3 (by rfl) (by rfl))) (.cons (SimSts.bind (Z3 (by rfl) (by rfl))) .nil)) (by rfl)) (Z1 (Y0 (Yc SV) (Z1 (Y1 (M1 _ (Zj (Zb (by rfl) (by rfl) (by rfl))) SV (MethAt.inst (pg_Clauses_add_top _) (mf_Clauses_add_top _) (fn_109 _)) (CallOk.K (kp_109 _)) (SimC_fn (f_Clauses_add_top _ _ _ _) (nB rfl) (nB rfl)))) (Z1 (Y1 (M1 _ (Za SV Zf) SV (MethAt.list PySem.F.slot_list_append PySem.F.type_list_append) CallOk.builtin mApp_C)) Zd)) (Z1 (Zu (M1 _ (Zj (Zb (by rfl) (by rfl) (by rfl))) SV (MethAt.inst (pg_Clauses_literal_of _) (mf_Clauses_literal_of _) (fn_104 _)) (CallOk.K (kp_104 _)) (SimC_fn (f_Clauses_literal_of _ _ _ _) (nB rfl) (nB rfl))) (Z3 (by rfl) (by rfl))) (Z1 (Y1 (M1 _ (Za SV Zf) (Y5 (Z2 SV (Z2 SV Ze))) (MethAt.list PySem.F.slot_list_append PySem.F.type_list_append) CallOk.builtin mApp_C)) (Z1 (Y0 (Zx (Zz (Z5 (M1 _ (Zj (Zb (by rfl) (by rfl) (by rfl))) (C1 (Z7 (g_abs _) (by decide +kernel) (by decide) (by rfl)) CallOk.builtin SV bAbs_C) (MethAt.inst (pg_Clauses_gate_of _) (mf_Clauses_gate_of _) (fn_71 _)) (CallOk.K (kp_71 _)) (SimC_fn (f_Clauses_gate_of _ _ _ _) (nB rfl) (nB rfl))) (C1 (Z7 (g_abs _) (by decide +kernel) (by decide) (by rfl)) CallOk.builtin SV bAbs_C) vNe_K) (Zz (Z5 (Zs SV Z0 vGt_K) (Zs SV Z0 vGt_K) vNe_K) Ym))) (Z1 (Zg Zl) Zd) Zd) Zd)))) (Z1 (Zv (names := [(Xx "fresh"),(Xx "late")]) (Z2 (Sim_From none trivial (Zn (at_Clauses_clauses _ _ _ _) (Zj (Zb (by rfl) (by rfl) (by rfl)))) (C1 (Z7 (g_len _) (by decide +kernel) (by decide) (by rfl)) CallOk.builtin SV bLen_C)) (Z2 (Yj none trivial (C2 (Z7 (g_range _) (by decide +kernel) (by decide) (by rfl)) CallOk.type Z0 (Zh (M0 _ (Zj (Zb (by rfl) (by rfl) (by rfl))) (MethAt.inst (pg_Clauses_many _) (mf_Clauses_many _) (fn_57 _)) (CallOk.K (kp_57 _)) (SimC_fn (f_Clauses_many _ _ _ _) (nB rfl) (nB rfl))) Z0 (vAdd_K trivial)) bRange_C) (by rfl) (by rfl) (fun _=>SimT.nil) (fun _=>(M1 _ (Zj (Zb (by rfl) (by rfl) (by rfl))) SV (MethAt.inst (pg_Clauses_gate_of _) (mf_Clauses_gate_of _) (fn_71 _)) (CallOk.K (kp_71 _)) (SimC_fn (f_Clauses_gate_of _ _ _ _) (nB rfl) (nB rfl))))) Ze)) (.cons (SimSts.bind (Z3 (by rfl) (by rfl))) (.cons (SimSts.bind (Z3 (by rfl) (by rfl))) .nil)) (by rfl)) (Z1 (Y0 (Zx (Zz (Z5 (Sim_Upto none trivial (Zn (at_Clauses_clauses _ _ _ _) (Zj (Zb (by rfl) (by rfl) (by rfl)))) (C1 (Z7 (g_len _) (by decide +kernel) (by decide) (by rfl)) CallOk.builtin SV bLen_C)) SV vNe_K) (Zz (Z5 (Sim_Upto none trivial SV (C1 (Z7 (g_len _) (by decide +kernel) (by decide) (by rfl)) CallOk.builtin SV bLen_C)) SV vNe_K) (Zz (Z5 (Sim_LenSet (Z7 (g_len _) (by decide +kernel) (by decide) (by rfl)) (Z7 (g_set _) (by decide +kernel) (by decide) (by rfl)) SV) (C1 (Z7 (g_len _) (by decide +kernel) (by decide) (by rfl)) CallOk.builtin SV bLen_C) vNe_K) Ym)))) (Z1 (Zg Zl) Zd) Zd) (Z1 (Y0 (Yc SV) (Z1 (Zg (Sim_BOr (Zs (M1 _ (SV) SV (MethAt.inst (pg_Circuit_kind _) (mf_Circuit_kind _) (fn_144 _)) (CallOk.K (kp_144 _)) (SimC_fn (f_Circuit_kind _ _ _ _) (nB rfl) (nB rfl))) Zf vNe_K) (Sim_BOr (Zs (C1 (Z7 (g_abs _) (by decide +kernel) (by decide) (by rfl)) CallOk.builtin SV bAbs_C) SV vIn_K) (Sim_BOne (Zs (C1 (Z7 (g_abs _) (by decide +kernel) (by decide) (by rfl)) CallOk.builtin SV bAbs_C) SV vNotIn_K))))) Zd) Zd) (Z1 (Y7 none trivial SV (by rfl) (by rfl) (fun _=>(SimT.one (Z5 (C1 (Z7 (g_len _) (by decide +kernel) (by decide) (by rfl)) CallOk.builtin SV bLen_C) Z0 vGt_K))) (fun _=>SV) (Z3 (by rfl) (by rfl))) (Z1 (Zw (Zh (Za SV Zf) SV (vAdd_K trivial)) SV Zf) (Z1 (Zg (Sim_BAnd (Zs (Sim_LenSet (Z7 (g_len _) (by decide +kernel) (by decide) (by rfl)) (Z7 (g_set _) (by decide +kernel) (by decide) (by rfl)) (Za SV Zf)) (C1 (Z7 (g_len _) (by decide +kernel) (by decide) (by rfl)) CallOk.builtin (Za SV Zf) bLen_C) vEq_K) (Sim_BOne (Sim_BOr (Zs (C1 (Z7 (g_len _) (by decide +kernel) (by decide) (by rfl)) CallOk.builtin SV bLen_C) (C1 (Z7 (g_len _) (by decide +kernel) (by decide) (by rfl)) CallOk.builtin SV bLen_C) vEq_K) (Sim_BOne (Zs Z0 SV vIn_K)))))) Zd))))))))))
theorem f_law(w:World)(l:List Str)(mg mb:Str→Option Value):FnSim (Wd03 w l mg mb) (.ref 284) 100 (24+1) (runF 100 1 m_law):=by
 refine FnSim_def (W:=Wd03 w l mg mb) (T:=120) (ho:=by rfl) (hcd:=by rfl) (hok:=by rfl) (hbind:=(fun s xs hl hk=>bind1 hl (fun a=>by rfl))) (hbody:=?_)
 intro A L mid
 exact(Z1 (Y7 none trivial (Sim_Upto none trivial SV Z0) (by rfl) (by rfl) (fun _=>SimT.nil) (fun _=>(Zh (C1 (Z7 (g_int _) (by decide +kernel) (by decide) (by rfl)) CallOk.type SV bInt_C) Z0 vMod_K)) (Z3 (by rfl) (by rfl))) (Z1 (Sim_AssignDisp (Z2 (Sim_DictStr 100 (SimQ.cons Zf Z0 (SimQ.cons Zf SV (SimQ.cons Zf (Zh (C1 (Z7 (g_sum _) (by decide +kernel) (by decide) (by rfl)) CallOk.builtin SV bSum_C) Z0 vMod_K) SimQ.nil))) (nB rfl) (.inr (nB rfl))) (Z2 (Yb (Zm (g_Circuit _) (by rfl)) (CallOk.K (kp_222 _)) Ze TreesOk.nil (SimC_new (f_Circuit_init__ _ _ _ _) (nB rfl) (nB rfl) (mk_222 _) (mf_Circuit_init _) (ty_130 _) (nB rfl) (nB rfl) (nB rfl))) Ze)) (.cons (SimSts.name (Z3 (by rfl) (by rfl))) (.cons (SimSts.name (Yp (by rfl) (by rfl) (by rfl))) .nil))) (Z1 (Zv (names := [(Xx "whole"),(Xx "masks")]) (Z2 (C2 (Zm (g__law_sip _) (by rfl)) (CallOk.K (kp_233 _)) SV Z0 (SimC_fn (f__law_sip _ _ _ _) (nB rfl) (nB rfl))) (Z2 (Sim_DictInt 101 (SimQ.cons Z0 Z0 SimQ.nil) (nB rfl) (.inr (nB rfl))) Ze)) (.cons (SimSts.bind (Z3 (by rfl) (by rfl))) (.cons (SimSts.bind (Z3 (by rfl) (by rfl))) .nil)) (by rfl)) (Z1 (Y7 (some 15) ⟨(nB rfl),.inl (nB rfl)⟩ (C1 (Z7 (g_range _) (by decide +kernel) (by decide) (by rfl)) CallOk.type Z0 bRange_C) (by rfl) (by rfl) (fun _=>SimT.nil) (fun _=>(M0 _ (Zj (Zb (by rfl) (by rfl) (by rfl))) (MethAt.inst (pg_Circuit_new_input _) (mf_Circuit_new_input _) (fn_165 _)) (CallOk.K (kp_165 _)) (SimC_fn (f_Circuit_new_input _ _ _ _) (nB rfl) (nB rfl)))) (Z3 (by rfl) (by rfl))) (Z1 (Sim_ForZip (Z7 (g_zip _) (by decide +kernel) (by decide) (by rfl)) SV (Y5 (Z2 Z0 (Z2 Z0 (Z2 Z0 Ze)))) (Z3 (by rfl) (by rfl)) (Z3 (by rfl) (by rfl)) (Z1 (Zw SV SV SV) Zd)) (Z1 (Yi (C1 (Z7 (g_range _) (by decide +kernel) (by decide) (by rfl)) CallOk.type (Zh Z0 (C2 (Zm (g__law_sip _) (by rfl)) (CallOk.K (kp_233 _)) SV Z0 (SimC_fn (f__law_sip _ _ _ _) (nB rfl) (nB rfl))) (vAdd_K trivial)) bRange_C) (SimA.name (Z3 (by rfl) (by rfl))) (Z1 (Y0 (Ye (Yc (Yb (Zm (g__law_gate _) (by rfl)) (CallOk.K (kp_259 _)) (Z2 SV (Z2 (Zj (Zb (by rfl) (by rfl) (by rfl))) (Z2 SV (Z2 SV Ze)))) (TreesOk.cons (TreesOk.cons (TreesOk.cons (TreesOk.cons TreesOk.nil)))) (SimC_fn (f__law_gate _ _ _ _) (nB rfl) (nB rfl))))) (Z1 (Zg Zl) Zd) Zd) Zd)) (Z1 (Zv (names := [(Xx "kept"),(Xx "state")]) (Z2 (C2 (Zm (g_Clauses _) (by rfl)) (CallOk.K (kp_112 _)) (Zj (Zb (by rfl) (by rfl) (by rfl))) SV (SimC_new (f_Clauses_init__ _ _ _ _) (nB rfl) (nB rfl) (mk_112 _) (mf_Clauses_init _) (ty_50 _) (nB rfl) (nB rfl) (nB rfl))) (Z2 (Sim_DictStr 103 (SimQ.cons Zf (Y4 (some 13) Ze ⟨(nB rfl),.inl (nB rfl)⟩) (SimQ.cons Zf (Y4 (some 14) Ze ⟨(nB rfl),.inl (nB rfl)⟩) (SimQ.cons Zf (Y4 none Ze trivial) SimQ.nil))) (nB rfl) (.inr (nB rfl))) Ze)) (.cons (SimSts.bind (Z3 (by rfl) (by rfl))) (.cons (SimSts.bind (Z3 (by rfl) (by rfl))) .nil)) (by rfl)) (Z1 (Yi (C1 (Z7 (g_range _) (by decide +kernel) (by decide) (by rfl)) CallOk.type (Zh Z0 (C2 (Zm (g__law_sip _) (by rfl)) (CallOk.K (kp_233 _)) SV Z0 (SimC_fn (f__law_sip _ _ _ _) (nB rfl) (nB rfl))) (vAdd_K trivial)) bRange_C) (SimA.name (Z3 (by rfl) (by rfl))) (Z1 (Y0 (Zx (Y2 (Z5 SV Z0 vEq_K) (Y2 (Ye (Yc (Yb (Zm (g__law_gate _) (by rfl)) (CallOk.K (kp_259 _)) (Z2 SV (Z2 (Zj (Zb (by rfl) (by rfl) (by rfl))) (Z2 SV (Z2 SV Ze)))) (TreesOk.cons (TreesOk.cons (TreesOk.cons (TreesOk.cons TreesOk.nil)))) (SimC_fn (f__law_gate _ _ _ _) (nB rfl) (nB rfl))))) Yk))) (Z1 (Zg Zl) Zd) Zd) (Z1 (Y0 (Zx (Zz (Ye (Yc (Yb (Zm (g__law_deed_right _) (by rfl)) (CallOk.K (kp_279 _)) (Z2 SV (Z2 SV (Z2 (Zj (Zb (by rfl) (by rfl) (by rfl))) (Z2 SV (Z2 SV Ze))))) (TreesOk.cons (TreesOk.cons (TreesOk.cons (TreesOk.cons (TreesOk.cons TreesOk.nil))))) (SimC_fn (f__law_deed_right _ _ _ _) (nB rfl) (nB rfl))))) (Zz (Ye (Yc (C1 (Zm (g__law_are_plain _) (by rfl)) (CallOk.K (kp_274 _)) (Zn (at_Clauses_clauses _ _ _ _) SV) (SimC_fn (f__law_are_plain _ _ _ _) (nB rfl) (nB rfl))))) Ym))) (Z1 (Zg Zl) Zd) Zd) (Z1 (Yi (C1 (Z7 (g_range _) (by decide +kernel) (by decide) (by rfl)) CallOk.type Z0 bRange_C) (SimA.name (Z3 (by rfl) (by rfl))) (Z1 (Y0 (Ye (Yc (Yb (Zm (g__law_row_right _) (by rfl)) (CallOk.K (kp_269 _)) (Z2 SV (Z2 SV (Z2 SV (Z2 (Za SV Zf) (Z2 (Za SV Zf) Ze))))) (TreesOk.cons (TreesOk.cons (TreesOk.cons (TreesOk.cons (TreesOk.cons TreesOk.nil))))) (SimC_fn (f__law_row_right _ _ _ _) (nB rfl) (nB rfl))))) (Z1 (Zg Zl) Zd) Zd) Zd)) Zd)))) (Z1 (Zg Zl) Zd)))))))))
end L03
end Lay
set_option maxRecDepth 100000
set_option maxHeartbeats 8000000
namespace Lay.L03
theorem post_ok(args ds:List WData):Challenge.rw_rr0081_03.row.claim.post args (.bool true) ds=true:=by
 unfold RowW.claim
 dsimp only
 simp only [Challenge.rw_rr0081_03,OpenLaw.row]
 rw [W4]
 refine⟨by first|rfl|simp [WShape.has],?_⟩
 unfold WTm.holds
 simp only [WTm.value]
 have e:same (WData.bool true) (WData.bool true)=true:=by decide +kernel
 rw [e]
end Lay.L03
theorem PySem.Challenge.cw_rr0081_03_holds : PySem.Challenge.rw_rr0081_03.Holds := by
 refine Lay.hd03 ?_
 k_fill
 intro w s₀ s₁ mg mb G Y fa o pm cd doc dV kV ho hd hcd hD hmg hg args vals as hpre hlay hrd hwl hlo
 have KX:=kIn_of Y
 refine Ground.open G ?_
 intro T B D TE TW
 have hfa:fa=284:=by
  have h1:=mg_of (n:=Xx "law") (v:=.ref 284) KX T.g (by rfl)
  have h2:some (Value.ref 284)=some (Value.ref fa):=h1.symm.trans hmg
  injection h2 with h3
  injection h3 with h4
  exact h4.symm
 subst hfa
 have hlo2:=hlo
 wrow_args hpre hlay hrd hwl hlo
 rename_i a vs as2 hL ra w1 r0 hI hr hc1 hc2
 cases w1 with|list ha hw =>
 rename_i vs2
 have hvs:vs=vs2:=by
  obtain⟨o,ho,_,n,hd⟩:=hL
  rw [ha] at ho
  cases ho
  injection hd with e1 e2
  have:=congrArg Array.toList e1
  simpa using this.symm
 subst hvs
 have hsys:a≠sysModules:=by
  cases r0 with|list _ _ _ _=>have:=hlo2 a (by simp);simpa using this
 refine Lay.law_end (W:=Lay.L03.Wd03 w (looseW Lay.view03 []) mg mb) (Lay.L03.f_law w _ mg mb) ⟨by decide +kernel,by decide +kernel,rfl⟩ ⟨KX,topRead_of T⟩ ha hsys hI (Lay.L03.run_law _ (by(first|lia|omega))) fun h' tk keep=>?_
 refine GoodW.toG ⟨.inl ⟨.bool true,.bool true,[],rfl,fun cls=>by rfl,ReadsW.bool _,Lay.L03.post_ok _ _,fun _=>⟨Xf,nofun⟩⟩,keep,rfl,hg⟩
