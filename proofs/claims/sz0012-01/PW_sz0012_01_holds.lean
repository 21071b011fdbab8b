import PyProof.Rows.All
import Wide.All
import OpenK.AllK
import Wide.FinOn
import KE.KNest
import KE.KEqDict
import KE.KDictSum
import Lean
import PySem.Challenge.RW_sz0012_01
set_option Elab.async false
set_option genSizeOf false
set_option genSizeOfSpec false
set_option linter.all false
set_option bootstrap.genMatcherCode false
set_option compiler.extract_closed false
set_option maxRecDepth 1000000
set_option maxHeartbeats 8000000
noncomputable section
namespace Mine.Internal
open Nat renaming le_add_left→af,le_trans→ai,le_refl→az,lt_of_lt_of_le→aT,lt_succ_self→aW,le_of_ble_eq_true→bG,lt_of_le_of_lt→bN,not_lt→cg,le_of_lt→cY,zero_le→dM,lt_irrefl→dZ,add→eA,le_succ→eJ,le_add_right→fV,le_of_eq→fZ,ne_of_lt→gb,lt_succ_of_lt→j0,ne_of_gt→mO,not_lt_zero→oP,beq_refl→pA,ble→pB,succ_pos→sZ,le_succ_of_le→zv,min_le_right→Au,le_antisymm→Cj,beq→DF,succ→El,zero_add→H2,lt_of_lt_of_eq→LF,le_of_not_lt→Ow,lt_of_not_le→Ox,succ_add→SW
open Eq renaming symm→ah,trans→fz
open False renaming elim→aj
open List renaming length_map→aq,mem_singleton→aA,mem_of_getElem?→aB,getElem?_map→aC,getElem?_eq_some_iff→aF,mem_map→aP,mem_iff_getElem?→aQ,range→aR,getElem?_eq_getElem→bj,map_cons→bw,mem_cons→bF,mem_filter→bH,length_range→bP,lookup_cons→b7,filter_congr→cW,length_filter_le→cX,all_eq_true→du,map_append→dK,mem_range→ei,nodup_nil→ej,mem_append→eH,nodup_cons→eI,filter_eq_self→eR,map_congr_left→eS,map_map→eW,nodup_append→fq,replicate→fu,getElem?_zip_eq_some→fJ,map→gf,filter_eq_nil_iff→hJ,getElem?_take→ig,length_append→ij,getElem?_eq_none_iff→iI,find?_cons→iK,Sublist→iP,map_eq_nil_iff→jb,filter_cons→jd,length_eq_zero_iff→je,not_mem_nil→jf,filter_append→jr,filter_filter→js,filter_map→jD,getElem?_inj→jN,take_add_one→jO,getD_eq_getElem?_getD→kq,mem_cons_of_mem→ku,casesOn→ky,take_length→nO,append_nil→oH,getElem?_range→oO,mem_cons_self→pD,map_id→qB,sum_cons→ri,length_cons→r8,length_replicate→uv,length_take_le'→va,cons→vD,filter_sublist→wm,length_pos_iff→wo,getElem_range→xC,ne_nil_of_mem→xD,zip_cons_cons→xE,any_eq_false→yM,take_sublist→yN,length_take→z8,filter→As,forIn_cons→Cc,range_succ→Cd,any_cons→FW,filter_cons_of_pos→F1,flatMap_eq_nil_iff→F2,dropLast_eq_take→HY,findIdx?_toArray→HZ,length_singleton→H0,flatMap_append→Km,find?_eq_none→Ls,flatMap_cons→LD,any_eq_true→Oc,ext_getElem→Od,getElem_map→Oe,map_fst_zip→Of,mem_reverse→Og,rec→Qa,findIdx?→QP,length→SV
open Bool renaming false_ne_true→aw,and_eq_true→cV,false→dI,true→jJ,false_eq_true→lM,and_eq_true_iff→u9,false_or→FV,or_eq_false_iff→Jx,not_eq_true'→LA,or_eq_true→Ov,and_comm→QN,true_and→QO,true_or→Sr
open PySem.Heap renaming get?_push_of_some→aJ,lt_size→bk,get?_push_size→bz,SameBut→bU,size_push→eV,get?_update_self→jL,DictOf→Ar,get?_update_other→HR,size_update→Ob,DictOfH→Ss,IsList→SR,get?→Vm
open Option renaming map_eq_some_iff→ba,casesOn→j1,isSome_iff_exists→qz,bind_eq_some_iff→rj,map_eq_none_iff→FX,isNone_none→Jy,map_some→LG
open PySem.Data renaming fields→bx,dict→eD,plain→jq,cls→lx,noConfusion→nN,func→z7
open Ne renaming symm→bM
open Classical renaming byContradiction→bS
open Array renaming getElem?_toList→eU,length_toList→gv,getElem?_eq_some_iff→j2,toList_append→kB,eraseIdxIfInBounds→qA,isEmpty_eq_false_iff_exists_mem→u7,eq_empty_of_size_eq_zero→zu,getElem?_eq_none_iff→Ci,mem_toList_iff→HW
open Int renaming ofNat→iO,toNat_natCast→jZ,natCast_nonneg→pV,eq_ofNat_of_zero_le→sC,ofNat_lt→sY,fmod_nonneg_of_pos→HX,fmod_lt_of_pos→LB,ofNat_inj→Su,le_of_lt→SU
open PySem PySem.W PySem.Calls PyProof.Rows PySem.Spec
section
universe u v w
theorem pe{α:Type u}{β:Type v}{C:α→β→Prop}{a x:α}{b y:β}(h:some (a,b)=some (x,y))(k:C a b):C x y:=by cases h;exact k
theorem so{α:Type u}{C:α→Prop}{a x:α}(h:some a=some x)(k:C a):C x:=by cases h;exact k
theorem Vk{α:Type u}{C:α→Prop}{a x:α}(h:some x=some a)(k:C a):C x:=by cases h;exact k
theorem po{α:Type u}{β:Type v}{C:α→β→Prop}{a x:α}{b y:β}(h:(a,b)=(x,y))(k:C a b):C x y:=by cases h;exact k
theorem QF{α β:Type}{a x:α}{b y:β}(h:some (a,b)=some (x,y)):a=x:=by cases h;rfl
theorem Lk{α β:Type}{a x:α}{b y:β}(h:some (a,b)=some (x,y)):b=y:=by cases h;rfl
theorem nn{α:Type u}{C:Prop}{x:α}(h:none=some x):C:=by cases h
theorem G2{α:Type u}{C:Prop}{x:α}(h:some x=none):C:=by cases h
theorem sb{α:Sort u}{C:α→Prop}{a x:α}(h:a=x)(k:C a):C x:=h▸k
theorem iH{α:Sort u}{C:α→Prop}{a x:α}(h:x=a)(k:C a):C x:=h▸k
theorem ft{C:Prop}(h:false=true):C:=by cases h
theorem tf{C:Prop}(h:true=false):C:=by cases h
theorem iN{P1 P2:Prop}(h1:P1)(h2:P2):P1∧P2:=⟨h1,h2⟩
theorem fM{P1 P2 P3:Prop}(h1:P1)(h2:P2)(h3:P3):P1∧P2∧P3:=⟨h1,h2,h3⟩
theorem qI{P1 P2 P3 P4:Prop}(h1:P1)(h2:P2)(h3:P3)(h4:P4):P1∧P2∧P3∧P4:=⟨h1,h2,h3,h4⟩
theorem ID{P1 P2 P3 P4 P5:Prop}(h1:P1)(h2:P2)(h3:P3)(h4:P4)(h5:P5):P1∧P2∧P3∧P4∧P5:=⟨h1,h2,h3,h4,h5⟩
theorem WL{P1 P2 P3 P4 P5 P6 P7:Prop}(h1:P1)(h2:P2)(h3:P3)(h4:P4)(h5:P5)(h6:P6)(h7:P7):P1∧P2∧P3∧P4∧P5∧P6∧P7:=⟨h1,h2,h3,h4,h5,h6,h7⟩
theorem mK{gY:Sort _}{P1:gY→Prop}(x1:gY)(h1:P1 x1):∃x1,P1 x1:=⟨x1,h1⟩
theorem dG{gY:Sort _}{P1 P2:gY→Prop}(x1:gY)(h1:P1 x1)(h2:P2 x1):∃x1,P1 x1∧P2 x1:=⟨x1,h1,h2⟩
theorem jc{gY:Sort _}{P1 P2 P3:gY→Prop}(x1:gY)(h1:P1 x1)(h2:P2 x1)(h3:P3 x1):∃x1,P1 x1∧P2 x1∧P3 x1:=⟨x1,h1,h2,h3⟩
theorem iq{gY:Sort _}{P1 P2 P3 P4:gY→Prop}(x1:gY)(h1:P1 x1)(h2:P2 x1)(h3:P3 x1)(h4:P4 x1):∃x1,P1 x1∧P2 x1∧P3 x1∧P4 x1:=⟨x1,h1,h2,h3,h4⟩
theorem IE{gY:Sort _}{P1 P2 P3 P4 P5:gY→Prop}(x1:gY)(h1:P1 x1)(h2:P2 x1)(h3:P3 x1)(h4:P4 x1)(h5:P5 x1):∃x1,P1 x1∧P2 x1∧P3 x1∧P4 x1∧P5 x1:=⟨x1,h1,h2,h3,h4,h5⟩
theorem WM{gY jY:Sort _}{P1:gY→jY→Prop}(x1:gY)(x2:jY)(h1:P1 x1 x2):∃x1 x2,P1 x1 x2:=⟨x1,x2,h1⟩
theorem ie{gY jY:Sort _}{P1 P2:gY→jY→Prop}(x1:gY)(x2:jY)(h1:P1 x1 x2)(h2:P2 x1 x2):∃x1 x2,P1 x1 x2∧P2 x1 x2:=⟨x1,x2,h1,h2⟩
theorem zF{gY jY:Sort _}{P1 P2 P3:gY→jY→Prop}(x1:gY)(x2:jY)(h1:P1 x1 x2)(h2:P2 x1 x2)(h3:P3 x1 x2):∃x1 x2,P1 x1 x2∧P2 x1 x2∧P3 x1 x2:=⟨x1,x2,h1,h2,h3⟩
theorem zG{gY jY:Sort _}{P1 P2 P3 P4:gY→jY→Prop}(x1:gY)(x2:jY)(h1:P1 x1 x2)(h2:P2 x1 x2)(h3:P3 x1 x2)(h4:P4 x1 x2):∃x1 x2,P1 x1 x2∧P2 x1 x2∧P3 x1 x2∧P4 x1 x2:=⟨x1,x2,h1,h2,h3,h4⟩
theorem Pa{gY jY:Sort _}{P1 P2 P3 P4 P5:gY→jY→Prop}(x1:gY)(x2:jY)(h1:P1 x1 x2)(h2:P2 x1 x2)(h3:P3 x1 x2)(h4:P4 x1 x2)(h5:P5 x1 x2):∃x1 x2,P1 x1 x2∧P2 x1 x2∧P3 x1 x2∧P4 x1 x2∧P5 x1 x2:=⟨x1,x2,h1,h2,h3,h4,h5⟩
theorem Ud{gY jY:Sort _}{P1 P2 P3 P4 P5 P6:gY→jY→Prop}(x1:gY)(x2:jY)(h1:P1 x1 x2)(h2:P2 x1 x2)(h3:P3 x1 x2)(h4:P4 x1 x2)(h5:P5 x1 x2)(h6:P6 x1 x2):∃x1 x2,P1 x1 x2∧P2 x1 x2∧P3 x1 x2∧P4 x1 x2∧P5 x1 x2∧P6 x1 x2:=⟨x1,x2,h1,h2,h3,h4,h5,h6⟩
theorem RE{gY jY rg:Sort _}{P1 P2:gY→jY→rg→Prop}(x1:gY)(x2:jY)(x3:rg)(h1:P1 x1 x2 x3)(h2:P2 x1 x2 x3):∃x1 x2 x3,P1 x1 x2 x3∧P2 x1 x2 x3:=⟨x1,x2,x3,h1,h2⟩
theorem WN{gY jY rg:Sort _}{P1 P2 P3:gY→jY→rg→Prop}(x1:gY)(x2:jY)(x3:rg)(h1:P1 x1 x2 x3)(h2:P2 x1 x2 x3)(h3:P3 x1 x2 x3):∃x1 x2 x3,P1 x1 x2 x3∧P2 x1 x2 x3∧P3 x1 x2 x3:=⟨x1,x2,x3,h1,h2,h3⟩
theorem Pc{gY jY rg:Sort _}{P1 P2 P3 P4:gY→jY→rg→Prop}(x1:gY)(x2:jY)(x3:rg)(h1:P1 x1 x2 x3)(h2:P2 x1 x2 x3)(h3:P3 x1 x2 x3)(h4:P4 x1 x2 x3):∃x1 x2 x3,P1 x1 x2 x3∧P2 x1 x2 x3∧P3 x1 x2 x3∧P4 x1 x2 x3:=⟨x1,x2,x3,h1,h2,h3,h4⟩
theorem Pd{gY jY rg:Sort _}{P1 P2 P3 P4 P5:gY→jY→rg→Prop}(x1:gY)(x2:jY)(x3:rg)(h1:P1 x1 x2 x3)(h2:P2 x1 x2 x3)(h3:P3 x1 x2 x3)(h4:P4 x1 x2 x3)(h5:P5 x1 x2 x3):∃x1 x2 x3,P1 x1 x2 x3∧P2 x1 x2 x3∧P3 x1 x2 x3∧P4 x1 x2 x3∧P5 x1 x2 x3:=⟨x1,x2,x3,h1,h2,h3,h4,h5⟩
theorem MH{gY jY rg:Sort _}{P1 P2 P3 P4 P5 P6:gY→jY→rg→Prop}(x1:gY)(x2:jY)(x3:rg)(h1:P1 x1 x2 x3)(h2:P2 x1 x2 x3)(h3:P3 x1 x2 x3)(h4:P4 x1 x2 x3)(h5:P5 x1 x2 x3)(h6:P6 x1 x2 x3):∃x1 x2 x3,P1 x1 x2 x3∧P2 x1 x2 x3∧P3 x1 x2 x3∧P4 x1 x2 x3∧P5 x1 x2 x3∧P6 x1 x2 x3:=⟨x1,x2,x3,h1,h2,h3,h4,h5,h6⟩
theorem GL{gY jY rg Ly:Sort _}{P1 P2 P3 P4 P5:gY→jY→rg→Ly→Prop}(x1:gY)(x2:jY)(x3:rg)(x4:Ly)(h1:P1 x1 x2 x3 x4)(h2:P2 x1 x2 x3 x4)(h3:P3 x1 x2 x3 x4)(h4:P4 x1 x2 x3 x4)(h5:P5 x1 x2 x3 x4):∃x1 x2 x3 x4,P1 x1 x2 x3 x4∧P2 x1 x2 x3 x4∧P3 x1 x2 x3 x4∧P4 x1 x2 x3 x4∧P5 x1 x2 x3 x4:=⟨x1,x2,x3,x4,h1,h2,h3,h4,h5⟩
theorem cQ{P1 P2:Prop}{G:Prop}(h:P1∧P2)(k:P1→P2→G):G:=let⟨p1,p2⟩:=h;k p1 p2
theorem KJ{gY jY:Sort _}{P1:gY→jY→Prop}{G:Prop}(h:∃x1 x2,P1 x1 x2)(k:∀x1 x2,P1 x1 x2→G):G:=let⟨x1,x2,p1⟩:=h;k x1 x2 p1
theorem Tg{gY jY rg:Sort _}{P1:gY→jY→rg→Prop}{G:Prop}(h:∃x1 x2 x3,P1 x1 x2 x3)(k:∀x1 x2 x3,P1 x1 x2 x3→G):G:=let⟨x1,x2,x3,p1⟩:=h;k x1 x2 x3 p1
theorem OT{gY jY rg:Sort _}{P1 P2 P3 P4 P5:gY→jY→rg→Prop}{G:Prop}(h:∃x1 x2 x3,P1 x1 x2 x3∧P2 x1 x2 x3∧P3 x1 x2 x3∧P4 x1 x2 x3∧P5 x1 x2 x3)(k:∀x1 x2 x3,P1 x1 x2 x3→P2 x1 x2 x3→P3 x1 x2 x3→P4 x1 x2 x3→P5 x1 x2 x3→G):G:=let⟨x1,x2,x3,p1,p2,p3,p4,p5⟩:=h;k x1 x2 x3 p1 p2 p3 p4 p5
theorem OV{gY jY rg Ly:Sort _}{P1 P2:gY→jY→rg→Ly→Prop}{G:Prop}(h:∃x1 x2 x3 x4,P1 x1 x2 x3 x4∧P2 x1 x2 x3 x4)(k:∀x1 x2 x3 x4,P1 x1 x2 x3 x4→P2 x1 x2 x3 x4→G):G:=let⟨x1,x2,x3,x4,p1,p2⟩:=h;k x1 x2 x3 x4 p1 p2
theorem Rd{gY jY rg Ly α5:Sort _}{P1:gY→jY→rg→Ly→α5→Prop}{G:Prop}(h:∃x1 x2 x3 x4 x5,P1 x1 x2 x3 x4 x5)(k:∀x1 x2 x3 x4 x5,P1 x1 x2 x3 x4 x5→G):G:=let⟨x1,x2,x3,x4,x5,p1⟩:=h;k x1 x2 x3 x4 x5 p1
theorem fC{P1 P2 P3:Prop}{G:Prop}(h:P1∧P2∧P3)(k:P1→P2→P3→G):G:=let⟨p1,p2,p3⟩:=h;k p1 p2 p3
theorem ou{P1 P2 P3 P4:Prop}{G:Prop}(h:P1∧P2∧P3∧P4)(k:P1→P2→P3→P4→G):G:=let⟨p1,p2,p3,p4⟩:=h;k p1 p2 p3 p4
theorem KI{P1 P2 P3 P4 P5:Prop}{G:Prop}(h:P1∧P2∧P3∧P4∧P5)(k:P1→P2→P3→P4→P5→G):G:=let⟨p1,p2,p3,p4,p5⟩:=h;k p1 p2 p3 p4 p5
theorem Mk{P1 P2 P3 P4 P5 P6:Prop}{G:Prop}(h:P1∧P2∧P3∧P4∧P5∧P6)(k:P1→P2→P3→P4→P5→P6→G):G:=let⟨p1,p2,p3,p4,p5,p6⟩:=h;k p1 p2 p3 p4 p5 p6
theorem Te{P1 P2 P3 P4 P5 P6 P7:Prop}{G:Prop}(h:P1∧P2∧P3∧P4∧P5∧P6∧P7)(k:P1→P2→P3→P4→P5→P6→P7→G):G:=let⟨p1,p2,p3,p4,p5,p6,p7⟩:=h;k p1 p2 p3 p4 p5 p6 p7
theorem Rb{P1 P2 P3 P4 P5 P6 P7 P8:Prop}{G:Prop}(h:P1∧P2∧P3∧P4∧P5∧P6∧P7∧P8)(k:P1→P2→P3→P4→P5→P6→P7→P8→G):G:=let⟨p1,p2,p3,p4,p5,p6,p7,p8⟩:=h;k p1 p2 p3 p4 p5 p6 p7 p8
theorem dh{gY:Sort _}{P1:gY→Prop}{G:Prop}(h:∃x1,P1 x1)(k:∀x1,P1 x1→G):G:=let⟨x1,p1⟩:=h;k x1 p1
theorem aS{gY:Sort _}{P1 P2:gY→Prop}{G:Prop}(h:∃x1,P1 x1∧P2 x1)(k:∀x1,P1 x1→P2 x1→G):G:=let⟨x1,p1,p2⟩:=h;k x1 p1 p2
theorem j9{gY:Sort _}{P1 P2 P3:gY→Prop}{G:Prop}(h:∃x1,P1 x1∧P2 x1∧P3 x1)(k:∀x1,P1 x1→P2 x1→P3 x1→G):G:=let⟨x1,p1,p2,p3⟩:=h;k x1 p1 p2 p3
theorem wO{gY:Sort _}{P1 P2 P3 P4:gY→Prop}{G:Prop}(h:∃x1,P1 x1∧P2 x1∧P3 x1∧P4 x1)(k:∀x1,P1 x1→P2 x1→P3 x1→P4 x1→G):G:=let⟨x1,p1,p2,p3,p4⟩:=h;k x1 p1 p2 p3 p4
theorem xS{gY:Sort _}{P1 P2 P3 P4 P5:gY→Prop}{G:Prop}(h:∃x1,P1 x1∧P2 x1∧P3 x1∧P4 x1∧P5 x1)(k:∀x1,P1 x1→P2 x1→P3 x1→P4 x1→P5 x1→G):G:=let⟨x1,p1,p2,p3,p4,p5⟩:=h;k x1 p1 p2 p3 p4 p5
theorem Tf{gY:Sort _}{P1 P2 P3 P4 P5 P6 P7 P8:gY→Prop}{G:Prop}(h:∃x1,P1 x1∧P2 x1∧P3 x1∧P4 x1∧P5 x1∧P6 x1∧P7 x1∧P8 x1)(k:∀x1,P1 x1→P2 x1→P3 x1→P4 x1→P5 x1→P6 x1→P7 x1→P8 x1→G):G:=let⟨x1,p1,p2,p3,p4,p5,p6,p7,p8⟩:=h;k x1 p1 p2 p3 p4 p5 p6 p7 p8
theorem eY{gY jY:Sort _}{P1 P2:gY→jY→Prop}{G:Prop}(h:∃x1 x2,P1 x1 x2∧P2 x1 x2)(k:∀x1 x2,P1 x1 x2→P2 x1 x2→G):G:=let⟨x1,x2,p1,p2⟩:=h;k x1 x2 p1 p2
theorem sN{gY jY:Sort _}{P1 P2 P3:gY→jY→Prop}{G:Prop}(h:∃x1 x2,P1 x1 x2∧P2 x1 x2∧P3 x1 x2)(k:∀x1 x2,P1 x1 x2→P2 x1 x2→P3 x1 x2→G):G:=let⟨x1,x2,p1,p2,p3⟩:=h;k x1 x2 p1 p2 p3
theorem sO{gY jY:Sort _}{P1 P2 P3 P4:gY→jY→Prop}{G:Prop}(h:∃x1 x2,P1 x1 x2∧P2 x1 x2∧P3 x1 x2∧P4 x1 x2)(k:∀x1 x2,P1 x1 x2→P2 x1 x2→P3 x1 x2→P4 x1 x2→G):G:=let⟨x1,x2,p1,p2,p3,p4⟩:=h;k x1 x2 p1 p2 p3 p4
theorem qj{gY jY:Sort _}{P1 P2 P3 P4 P5:gY→jY→Prop}{G:Prop}(h:∃x1 x2,P1 x1 x2∧P2 x1 x2∧P3 x1 x2∧P4 x1 x2∧P5 x1 x2)(k:∀x1 x2,P1 x1 x2→P2 x1 x2→P3 x1 x2→P4 x1 x2→P5 x1 x2→G):G:=let⟨x1,x2,p1,p2,p3,p4,p5⟩:=h;k x1 x2 p1 p2 p3 p4 p5
theorem Rc{gY jY:Sort _}{P1 P2 P3 P4 P5 P6:gY→jY→Prop}{G:Prop}(h:∃x1 x2,P1 x1 x2∧P2 x1 x2∧P3 x1 x2∧P4 x1 x2∧P5 x1 x2∧P6 x1 x2)(k:∀x1 x2,P1 x1 x2→P2 x1 x2→P3 x1 x2→P4 x1 x2→P5 x1 x2→P6 x1 x2→G):G:=let⟨x1,x2,p1,p2,p3,p4,p5,p6⟩:=h;k x1 x2 p1 p2 p3 p4 p5 p6
theorem CI{gY jY rg:Sort _}{P1 P2:gY→jY→rg→Prop}{G:Prop}(h:∃x1 x2 x3,P1 x1 x2 x3∧P2 x1 x2 x3)(k:∀x1 x2 x3,P1 x1 x2 x3→P2 x1 x2 x3→G):G:=let⟨x1,x2,x3,p1,p2⟩:=h;k x1 x2 x3 p1 p2
theorem Gw{gY jY rg:Sort _}{P1 P2 P3:gY→jY→rg→Prop}{G:Prop}(h:∃x1 x2 x3,P1 x1 x2 x3∧P2 x1 x2 x3∧P3 x1 x2 x3)(k:∀x1 x2 x3,P1 x1 x2 x3→P2 x1 x2 x3→P3 x1 x2 x3→G):G:=let⟨x1,x2,x3,p1,p2,p3⟩:=h;k x1 x2 x3 p1 p2 p3
theorem KL{gY jY rg:Sort _}{P1 P2 P3 P4:gY→jY→rg→Prop}{G:Prop}(h:∃x1 x2 x3,P1 x1 x2 x3∧P2 x1 x2 x3∧P3 x1 x2 x3∧P4 x1 x2 x3)(k:∀x1 x2 x3,P1 x1 x2 x3→P2 x1 x2 x3→P3 x1 x2 x3→P4 x1 x2 x3→G):G:=let⟨x1,x2,x3,p1,p2,p3,p4⟩:=h;k x1 x2 x3 p1 p2 p3 p4
theorem CJ{gY jY rg:Sort _}{P1 P2 P3 P4 P5 P6:gY→jY→rg→Prop}{G:Prop}(h:∃x1 x2 x3,P1 x1 x2 x3∧P2 x1 x2 x3∧P3 x1 x2 x3∧P4 x1 x2 x3∧P5 x1 x2 x3∧P6 x1 x2 x3)(k:∀x1 x2 x3,P1 x1 x2 x3→P2 x1 x2 x3→P3 x1 x2 x3→P4 x1 x2 x3→P5 x1 x2 x3→P6 x1 x2 x3→G):G:=let⟨x1,x2,x3,p1,p2,p3,p4,p5,p6⟩:=h;k x1 x2 x3 p1 p2 p3 p4 p5 p6
theorem OU{gY jY rg:Sort _}{P1 P2 P3 P4 P5 P6 P7:gY→jY→rg→Prop}{G:Prop}(h:∃x1 x2 x3,P1 x1 x2 x3∧P2 x1 x2 x3∧P3 x1 x2 x3∧P4 x1 x2 x3∧P5 x1 x2 x3∧P6 x1 x2 x3∧P7 x1 x2 x3)(k:∀x1 x2 x3,P1 x1 x2 x3→P2 x1 x2 x3→P3 x1 x2 x3→P4 x1 x2 x3→P5 x1 x2 x3→P6 x1 x2 x3→P7 x1 x2 x3→G):G:=let⟨x1,x2,x3,p1,p2,p3,p4,p5,p6,p7⟩:=h;k x1 x2 x3 p1 p2 p3 p4 p5 p6 p7
theorem Th{gY jY rg Ly:Sort _}{P1:gY→jY→rg→Ly→Prop}{G:Prop}(h:∃x1 x2 x3 x4,P1 x1 x2 x3 x4)(k:∀x1 x2 x3 x4,P1 x1 x2 x3 x4→G):G:=let⟨x1,x2,x3,x4,p1⟩:=h;k x1 x2 x3 x4 p1
theorem Ti{gY jY rg Ly:Sort _}{P1 P2 P3 P4:gY→jY→rg→Ly→Prop}{G:Prop}(h:∃x1 x2 x3 x4,P1 x1 x2 x3 x4∧P2 x1 x2 x3 x4∧P3 x1 x2 x3 x4∧P4 x1 x2 x3 x4)(k:∀x1 x2 x3 x4,P1 x1 x2 x3 x4→P2 x1 x2 x3 x4→P3 x1 x2 x3 x4→P4 x1 x2 x3 x4→G):G:=let⟨x1,x2,x3,x4,p1,p2,p3,p4⟩:=h;k x1 x2 x3 x4 p1 p2 p3 p4
theorem xT{gY jY rg Ly:Sort _}{P1 P2 P3 P4 P5:gY→jY→rg→Ly→Prop}{G:Prop}(h:∃x1 x2 x3 x4,P1 x1 x2 x3 x4∧P2 x1 x2 x3 x4∧P3 x1 x2 x3 x4∧P4 x1 x2 x3 x4∧P5 x1 x2 x3 x4)(k:∀x1 x2 x3 x4,P1 x1 x2 x3 x4→P2 x1 x2 x3 x4→P3 x1 x2 x3 x4→P4 x1 x2 x3 x4→P5 x1 x2 x3 x4→G):G:=let⟨x1,x2,x3,x4,p1,p2,p3,p4,p5⟩:=h;k x1 x2 x3 x4 p1 p2 p3 p4 p5
structure VA where
 t:Nat
 n:Nat
deriving DecidableEq
inductive D9
 |a|b|c|d|e|f|g|h|i
deriving DecidableEq
structure Fd where
 x:D9
 y:D9
deriving DecidableEq
noncomputable def D9.pick{α:Type}(t:D9)(a b c d e f g h i:α):α:=D9.rec a b c d e f g h i t
abbrev Fd.number:Fd:=⟨.a,.a⟩
abbrev Fd.caller:Fd:=⟨.a,.b⟩
abbrev Fd.target:Fd:=⟨.a,.c⟩
abbrev Fd.key:Fd:=⟨.a,.d⟩
abbrev Fd.values:Fd:=⟨.a,.e⟩
abbrev Fd.state:Fd:=⟨.a,.f⟩
abbrev Fd.deadline:Fd:=⟨.a,.g⟩
abbrev Fd.mj:Fd:=⟨.a,.h⟩
abbrev Fd.fj:Fd:=⟨.a,.i⟩
abbrev Fd.found:Fd:=⟨.b,.a⟩
abbrev Fd.now:Fd:=⟨.b,.b⟩
abbrev Fd.name:Fd:=⟨.b,.c⟩
abbrev Fd.IW:Fd:=⟨.b,.d⟩
abbrev Fd.eO:Fd:=⟨.b,.e⟩
abbrev Fd.ik:Fd:=⟨.b,.f⟩
abbrev Fd.wake:Fd:=⟨.b,.g⟩
abbrev Fd.lK:Fd:=⟨.b,.h⟩
abbrev Fd.call:Fd:=⟨.b,.i⟩
abbrev Fd.uI:Fd:=⟨.c,.a⟩
abbrev Fd.ni:Fd:=⟨.c,.b⟩
abbrev Fd.raised:Fd:=⟨.c,.c⟩
abbrev Fd.answer:Fd:=⟨.c,.d⟩
abbrev Fd.eu:Fd:=⟨.c,.e⟩
abbrev Fd.inside:Fd:=⟨.c,.f⟩
abbrev Fd.i0:Fd:=⟨.c,.g⟩
abbrev Fd.pending:Fd:=⟨.c,.h⟩
abbrev Fd.vL:Fd:=⟨.c,.i⟩
abbrev Fd.stack:Fd:=⟨.d,.a⟩
abbrev Fd.frame:Fd:=⟨.d,.b⟩
abbrev Fd.result:Fd:=⟨.d,.c⟩
abbrev Fd.bases:Fd:=⟨.d,.d⟩
abbrev Fd.Ic:Fd:=⟨.d,.e⟩
abbrev Fd.resume:Fd:=⟨.d,.f⟩
abbrev Fd.leaving:Fd:=⟨.d,.g⟩
abbrev Fd.line:Fd:=⟨.d,.h⟩
abbrev Fd.entries:Fd:=⟨.d,.i⟩
abbrev Fd.writer:Fd:=⟨.e,.a⟩
abbrev Fd.nu:Fd:=⟨.e,.b⟩
abbrev Fd.body:Fd:=⟨.e,.c⟩
abbrev Fd.cells:Fd:=⟨.e,.d⟩
abbrev Fd.xZ:Fd:=⟨.e,.e⟩
abbrev Fd.width:Fd:=⟨.e,.f⟩
abbrev Fd.steps:Fd:=⟨.e,.g⟩
abbrev Fd.depth:Fd:=⟨.e,.h⟩
abbrev Fd.members:Fd:=⟨.e,.i⟩
abbrev Fd.text:Fd:=⟨.f,.a⟩
abbrev Fd.tasks:Fd:=⟨.f,.b⟩
abbrev Fd.heap:Fd:=⟨.f,.c⟩
abbrev Fd.owner:Fd:=⟨.f,.d⟩
abbrev Fd.mT:Fd:=⟨.f,.e⟩
abbrev Fd.nB:Fd:=⟨.f,.f⟩
abbrev Fd.wb:Fd:=⟨.f,.g⟩
abbrev Fd.choose:Fd:=⟨.f,.h⟩
abbrev Fd.lB:Fd:=⟨.f,.i⟩
abbrev Fd.cS:Fd:=⟨.g,.a⟩
abbrev Fd.settled:Fd:=⟨.g,.b⟩
abbrev Fd.mn:Fd:=⟨.g,.c⟩
abbrev Fd.dN:Fd:=⟨.g,.d⟩
abbrev Fd.serve:Fd:=⟨.g,.e⟩
abbrev Fd.cJ:Fd:=⟨.g,.f⟩
abbrev Fd.rest:Fd:=⟨.g,.g⟩
abbrev Fd.bZ:Fd:=⟨.g,.h⟩
abbrev Fd.gO:Fd:=⟨.g,.i⟩
abbrev Fd.bc:Fd:=⟨.h,.a⟩
abbrev Fd.since:Fd:=⟨.h,.b⟩
abbrev Fd.jG:Fd:=⟨.h,.c⟩
abbrev Fd.iW:Fd:=⟨.h,.d⟩
abbrev Fd.gX:Fd:=⟨.h,.e⟩
abbrev Fd.fY:Fd:=⟨.h,.f⟩
abbrev Fd.ip:Fd:=⟨.h,.g⟩
abbrev Fd.within:Fd:=⟨.h,.h⟩
abbrev Fd.fX:Fd:=⟨.h,.i⟩
def Fd.s(f:Fd):Str:=f.x.pick (f.y.pick "number" "caller" "target" "key" "values" "state" "deadline" "is_firm" "is_conditional") (f.y.pick "found" "now" "name" "master" "queues" "open" "wake" "late" "call") (f.y.pick "serving" "masters" "raised" "answer" "is_abnormal" "inside" "activator" "pending" "has_failed") (f.y.pick "stack" "frame" "result" "bases" "caught" "resume" "leaving" "line" "entries") (f.y.pick "writer" "readers" "body" "cells" "is_making" "width" "steps" "depth" "members") (f.y.pick "text" "tasks" "heap" "owner" "dependents" "is_ended" "limits" "choose" "clock") (f.y.pick "numbers" "settled" "library" "lost" "serve" "is_writer" "rest" "patience" "stay") (f.y.pick "stage" "since" "due" "tasking" "thing" "manner" "guests" "within" "is_sound") (f.y.pick "spare0" "spare1" "spare2" "spare3" "spare4" "spare5" "spare6" "spare7" "spare8")
noncomputable def D9.all:List D9:= [.a,.b,.c,.d,.e,.f,.g,.h,.i]
theorem D9.mem(t:D9):t∈all:=by cases t<;>decide
def F9:List Fd:=D9.all.flatMap fun x=>D9.all.map (Fd.mk x)
theorem uE(f:Fd):f∈F9:=List.mem_flatMap.mpr ⟨f.x,f.x.mem,aP.mpr ⟨f.y,f.y.mem,rfl⟩⟩
noncomputable def mG(s:Str):Nat:=s.cps.foldl (fun a c=>a*256+c) 1
def Fd.c(f:Fd):Nat:=mG f.s
theorem Fd.Pe:(F9.all fun f=>F9.all fun g=> !(DF f.c g.c)||decide (f=g))=true:=by decide+kernel
theorem Fd.inj{f g:Fd}(h:f.s=g.s):f=g:=by
 have a:=du.mp (du.mp Fd.Pe f (uE f)) g (uE g)
 have e:DF f.c g.c=true:=by
  have:f.c=g.c:=by unfold Fd.c;rw [h]
  rw [this];exact pA _
 rw [e] at a
 simpa using a
end
section
inductive V
 |none|bool (b:Bool)|int (i:Int)|str (s:Str)
 |tup (vs:List V)
 |lst (vs:List V)
 |ref (x:VA)
 |fn (a:Addr)
 |iC (k:Nat) (cs:List VA)
inductive ib
 |inst (c:Addr) (fs:List (Fd×V))
 |aU (fs:List (Fd×V))
 |cI (es:List (Str×V))
 |et (es:List (Int×V))
 |list (vs:List V)
 |cell (v:V)
structure Hp where
 get:VA→Option ib
 pv:VA→Nat
 next:Nat
noncomputable def Hp.set(H:Hp)(x:VA)(o:ib):Hp:=⟨fun y=>if y=x then some o else H.get y,fun y=>if y=x then H.pv y+1 else H.pv y,H.next+1⟩
@[simp] theorem Hp.FA(H:Hp)(x y:VA)(o:ib):(H.set x o).get y=if y=x then some o else H.get y:=rfl
@[simp] theorem Hp.PR(H:Hp)(x y:VA)(o:ib):(H.set x o).pv y=if y=x then H.pv y+1 else H.pv y:=rfl
@[simp] theorem Hp.NJ(H:Hp)(x:VA)(o:ib):(H.set x o).next=H.next+1:=rfl
structure vE where
 name:Str
 qual:Str
 params:Arguments
 body:List Stmt
 scope:Scope
 frees:List Str
structure Gl where
 prog:Program
 w:World
 K:Frag
 fb:Heap
 l0:Nat→vE
 tabs:List (Addr×Addr×Pos×Str)
 os:OsState
structure Rp where
 H:Hp
 ρ:VA→Addr
 δ:VA→Addr
 h:Heap
namespace Rp
noncomputable def kz(S:Rp)(x:VA):Prop:=S.H.get x≠none
def foot(S:Rp)(a:Addr):Prop:=∃x,S.kz x∧(a=S.ρ x∨a=S.δ x)
end Rp
noncomputable def Calm(o:Obj):Prop:=(∃xs n,o.data= .seq xs n)∨(∃f,o.data= .func f)∨∃vs q t,o.data= .fields vs∧vs[1]? =some (Value.str q t)
theorem BN(d:o.data= .fields vs)(h:vs[1]? =some (.int i t)):¬Calm o:=by
 rintro (⟨xs,n,e⟩|⟨f,e⟩|⟨ws,x,t,e,h1⟩)
 ·exact nN (e.symm.trans d)
 ·exact nN (e.symm.trans d)
 ·have:ws=vs:=bx.inj (e.symm.trans d)
  rw [this] at h1
  exact Value.noConfusion (Option.some.inj (h1.symm.trans h))
variable (g:Gl)
mutual
inductive bu(S:Rp):V→Value→Prop
 |none:bu S .none .none
 |bool (b:Bool):bu S (.bool b) (.bool b)
 |int (i:Int) (t:Tok):bu S (.int i) (.int i t)
 |str (s:Str) (t:Tok):bu S (.str s) (.str s t)
 |tup {a:Addr} {o:Obj} {vs:List V} {xs:Array Value} {n:Nat}:S.h.get? a=some o→¬S.foot a→o.cls= .type "tuple"→o.data= .seq xs n→dq S vs xs.toList→bu S (.tup vs) (.ref a)
 |lst {a:Addr} {o:Obj} {vs:List V} {xs:Array Value} {n:Nat}:S.h.get? a=some o→¬S.foot a→o.cls= .type "list"→o.data= .seq xs n→dq S vs xs.toList→bu S (.lst vs) (.ref a)
 |ref {x:VA}:S.kz x→bu S (.ref x) (.ref (S.ρ x))
 |fn (a:Addr):bu S (.fn a) (.ref a)
 |iC {k:Nat} {cs:List VA} {a c:Addr} {o oc:Obj} {pm doc ct:Value} {vs:Array Value} {t:Tok}:S.h.get? a=some o→¬S.foot a→o.cls= .type "function"→(∀x∈cs,S.kz x)→
   o.data= .func (fnX (g.l0 k).name (g.l0 k).qual (g.l0 k).params (g.l0 k).body (g.l0 k).scope ((g.l0 k).frees.zip (cs.map S.ρ)) .none .none doc pm none (.ref c) ct)→(g.l0 k).frees.length=cs.length→
   S.h.get? c=some oc→¬S.foot c→oc.data= .fields vs→vs[1]? =some (.str (g.l0 k).qual t)→bu S (.iC k cs) (.ref a)
inductive dq(S:Rp):List V→List Value→Prop
 |nil:dq S [] []
 |cons {v:V} {r:Value} {vs:List V} {rs:List Value}:bu S v r→dq S vs rs→dq S (v::vs) (r::rs)
end
structure Ext(S S':Rp)(X:Addr→Prop):Prop where
 kz:∀x,S.kz x→S'.kz x∧S'.ρ x=S.ρ x∧S'.δ x=S.δ x
 new:∀x,¬S.kz x→S'.kz x→(S.h.objs.size≤S'.ρ x∨X (S'.ρ x))∧(S.h.objs.size≤S'.δ x∨X (S'.δ x))
 keep:∀a o,S.h.get? a=some o→¬S.foot a→¬X a→S'.h.get? a=some o
 calm:∀a o,X a→S.h.get? a=some o→¬Calm o
 size:S.h.objs.size≤S'.h.objs.size
 mono:∀x,S.H.pv x≤S'.H.pv x
 same:∀x,S.kz x→S'.H.pv x=S.H.pv x→∀o,S.h.get? (S.ρ x)=some o→S'.h.get? (S.ρ x)=some o
variable {g}
theorem Ext.refl(S:Rp)(hX:∀a o,X a→S.h.get? a=some o→¬Calm o):Ext S S X:=
 ⟨fun _ h=>⟨h,rfl,rfl⟩,fun _ h h'=>(h h').elim,fun _ _ e _ _=>e,hX,az _,fun _=>az _,fun _ _ _ _ e=>e⟩
theorem Ext.jI(E:Ext S S' X)(e:S.h.get? a=some o)(hf:¬S.foot a)(hX:¬X a):¬S'.foot a:=by
 rintro ⟨x,hx,hd⟩
 by_cases Uc:S.kz x
 ·refine fC (E.kz x Uc) fun _ e1 e2=>?_
  rw [e1,e2] at hd
  exact hf ⟨x,Uc,hd⟩
 ·haveI hn:=E.new x Uc hx
  haveI hl:=bk e
  rcases hd with rfl|rfl
  ·rcases hn.1 with h|h
   ·exact absurd hl (cg.mpr h)
   ·exact hX h
  ·rcases hn.2 with h|h
   ·exact absurd hl (cg.mpr h)
   ·exact hX h
theorem Ext.trans(E:Ext br eh X)(F:Ext eh fw X):Ext br fw X:=by
 refine⟨fun x h=>?_,fun x h h'=>?_,fun a o e hf hX=>F.keep a o (E.keep a o e hf hX) (E.jI e hf hX) hX,E.calm,ai E.size F.size,fun x=>ai (E.mono x) (F.mono x),fun x d e o ho=>?_⟩
 ·refine fC (E.kz x h) fun d1 r1 s1=>?_
  refine fC (F.kz x d1) fun d2 r2 s2=>?_
  exact fM d2 (r2.trans r1) (s2.trans s1)
 ·by_cases h2:eh.kz x
  ·refine fC (F.kz x h2) fun _ r2 s2=>?_
   (refine r2.symm▸?_;refine s2.symm▸?_);exact E.new x h h2
  ·refine cQ (F.new x h2 h') fun a b=>?_
   exact iN (a.imp_left (ai E.size)) (b.imp_left (ai E.size))
 ·haveI m1:=E.mono x
  haveI m2:=F.mono x
  refine fC (E.kz x d) fun d2 r2 _=>?_
  have:=F.same x d2 (by lia) o (by refine r2.symm▸?_;exact E.same x d (by lia) o ho)
  rwa [r2] at this
theorem Ext.widen(E:Ext S S' X)(MA:∀a,X a→Y a)(hY:∀a o,Y a→S.h.get? a=some o→¬Calm o):Ext S S' Y:=
 ⟨E.kz,fun x h h'=>⟨(E.new x h h').1.imp_right (MA _),(E.new x h h').2.imp_right (MA _)⟩,fun a o e hf hX=>E.keep a o e hf fun h=>hX (MA _ h),hY,E.size,E.mono,E.same⟩
theorem Ext.narrow(E:Ext S S' X)(MA:∀a,X a→Y a∨S.h.objs.size≤a)(hY:∀a o,Y a→S.h.get? a=some o→¬Calm o):Ext S S' Y:=by
 refine⟨E.kz,fun x h h'=>?_,fun a o e hf hX=>E.keep a o e hf fun h=>?_,hY,E.size,E.mono,E.same⟩
 ·refine cQ (E.new x h h') fun a b=>?_
  refine⟨?_,?_⟩
  ·rcases a with a|a
   ·exact .inl a
   ·exact(MA _ a).symm
  ·rcases b with b|b
   ·exact .inl b
   ·exact(MA _ b).symm
 ·rcases MA a h with h|h
  ·exact hX h
  ·exact absurd (bk e) (cg.mpr h)
section
variable {S:Rp}{C:Value→Prop}{D:List Value→Prop}{r:Value}{rs:List Value}
theorem RG(h:bu g S .none r)(k:C .none):C r:=by cases h;exact k
theorem yX(h:bu g S (.int i) r)(k:∀t,C (.int i t)):C r:=by cases h;exact k _
theorem JZ(h:bu g S (.tup vs) r)(k:∀a o (xs:Array Value) n,S.h.get? a=some o→¬S.foot a→o.cls= .type "tuple"→o.data= .seq xs n→dq g S vs xs.toList→C (.ref a)):C r:=by cases h;exact k _ _ _ _ (by assumption) (by assumption) (by assumption) (by assumption) (by assumption)
theorem JY(h:bu g S (.lst vs) r)(k:∀a o (xs:Array Value) n,S.h.get? a=some o→¬S.foot a→o.cls= .type "list"→o.data= .seq xs n→dq g S vs xs.toList→C (.ref a)):C r:=by cases h;exact k _ _ _ _ (by assumption) (by assumption) (by assumption) (by assumption) (by assumption)
theorem iR(h:bu g S (.ref x) r)(k:S.kz x→C (.ref (S.ρ x))):C r:=by cases h;exact k (by assumption)
theorem Ue(h:bu g S (.fn a) r)(k:C (.ref a)):C r:=by cases h;exact k
theorem RF(h:bu g S (.iC d cs) r)(k:∀(a c:Addr) (o oc:Obj) (pm doc ct:Value) (vs:Array Value) (t:Tok),S.h.get? a=some o→¬S.foot a→o.cls= .type "function"→(∀x∈cs,S.kz x)→
   o.data= .func (fnX (g.l0 d).name (g.l0 d).qual (g.l0 d).params (g.l0 d).body (g.l0 d).scope ((g.l0 d).frees.zip (cs.map S.ρ)) .none .none doc pm none (.ref c) ct)→(g.l0 d).frees.length=cs.length→
   S.h.get? c=some oc→¬S.foot c→oc.data= .fields vs→vs[1]? =some (.str (g.l0 d).qual t)→C (.ref a)):C r:=by cases h;exact k _ _ _ _ _ _ _ _ _ (by assumption) (by assumption) (by assumption) (by assumption) (by assumption) (by assumption) (by assumption) (by assumption) (by assumption) (by assumption)
theorem qK(h:dq g S [] rs)(k:D []):D rs:=by cases h;exact k
theorem jT(h:dq g S (v::vs) rs)(k:∀r rs,bu g S v r→dq g S vs rs→D (r::rs)):D rs:=by cases h;exact k _ _ (by assumption) (by assumption)
end
theorem G7(E:Ext S S' X):(∀v r,bu g S v r→bu g S' v r)∧∀vs rs,dq g S vs rs→dq g S' vs rs:=by
 haveI hX:∀{a o xs n},S.h.get? a=some o→o.data= .seq xs n→¬X a:=fun e hd h=>E.calm _ _ h e (.inl ⟨_,_,hd⟩)
 haveI r:∀{x},S.kz x→bu g S' (.ref x) (.ref (S.ρ x)):=fun h=>(E.kz _ h).2.1▸ .ref (E.kz _ h).1
 haveI c:∀{k:Nat} {cs:List VA} {a c:Addr} {o oc:Obj} {pm doc ct:Value} {vs:Array Value} {t:Tok},S.h.get? a=some o→¬S.foot a→o.cls= .type "function"→(∀x∈cs,S.kz x)→
   o.data= .func (fnX (g.l0 k).name (g.l0 k).qual (g.l0 k).params (g.l0 k).body (g.l0 k).scope ((g.l0 k).frees.zip (cs.map S.ρ)) .none .none doc pm none (.ref c) ct)→(g.l0 k).frees.length=cs.length→
   S.h.get? c=some oc→¬S.foot c→oc.data= .fields vs→vs[1]? =some (.str (g.l0 k).qual t)→bu g S' (.iC k cs) (.ref a):=fun {k cs a c o oc pm doc ct vs t} e hf hc hm hd hl e2 Ry hd2 hq=>by
  haveI hX:¬X a:=fun h=>E.calm _ _ h e (.inr (.inl ⟨_,hd⟩))
  haveI X1:¬X c:=fun h=>E.calm _ _ h e2 (.inr (.inr ⟨_,_,_,hd2,hq⟩))
  have:cs.map S.ρ=cs.map S'.ρ:=eS fun x hx=>(E.kz x (hm x hx)).2.1.symm
  exact .iC (pm:=pm) (doc:=doc) (ct:=ct) (E.keep _ _ e hf hX) (E.jI e hf hX) hc (fun x hx=>(E.kz x (hm x hx)).1) (this▸hd) hl (E.keep _ _ e2 Ry X1) (E.jI e2 Ry X1) hd2 hq
 exact⟨@bu.rec g S (fun v r _=>bu g S' v r) (fun vs rs _=>dq g S' vs rs) .none .bool .int .str (fun e hf hc hd _ h=> .tup (E.keep _ _ e hf (hX e hd)) (E.jI e hf (hX e hd)) hc hd h) (fun e hf hc hd _ h=> .lst (E.keep _ _ e hf (hX e hd)) (E.jI e hf (hX e hd)) hc hd h) r .fn c .nil (fun _ _=> .cons),
  @dq.rec g S (fun v r _=>bu g S' v r) (fun vs rs _=>dq g S' vs rs) .none .bool .int .str (fun e hf hc hd _ h=> .tup (E.keep _ _ e hf (hX e hd)) (E.jI e hf (hX e hd)) hc hd h) (fun e hf hc hd _ h=> .lst (E.keep _ _ e hf (hX e hd)) (E.jI e hf (hX e hd)) hc hd h) r .fn c .nil (fun _ _=> .cons)⟩
theorem bu.ext(E:Ext S S' X):bu g S v r→bu g S' v r:=(G7 E).1 v r
theorem dq.ext(E:Ext S S' X):dq g S vs rs→dq g S' vs rs:=(G7 E).2 vs rs
noncomputable def ref? :V→Option VA
 | .ref x=>some x
 |_=>none
noncomputable def int? :V→Option Int
 | .int x=>some x
 |_=>none
noncomputable def one? :List V→Option V
 | [x]=>some x
 |_=>none
noncomputable def two? :List V→Option (V×V)
 | [x,y]=>some (x,y)
 |_=>none
noncomputable def list? :ib→Option (List V)
 | .list x=>some x
 |_=>none
noncomputable def inst? :ib→Option (Addr×List (Fd×V))
 | .inst c x=>some (c,x)
 |_=>none
noncomputable def sd? :ib→Option (List (Fd×V))
 | .aU x=>some x
 |_=>none
noncomputable def td? :ib→Option (List (Str×V))
 | .cI x=>some x
 |_=>none
noncomputable def cell? :ib→Option V
 | .cell x=>some x
 |_=>none
section
variable {β γ:Type}{r:β}{C:Prop}
theorem pO(h:(ref? v)=some x):v= .ref x:=by
 induction v using V.casesOn<;>first|exact nn h|exact congrArg _ (Option.some.inj h)
theorem Ae(h:(int? v)=some x):v= .int x:=by
 induction v using V.casesOn<;>first|exact nn h|exact congrArg _ (Option.some.inj h)
theorem Ai(h:one? v=some x):v= [x]:=by
 induction v with
 |nil=>exact nn h
 |cons a l=>induction l with
  |nil=>exact congrArg (fun x=> [x]) (Option.some.inj h)
  |cons=>exact nn h
theorem FL(h:two? v=some x):v= [x.1,x.2]:=by
 induction v with
 |nil=>exact nn h
 |cons a l=>induction l with
  |nil=>exact nn h
  |cons b l=>induction l with
   |nil=>exact congrArg (fun x:V×V=> [x.1,x.2]) (Option.some.inj h)
   |cons=>exact nn h
theorem BD(h:list? v=some x):v= .list x:=by
 induction v<;>first|exact nn h|exact congrArg _ (Option.some.inj h)
theorem Jf(h:sd? v=some x):v= .aU x:=by
 induction v<;>first|exact nn h|exact congrArg _ (Option.some.inj h)
theorem NV(h:td? v=some x):v= .cI x:=by
 induction v<;>first|exact nn h|exact congrArg _ (Option.some.inj h)
theorem L6(h:cell? v=some x):v= .cell x:=by
 induction v<;>first|exact nn h|exact congrArg _ (Option.some.inj h)
theorem MJ(h:inst? v=some (c,x)):v= .inst c x:=by
 induction v<;>first|exact nn h|exact congrArg (fun p:Addr×List (Fd×V)=>ib.inst p.1 p.2) (Option.some.inj h)
theorem vInt{i:V}{A:Int→Option β}{B:V→Option β}:(∀k,i= .int k→A k=some r→C)→(B i=some r→C)→(match i with| .int k=>A k|i=>B i)=some r→C:=by
 induction i using V.casesOn with
 |int k=>exact fun a _=>a k rfl
 |_=>exact fun _ a=>a
theorem EX[Decidable p]:(p→a=some r→C)→((if p then a else none)=some r)→C:=fun H h=>
 if hp:p then H hp ((if_pos hp).symm.trans h) else nn ((if_neg hp).symm.trans h)
theorem ifn[Decidable p]:(¬p→a=some r→C)→((if p then none else a)=some r)→C:=fun H h=>
 if hp:p then nn ((if_pos hp).symm.trans h) else H hp ((if_neg hp).symm.trans h)
theorem ob:(∀u,o=some u→k u=some r→C)→(o.bind k=some r)→C:=fun H h=>aS (rj.mp h) H
theorem oM{k:V→Option β}:(∀u,o=some u→k u=some r→C)→((match o with|some u=>k u|none=>none)=some r)→C:=fun H h=>
 ob (o:=o) (k:=k) (H) (fz (by clear h H;induction o<;>rfl) h)
theorem oMs{k:Str→Option β}:(∀u,o=some u→k u=some r→C)→((match o with|some u=>k u|none=>none)=some r)→C:=fun H h=>
 ob (o:=o) (k:=k) (H) (fz (by clear h H;induction o<;>rfl) h)
theorem YS{k:(List V)→Option β}:(∀u,o=some u→k u=some r→C)→((match o with|some u=>k u|none=>none)=some r)→C:=fun H h=>
 ob (o:=o) (k:=k) (H) (fz (by clear h H;induction o<;>rfl) h)
theorem DE{v:V}{k:VA→Option β}:(∀x,v= .ref x→k x=some r→C)→((match v with| .ref x=>k x|_=>none)=some r)→C:=fun H h=>
 ob (o:=ref? v) (k:=k) (fun x e=>H x (pO e)) (fz (by clear h H;induction v using V.casesOn<;>rfl) h)
theorem v1{k:V→Option β}:(∀v,vs= [v]→k v=some r→C)→((match vs with| [v]=>k v|_=>none)=some r)→C:=fun H h=>
 ob (o:=one? vs) (k:=k) (fun x e=>H x (Ai e)) (fz (by clear h H;induction vs with|nil=>rfl|cons a l=>induction l<;>rfl) h)
theorem QJ{v:V}{vs:List V}{k:VA→Option β}:(∀x,v= .ref x→vs= []→k x=some r→C)→((match v,vs with| .ref x, []=>k x|_,_=>none)=some r)→C:=fun H h=>
 ob (o:=ref? v) (k:=fun x=>bif vs.isEmpty then k x else none) (fun x e h=>by
  induction vs with
  |nil=>exact H x (pO e) rfl h
  |cons=>exact nn h) (fz (by clear h H;induction v using V.casesOn<;>first|rfl|induction vs<;>rfl) h)
theorem UK{v:V}{k:VA→V→Option β}:(∀x u,v= .ref x→vs= [u]→k x u=some r→C)→((match v,vs with| .ref x, [u]=>k x u|_,_=>none)=some r)→C:=fun H h=>
 ob (o:=ref? v) (k:=fun x=>(one? vs).bind (k x)) (fun x e=>ob fun u f=>H x u (pO e) (Ai f)) (fz (by clear h H;induction v using V.casesOn<;>first|rfl|induction vs with|nil=>rfl|cons a l=>induction l<;>rfl) h)
theorem QK{v:V}{k:VA→V→V→Option β}:(∀x a b,v= .ref x→vs= [a,b]→k x a b=some r→C)→((match v,vs with| .ref x, [a,b]=>k x a b|_,_=>none)=some r)→C:=fun H h=>
 ob (o:=ref? v) (k:=fun x=>(two? vs).bind fun p=>k x p.1 p.2) (fun x e=>ob fun u f=>H x u.1 u.2 (pO e) (FL f)) (fz (by clear h H;induction v using V.casesOn<;>first|rfl|induction vs with|nil=>rfl|cons a l=>induction l with|nil=>rfl|cons b l=>induction l<;>rfl) h)
theorem Y7{v:V}{vs:List V}{k:VA→VA→Option β}:(∀x y,v= .ref x→vs= [.ref y]→k x y=some r→C)→((match v,vs with| .ref x, [.ref y]=>k x y|_,_=>none)=some r)→C:=fun H h=>
 ob (o:=ref? v) (k:=fun x=>(one? vs).bind fun u=>(ref? u).bind (k x)) (fun x e=>ob fun u f=>ob fun y e'=>H x y (pO e) (pO e'▸Ai f)) (fz (by clear h H;induction v using V.casesOn<;>first|rfl|induction vs with|nil=>rfl|cons a l=>induction l with|nil=>induction a using V.casesOn<;>rfl|cons=>induction a using V.casesOn<;>rfl) h)
theorem oL{o:Option ib}{k:List V→Option β}:(∀l,o=some (.list l)→k l=some r→C)→((match o with|some (.list l)=>k l|_=>none)=some r)→C:=fun H h=>
 ob (o:=o) (k:=fun y=>(list? y).bind k) (fun y e=>ob fun l f=>H l (BD f▸e)) (fz (by clear h H;induction o with|none=>rfl|some y=>induction y<;>rfl) h)
theorem oI{o:Option ib}{k:Addr→List (Fd×V)→Option β}:(∀c l,o=some (.inst c l)→k c l=some r→C)→((match o with|some (.inst c l)=>k c l|_=>none)=some r)→C:=fun H h=>
 ob (o:=o) (k:=fun y=>(inst? y).bind fun p=>k p.1 p.2) (fun y e=>ob fun l f=>H l.1 l.2 (MJ f▸e)) (fz (by clear h H;induction o with|none=>rfl|some y=>induction y<;>rfl) h)
theorem oS{o:Option ib}{k:List (Fd×V)→Option β}:(∀l,o=some (.aU l)→k l=some r→C)→((match o with|some (.aU l)=>k l|_=>none)=some r)→C:=fun H h=>
 ob (o:=o) (k:=fun y=>(sd? y).bind k) (fun y e=>ob fun l f=>H l (Jf f▸e)) (fz (by clear h H;induction o with|none=>rfl|some y=>induction y<;>rfl) h)
theorem oT{o:Option ib}{k:List (Str×V)→Option β}:(∀l,o=some (.cI l)→k l=some r→C)→((match o with|some (.cI l)=>k l|_=>none)=some r)→C:=fun H h=>
 ob (o:=o) (k:=fun y=>(td? y).bind k) (fun y e=>ob fun l f=>H l (NV f▸e)) (fz (by clear h H;induction o with|none=>rfl|some y=>induction y<;>rfl) h)
theorem oC{o:Option ib}{k:V→Option β}:(∀l,o=some (.cell l)→k l=some r→C)→((match o with|some (.cell l)=>k l|_=>none)=some r)→C:=fun H h=>
 ob (o:=o) (k:=fun y=>(cell? y).bind k) (fun y e=>ob fun l f=>H l (L6 f▸e)) (fz (by clear h H;induction o with|none=>rfl|some y=>induction y<;>rfl) h)
theorem oLL{o o':Option ib}{k:List V→List V→Option β}:(∀l m,o=some (.list l)→o'=some (.list m)→k l m=some r→C)→((match o,o' with|some (.list l),some (.list m)=>k l m|_,_=>none)=some r)→C:=fun H h=>
 ob (o:=o) (k:=fun y=>(list? y).bind fun l=>o'.bind fun z=>(list? z).bind (k l)) (fun y e=>ob fun l f=>ob fun z e'=>ob fun m f'=>H l m (BD f▸e) (BD f'▸e')) (fz (by clear h H;induction o with|none=>rfl|some y=>induction y<;>first|rfl|induction o' with|none=>rfl|some y=>induction y<;>rfl) h)
theorem oSS{o o':Option ib}{k:List (Fd×V)→List (Fd×V)→Option β}:(∀l m,o=some (.aU l)→o'=some (.aU m)→k l m=some r→C)→((match o,o' with|some (.aU l),some (.aU m)=>k l m|_,_=>none)=some r)→C:=fun H h=>
 ob (o:=o) (k:=fun y=>(sd? y).bind fun l=>o'.bind fun z=>(sd? z).bind (k l)) (fun y e=>ob fun l f=>ob fun z e'=>ob fun m f'=>H l m (Jf f▸e) (Jf f'▸e')) (fz (by clear h H;induction o with|none=>rfl|some y=>induction y<;>first|rfl|induction o' with|none=>rfl|some y=>induction y<;>rfl) h)
theorem YT{o:Option ib}{k:List (Str×V)→Str→Option β}:(∀l x,o=some (.cI l)→q=some x→k l x=some r→C)→((match o,q with|some (.cI l),some x=>k l x|_,_=>none)=some r)→C:=fun H h=>
 ob (o:=o) (k:=fun y=>(td? y).bind fun l=>q.bind (k l)) (fun y e=>ob fun l f=>ob fun x=>H l x (NV f▸e)) (fz (by clear h H;induction o with|none=>rfl|some y=>induction y<;>first|rfl|induction q<;>rfl) h)
theorem oMM{k:List V→List V→Option β}:(∀l x,o=some l→q=some x→k l x=some r→C)→((match o,q with|some l,some x=>k l x|_,_=>none)=some r)→C:=fun H h=>
 ob (o:=o) (k:=fun l=>q.bind (k l)) (fun l e=>ob fun x=>H l x e) (fz (by clear h H;induction o<;>first|rfl|induction q<;>rfl) h)
theorem oVI{v:V}{k:List V→Int→Option β}:(∀l i,o=some l→v= .int i→k l i=some r→C)→((match o,v with|some l,.int i=>k l i|_,_=>none)=some r)→C:=fun H h=>
 ob (o:=o) (k:=fun l=>(int? v).bind (k l)) (fun l e=>ob fun x f=>H l x e (Ae f)) (fz (by clear h H;induction o<;>first|rfl|induction v using V.casesOn<;>rfl) h)
theorem vRK{v:V}{k:VA→Str→Option β}:(∀x y,v= .ref x→q=some y→k x y=some r→C)→((match v,q with| .ref x,some y=>k x y|_,_=>none)=some r)→C:=fun H h=>
 ob (o:=ref? v) (k:=fun x=>q.bind (k x)) (fun x e=>ob fun y=>H x y (pO e)) (fz (by clear h H;induction v using V.casesOn<;>first|rfl|induction q<;>rfl) h)
end
end
section
open PySem.Builtin
noncomputable def Eb:Value→Bool
 | .none=>true
 |_=>false
def isOpt:Option Str→Value→Bool
 |some x,v=>Value.isStrOf x v
 |none,v=>Eb v
theorem KZ(v:Value)(a b:Option Str)(ha:isOpt a v=true)(hb:isOpt b v=true):a=b:=by
 induction v<;>induction a<;>induction b<;>simp_all [isOpt,Eb,Value.isStrOf]
theorem mU(h:isOpt none v=true):v= .none:=by induction v<;>simp_all [isOpt,Eb]
theorem mV(h:isOpt (some x) v=true):∃t,v= .str x t:=Value.isStrOf_shape h
section
variable {prog:Program}{w:World}
theorem KS(h:Q 0xfca86420 {s with toks:=s.toks+1}):wpAny (model prog w) A (PySem.pyHash .none) Q E s:=by
 haveI hT:s.TypeIs .none "NoneType":=rfl
 unfold pyHash pyHashByItsType
 refine wpAny_bind (wpAny_cRoomFor_byValue rfl ?_)
 refine wpAny_bind (wpAny_specialOf hT F.slot_NoneType_hash.lookup ?_)
 refine(?_:wpAny _ _ (if(some (Value.builtin "NoneType.__hash__")==some Value.none)=true then _ else _) Q E s)
 rw [if_neg (by rw [beq_builtin_none];exact aw)]
 refine wpAny_bind (wpAny_specialOf hT F.slot_NoneType_hash.lookup ?_)
 refine(?_:wpAny _ _ (callSpecialIfBoundUnlessNone? .none "__hash__" _>>=_) Q E s)
 refine wpAny_bind (wpAny_callSpecialIfBoundUnlessNone?_slot hT F.slot_NoneType_hash
  (wpAny_call_entry F.slot_NoneType_hash hT F.entry_NoneType_hash
   (show wpAny _ _ (do ret (←mkInt 0xFCA86420)) _ _ s from wpAny_ret_mkInt ?_) (F.args_NoneType_hash_1 _)))
 exact wpAny_pure h
end
def optKind(prog:Program)(w:World):KeyKind prog w (Option Str) where
 is:=isOpt
 hash:=fun k=>match k with|some x=>hashStr w x|none=>0xfca86420
 inj:=KZ
 byValue:=fun k v h=>by
  cases k with
  |none=>rw [mU h];rfl
  |some x=>obtain⟨t,rfl⟩:=mV h;rfl
 pyHash:=fun {A E s k v Q} hv h=>by
  cases k with
  |none=>rw [mU hv];exact KS h
  |some x=>obtain⟨t,rfl⟩:=mV hv;exact wpAny_pyHash_str h
 eqBool:=fun {A E s a b u v Q} hu hv h=>by
  cases a with
  |none=>
   rw [mU hu]
   cases b with
   |none=>rw [mU hv];exact SeqAt.EqAt.same _ _ _ _ _ (by simpa using h)
   |some y=>obtain⟨t,rfl⟩:=mV hv;exact SeqAt.EqAt.none_str _ _ _ _ _ _ (by simpa using h)
  |some x=>
   refine dh (mV hu) fun t cj=>?_
   subst cj
   cases b with
   |none=>rw [mU hv];exact SeqAt.EqAt.str_none _ _ _ _ _ _ (by simpa using h)
   |some y=>obtain⟨t',rfl⟩:=mV hv;exact wpAny_eqBool_str (by simpa using h)
 «strs»:=fun k x t v h=>by
  cases k with
  |none=>exact absurd (mU h) (by simp)
  |some y=>obtain⟨t',e⟩:=mV h;cases e;show Value.isStrOf _ v=_;exact(isStr_of _ v).symm
def ug(prog:Program)(w:World):HeapKind prog w (List (Option Str)):=tupleKind (optKind prog w)
noncomputable def M(α:Type):=Hp→Option (α×Hp)
noncomputable def pU{α:Type}(a:α):M α:=fun H=>some (a,H)
noncomputable def fL{α:Type}:M α:=fun _=>none
namespace M
noncomputable def d{α β:Type}(m:M α)(f:α→M β):M β:=fun H=>match m H with
 |some (a,H')=>f a H'
 |none=>none
theorem bind_some(h:d m f H=some (b,H')):∃a aG,m H=some (a,aG)∧f a aG=some (b,H'):=by
 unfold d at h
 split at h
 ·rename_i a aG e;exact ie a aG e h
 ·exact nn h
end M
theorem bs{α β:Type}{m:M α}{f:α→M β}{H:Hp}{b:β}{H':Hp}{C:Prop}(h:m.d f H=some (b,H'))(k:∀a aG,m H=some (a,aG)→f a aG=some (b,H')→C):C:=eY (M.bind_some h) k
variable (g:Gl)
noncomputable abbrev Mo:Model:=model g.prog g.w
inductive gn(S:Rp):List (Fd×V)→List (Str×Value)→Prop
 |nil:gn S [] []
 |cons {f:Fd} {v:V} {r:Value} {fs:List (Fd×V)} {fe:List (Str×Value)}:bu g S v r→gn S fs fe→gn S ((f,v)::fs) ((f.s,r)::fe)
inductive jP(S:Rp):List (Int×V)→List (Int×Value)→Prop
 |nil:jP S [] []
 |cons {i:Int} {v:V} {r:Value} {fs:List (Int×V)} {fe:List (Int×Value)}:bu g S v r→jP S fs fe→jP S ((i,v)::fs) ((i,r)::fe)
inductive iQ(S:Rp):List (Str×V)→List (List (Option Str)×Addr×Value)→Prop
 |nil:iQ S [] []
 |cons {x:Str} {v:V} {a:Addr} {r:Value} {fs:List (Str×V)} {fe:List (List (Option Str)×Addr×Value)}:bu g S (.tup [.str x,.none]) (.ref a)→bu g S v r→iQ S fs fe→iQ S ((x,v)::fs) (([some x,none],a,r)::fe)
def xu(K:Frag)(c:Addr):Bool:=(clsIn K c).any (·.hasDict)&&plainOver K c&&findIn K (.ref c) "__getattribute__"==some (some (.builtin "object.__getattribute__"))&&
 findIn K (.ref c) "__setattr__"==some (some (.builtin "object.__setattr__"))&&findIn K (.ref c) "__getattr__"==some none&&F9.all (fun f=>findIn K (.ref c) f.s==some none)
noncomputable def SD(S:Rp)(a:Addr)(fs:List (Fd×V)):Prop:=∃fe,S.h.DictOf (strKind g.prog g.w) a fe∧gn g S fs fe
def zy(S:Rp)(x:VA):ib→Prop
 | .inst c fs=>S.h.get? (S.ρ x)=some (instObj c (S.δ x))∧SD g S (S.δ x) fs∧S.ρ x≠S.δ x∧xu g.K c=true
 | .aU fs=>SD g S (S.ρ x) fs
 | .cI es=>∃xs,S.h.DictOfH (ug g.prog g.w) (S.ρ x) xs∧iQ g S es xs
 | .et es=>∃fe,S.h.DictOf (intKind g.prog g.w) (S.ρ x) fe∧jP g S es fe
 | .list vs=>∃items:Array Value,S.h.PlainList (S.ρ x) items∧dq g S vs items.toList
 | .cell v=>∃r,S.h.IsCell (S.ρ x) (some r)∧bu g S v r
structure Rep(S:Rp):Prop where
 obj:∀x o,S.H.get x=some o→zy g S x o
 apart:∀x y,S.kz x→S.kz y→x≠y→S.ρ x≠S.ρ y∧S.ρ x≠S.δ y∧S.δ x≠S.δ y
 low:∀x,S.kz x→g.fb.objs.size≤S.ρ x∧g.fb.objs.size≤S.δ x
 lt:∀x,S.kz x→S.ρ x<S.h.objs.size∧S.δ x<S.h.objs.size
inductive Kp:List Value→Prop
 |nil:Kp []
 |cons (a:Int) (t:Tok) (b:Int) (u:Tok) (x:Value) (r:List Value):Kp r→Kp (.int a t:: .int b u::x::r)
def QZ(S:Rp)(q:Addr×Addr×Pos×Str):Prop:=∃ps:Array Value,S.h.get? q.2.1=some (tabObj ps)∧Kp ps.toList∧(∀x t,ps[1]? ≠some (Value.str x t))∧
 ∀cv,codeAmong q.2.2.1 ps.toList=some cv→∃c oc vs t,cv= .ref c∧S.h.get? c=some oc∧¬S.foot c∧oc.data= .fields vs∧vs[1]? =some (Value.str q.2.2.2 t)
structure RS(S:Rp)(s:Shared):Prop where
 heap:s.heap=S.h
 rep:Rep g S
 old:∀a o,g.fb.get? a=some o→(∀q∈g.tabs,a≠q.2.1)→S.h.get? a=some o
 tabs:∀q∈g.tabs,QZ S q
 gens:s.gens= #[]
 os:s.os=g.os
 Hl:∀q∈g.tabs,q.2.1<g.fb.objs.size
 big:g.fb.objs.size≤S.h.objs.size
noncomputable def X0(a:Addr):Prop:=∃q∈g.tabs,a=q.2.1
variable {g}
theorem RS.cP(R:RS g S s):∀a o,X0 g a→S.h.get? a=some o→¬Calm o:=by
 rintro a o ⟨q,hq,rfl⟩ e
 refine wO (R.tabs q hq) fun ps e2 _ hn _=>?_
 rw [e2] at e
 apply so e
 rintro (⟨xs,n,h⟩|⟨f,h⟩|⟨vs,x,t,h,h1⟩)
 ·exact aj (by cases h)
 ·cases h
 ·cases h;exact hn x t h1
theorem RS.toks(R:RS g S s)(t:Nat):RS g S {s with toks:=t}:=⟨R.heap,R.rep,R.old,R.tabs,R.gens,R.os,R.Hl,R.big⟩
variable (g)
def Runs{α:Type}(X:Addr→Prop)(A:Around)(t:Sem α)(S:Rp)(s:Shared)(P:Rp→α→Prop):Prop:=
 ∀E,wpAny (Mo g) A t (fun r s'=>∃S',RS g S' s'∧Ext S S' X∧P S' r) E s
variable {g}
section
variable {α β:Type}{X:Addr→Prop}{A:Around}{S:Rp}{s:Shared}
theorem Runs.of(h:∀E,wpAny (Mo g) A t (fun r s'=>∃S',RS g S' s'∧Ext S S' X∧P S' r) E s):Runs g X A t S s P:=h
theorem Runs.pure(R:RS g S s)(hX:∀b o,X b→S.h.get? b=some o→¬Calm o)(h:P S a):Runs g X A (Pure.pure a:Sem α) S s P:=
 fun _=>wpAny_pure (jc S R (Ext.refl S hX) h)
theorem Runs.bind(h:Runs g X A m S s P)
  (k:∀S' s' a,RS g S' s'→Ext S S' X→P S' a→Runs g X A (f a) S' s' Q):Runs g X A (m>>=f) S s Q:=fun E=>
 wpAny_bind (wpAny_mono (h E) (fun a s' XA=>j9 XA fun S' R e p=>wpAny_mono (k S' s' a R e p E) (fun _ _ Xw=>j9 Xw fun LS R' e' p'=>(jc LS R' (e.trans e') p')) fun _ _ x=>x) fun _ _ x=>x)
theorem Runs.mono(h:Runs g X A t S s P)(k:∀S' a,Ext S S' X→P S' a→Q S' a):Runs g X A t S s Q:=fun E=>
 wpAny_mono (h E) (fun _ _ z76=>j9 z76 fun S' R e p=>(jc S' R e (k S' _ e p))) fun _ _ x=>x
theorem Runs.widen(h:Runs g X A t S s P)(MA:∀a,X a→Y a)(hY:∀a o,Y a→S.h.get? a=some o→¬Calm o):Runs g Y A t S s P:=fun E=>
 wpAny_mono (h E) (fun _ _ Xv=>j9 Xv fun S' R e p=>(jc S' R (e.widen MA hY) p)) fun _ _ x=>x
theorem Runs.narrow(h:Runs g Y A t S s P)(MA:∀a,Y a→X a∨S.h.objs.size≤a)(hX:∀a o,X a→S.h.get? a=some o→¬Calm o):Runs g X A t S s P:=fun E=>
 wpAny_mono (h E) (fun _ _ z48=>j9 z48 fun S' R e p=>(jc S' R (e.narrow MA hX) p)) fun _ _ x=>x
theorem Runs.holding(h:Runs g X A t S s P):Runs g X A (holding vs t) S s P:=fun E=>wpAny_holding (h E)
theorem Runs.keep(h:Runs g X A t S s P):Runs g X A (t.keep vs) S s P:=fun E=>Calls.wpAny_keep (h E)
theorem Runs.operate(h:Runs g X A t S s P):Runs g X A (operate vs t) S s P:=fun E Γ p YB=>by
 rw [Sem.wp_operate];exact h E Γ p YB
theorem Runs.release{vs keep:List Value}(R:RS g S s)(hX:∀b o,X b→S.h.get? b=some o→¬Calm o)(h:P S ()):Runs g X A (release vs keep) S s P:=fun E Γ p YB=>by
 rw [Sem.wp_release];exact jc S R (Ext.refl S hX) h
theorem Runs.cu(R:RS g S s)(hX:∀b o,X b→S.h.get? b=some o→¬Calm o)
  (h:∀E Q,(∀r tk,P S r→Q r {s with toks:=tk})→wpAny (Mo g) A t Q E s):Runs g X A t S s P:=fun E=>
 h E _ fun _ tk p=>(jc S (R.toks tk) (Ext.refl S hX) p)
theorem Runs.standAt(h:Runs g X A (k ()) S s P):Runs g X A (standAt p>>=k) S s P:=fun E=>wpAny_bind (wpAny_standAt (h E))
end
section
variable {g:Gl}{α:Type}{A:Around}{t:Sem α}{S:Rp}{s:Shared}{X:Addr→Prop}{H6 LQ S6 Y9:Rp→α→Prop}{E:Value→Shared→Prop}{Q:α→Shared→Prop}
theorem FG(h:wpAny (Mo g) A t (fun r s'=>∃S',RS g S' s'∧Ext S S' X∧H6 S' r) E s)(k:∀r s' S',RS g S' s'→Ext S S' X→H6 S' r→Q r s'):wpAny (Mo g) A t Q E s:=wpAny_mono h (fun r s' z2=>j9 z2 fun S' a b c=>k r s' S' a b c) fun _ _ x=>x
theorem h9(h:wpAny (Mo g) A t (fun r s'=>∃S',RS g S' s'∧Ext S S' X∧H6 S' r∧LQ S' r) E s)(k:∀r s' S',RS g S' s'→Ext S S' X→H6 S' r→LQ S' r→Q r s'):wpAny (Mo g) A t Q E s:=wpAny_mono h (fun r s' z22=>wO z22 fun S' a b c d=>k r s' S' a b c d) fun _ _ x=>x
theorem Sk(h:wpAny (Mo g) A t (fun r s'=>∃S',RS g S' s'∧Ext S S' X∧H6 S' r∧LQ S' r∧S6 S' r) E s)(k:∀r s' S',RS g S' s'→Ext S S' X→H6 S' r→LQ S' r→S6 S' r→Q r s'):wpAny (Mo g) A t Q E s:=wpAny_mono h (fun r s' z42=>xS z42 fun S' a b c d e=>k r s' S' a b c d e) fun _ _ x=>x
end
end
section
open PySem.Builtin
variable {g:Gl}
theorem gn.ext(E:Ext S S' X)(h:gn g S fs fe):gn g S' fs fe:=by
 induction h with
 |nil=>exact .nil
 |cons a _ ih=>exact .cons (a.ext E) ih
theorem jP.ext(E:Ext S S' X)(h:jP g S fs fe):jP g S' fs fe:=by
 induction h with
 |nil=>exact .nil
 |cons a _ ih=>exact .cons (a.ext E) ih
theorem iQ.ext(E:Ext S S' X)(h:iQ g S fs fe):iQ g S' fs fe:=by
 induction h with
 |nil=>exact .nil
 |cons k a _ ih=>exact .cons (k.ext E) (a.ext E) ih
theorem key_is(h:bu g S (.tup [.str x,.none]) (.ref a)):(ug g.prog g.w).is S.h [some x,none] a:=by
 cases h with
 |tup e _ hc hd rs=>
  refine Pc _ _ _ e hc hd ?_
  generalize hl:(_:Array Value).toList=l at rs
  cases rs with
  |cons r1 rs=>
   cases rs with
   |cons r2 rs=>
    cases rs
    cases r1
    cases r2
    exact .cons (by simp [optKind,isOpt,Value.isStrOf]) (.cons (by simp [optKind,isOpt,Eb]) .nil)
theorem iQ.is(h:iQ g S fs fe):∀x∈fe,(ug g.prog g.w).is S.h x.1 x.2.1:=by
 induction h with
 |nil=>intro x hx;exact aj (by cases hx)
 |cons k _ _ ih=>
  intro x hx
  rcases bF.mp hx with rfl|hx
  ·exact key_is k
  ·exact ih x hx
theorem xQ{K:Type}[DecidableEq K]{knd:KeyKind prog w K}{h h':Heap}{a:Addr}{fe:List (K×Value)}(x:h.DictOf knd a fe)(k:∀o,h.get? a=some o→h'.get? a=some o):h'.DictOf knd a fe:=
 let⟨o,es,ep,e,r⟩:=x;(RE o es ep (k o e) r)
theorem zy.frame(E:Ext S S' X)(hd:S.kz y)(h1:∀o,S.h.get? (S.ρ y)=some o→S'.h.get? (S.ρ y)=some o)
  (h2:∀o,S.h.get? (S.δ y)=some o→S'.h.get? (S.δ y)=some o) (h:zy g S y o):zy g S' y o:=by
 refine fC (E.kz y hd) fun _ e1 e2=>?_
 induction o with
 |inst c fs=>
  refine fC (h) fun a cj d=>?_
  refine aS (cj) fun fe b c'=>?_
  refine fM ?_ ⟨fe,?_,c'.ext E⟩ ?_
  ·(refine e1.symm▸?_;refine e2.symm▸?_);exact h1 _ a
  ·refine e2.symm▸?_;exact xQ b h2
  ·(refine e1.symm▸?_;refine e2.symm▸?_);exact d
 |aU fs=>refine aS (h) fun fe b c'=>?_;exact dG fe (by refine e1.symm▸?_;exact xQ b h1) (c'.ext E)
 |cI es=>
  refine aS (h) fun xs cj t=>?_
  refine CJ (cj) fun o Tr ep a1 a2 a3 a4 a5 a6=>?_
  exact dG xs ⟨o,Tr,ep,by refine e1.symm▸?_;exact h1 _ a1,a2,a3,a4,(t.ext E).is,a6⟩ (t.ext E)
 |et es=>refine aS (h) fun fe b c'=>?_;exact dG fe (by refine e1.symm▸?_;exact xQ b h1) (c'.ext E)
 |list vs=>
  refine aS (h) fun items cj c'=>?_
  refine dh (cj) fun n a=>?_
  exact dG items ⟨n,by refine e1.symm▸?_;exact h1 _ a⟩ (c'.ext E)
 |cell v=>
  refine aS (h) fun r cj c'=>?_
  refine aS (cj) fun o a b=>?_
  exact dG r ⟨o,by refine e1.symm▸?_;exact h1 _ a,b⟩ (c'.ext E)
theorem RS.quiet(R:RS g S s)(hX:∀b o,X b→S.h.get? b=some o→¬Calm o)(VR:∀a,X a→¬S.foot a)(ZK:∀a,X a→g.fb.objs.size≤a)(X3:∀a,X a→¬X0 g a)
  (k:∀b o,S.h.get? b=some o→¬X b→h'.get? b=some o) (hs:S.h.objs.size≤h'.objs.size) (t:Nat):
  RS g ⟨S.H,S.ρ,S.δ,h'⟩ {s with heap:=h',toks:=t}∧Ext S ⟨S.H,S.ρ,S.δ,h'⟩ X:=by
 have E:Ext S ⟨S.H,S.ρ,S.δ,h'⟩ X:=⟨fun x d=>⟨d,rfl,rfl⟩,fun x h1 h2=>(h1 h2).elim,fun a o e _ hx=>k a o e hx,hX,hs,fun _=>az _,fun x d _ o e=>k _ o e fun hx=>VR _ hx ⟨x,d,.inl rfl⟩⟩
 refine iN ⟨rfl,⟨fun x o e=>?_,R.rep.apart,R.rep.low,fun x d=>(iN (aT (R.rep.lt x d).1 hs) (aT (R.rep.lt x d).2 hs))⟩,fun a o e hq=>?_,fun q hq=>?_,R.gens,R.os,R.Hl,ai R.big hs⟩ E
 ·have d:S.kz x:=by
   intro hn
   rw [show S.H.get x=some o from e] at hn
   exact G2 hn
  exact zy.frame E d (fun o e'=>k _ o e' fun hx=>VR _ hx (dG x d (.inl rfl))) (fun o e'=>k _ o e' fun hx=>VR _ hx (dG x d (.inr rfl))) (R.rep.obj x o e)
 ·exact k a o (R.old a o e hq) fun hx=>absurd (bk e) (cg.mpr (ZK a hx))
 ·refine wO (R.tabs q hq) fun ps a1 a2 a3 a4=>?_
  refine iq ps (k _ _ a1 fun hx=>X3 _ hx (dG q hq rfl)) a2 a3 (fun cv Lu=>?_)
  refine xT (a4 cv Lu) fun c oc vs t b1 b2 b3 b4 b5=>?_
  exact GL c oc vs t b1 (k _ _ b2 (fun hx=>hX _ _ hx b2 (.inr (.inr (RE _ _ _ b4 b5))))) b3 b4 b5
theorem RS.change(R:RS g S s)(hd:S.kz x)
  (k:∀b,b≠S.ρ x→b≠S.δ x→∀o,S.h.get? b=some o→h'.get? b=some o) (hs:h'.objs.size=S.h.objs.size)
  (ho:Ext S ⟨S.H.set x o',S.ρ,S.δ,h'⟩ (X0 g)→zy g ⟨S.H.set x o',S.ρ,S.δ,h'⟩ x o') (t:Nat):
  RS g ⟨S.H.set x o',S.ρ,S.δ,h'⟩ {s with heap:=h',toks:=t}∧Ext S ⟨S.H.set x o',S.ρ,S.δ,h'⟩ (X0 g):=by
 have AR:∀y,(Rp.mk (S.H.set x o') S.ρ S.δ h').kz y↔S.kz y:=fun y=>by
  refine(?_:(if y=x then some o' else S.H.get y)≠none↔_)
  by_cases hy:y=x
  ·apply iH hy;simp only [if_true];exact⟨fun _=>hd,fun _=>by simp⟩
  ·refine(ah (if_neg hy))▸?_;exact Iff.rfl
 have V4:S.foot (S.ρ x):=(dG x hd (.inl rfl))
 have V3:S.foot (S.δ x):=(dG x hd (.inr rfl))
 have E:Ext S ⟨S.H.set x o',S.ρ,S.δ,h'⟩ (X0 g):=by
  refine⟨fun y d=>(fM ((AR y).mpr d) rfl rfl),fun y h1 h2=>(h1 ((AR y).mp h2)).elim,fun a o e hf _=>?_,R.cP,fZ hs.symm,fun y=>?_,fun y d e o ho=>?_⟩
  ·exact k a (fun q=>hf (q▸V4)) (fun q=>hf (q▸V3)) o e
  ·refine(?_:S.H.pv y≤if y=x then S.H.pv y+1 else S.H.pv y)
   split<;>omega
  ·haveI e:(if y=x then S.H.pv y+1 else S.H.pv y)=S.H.pv y:=e
   by_cases hy:y=x
   ·rw [if_pos hy] at e;lia
   ·refine fC (R.rep.apart y x d hd hy) fun p1 p2 _=>?_
    exact k _ p1 p2 o ho
 haveI low:=R.rep.low x hd
 refine iN ⟨rfl,⟨fun y o e=>?_,fun y z a b=>R.rep.apart y z ((AR y).mp a) ((AR z).mp b),fun y a=>R.rep.low y ((AR y).mp a),fun y a=>hs▸R.rep.lt y ((AR y).mp a)⟩,fun a o e hq=>?_,fun q hq=>?_,R.gens,R.os,R.Hl,by refine hs.symm▸?_;exact R.big⟩ E
 ·by_cases hy:y=x
  ·subst hy
   have:o'=o:=by simpa using e
   apply sb this;exact ho E
  ·haveI e':S.H.get y=some o:=by simpa [hy] using e
   have d:S.kz y:=by intro hn;rw [e'] at hn;exact G2 hn
   refine fC (R.rep.apart y x d hd hy) fun p1 p2 p3=>?_
   refine fC (R.rep.apart x y hd d (bM hy)) fun q1 q2 q3=>?_
   exact zy.frame E d (fun o e=>k _ p1 p2 o e) (fun o e=>k _ (bM q2) p3 o e) (R.rep.obj y o e')
 ·refine k a ?_ ?_ o (R.old a o e hq)
  ·rintro rfl;exact absurd (bk e) (cg.mpr low.1)
  ·rintro rfl;exact absurd (bk e) (cg.mpr low.2)
 ·refine wO (R.tabs q hq) fun ps a1 a2 a3 a4=>?_
  haveI Yi:∀a,S.foot a→a≠q.2.1:=by
   rintro a ⟨y,dy,hy⟩ rfl
   haveI l:=R.Hl q hq
   haveI lo:=R.rep.low y dy
   rcases hy with e|e<;>rw [e] at l
   ·exact absurd l (cg.mpr lo.1)
   ·exact absurd l (cg.mpr lo.2)
  refine iq ps (k _ (Yi _ V4).symm (Yi _ V3).symm _ a1) a2 a3 (fun cv Lu=>?_)
  refine xT (a4 cv Lu) fun c oc vs t b1 b2 b3 b4 b5=>?_
  refine GL c oc vs t b1 (k _ (fun q=>b3 (by refine q.symm▸?_;exact V4)) (fun q=>b3 (by refine q.symm▸?_;exact V3)) _ b2) ?_ b4 b5
  rintro ⟨y,dy,hy⟩
  exact b3 ⟨y,(AR y).mp dy,hy⟩
noncomputable def fP(f:VA→Addr)(x:VA)(a:Addr):VA→Addr:=fun y=>if y=x then a else f y
@[simp] theorem da(f:VA→Addr)(x:VA)(a:Addr):fP f x a x=a:=if_pos rfl
theorem iX(f:VA→Addr){x y:VA}(a:Addr)(h:y≠x):fP f x a y=f y:=if_neg h
theorem RS.Q4(R:RS g S s)(hX:∀b o,X b→S.h.get? b=some o→¬Calm o)(X3:∀a,X0 g a→X a)(hd:S.H.get x=none)
  (k:∀b o,S.h.get? b=some o→h'.get? b=some o) (ha:(S.h.objs.size≤a∨(X a∧g.fb.objs.size≤a∧¬S.foot a))∧a<h'.objs.size) (zE:(S.h.objs.size≤d∨(X d∧g.fb.objs.size≤d∧¬S.foot d))∧d<h'.objs.size)
  (hs:S.h.objs.size≤h'.objs.size)
  (JS:∀q∈g.tabs,∀ps:Array Value,S.h.get? q.2.1=some (tabObj ps)→∀c oc vs t y,codeAmong q.2.2.1 ps.toList=some (.ref c)→S.h.get? c=some oc→oc.data= .fields vs→vs[1]? =some (Value.str y t)→c≠a∧c≠d)
  (ho:Ext S ⟨S.H.set x o',fP S.ρ x a,fP S.δ x d,h'⟩ X→zy g ⟨S.H.set x o',fP S.ρ x a,fP S.δ x d,h'⟩ x o') (t:Nat):
  RS g ⟨S.H.set x o',fP S.ρ x a,fP S.δ x d,h'⟩ {s with heap:=h',toks:=t}∧Ext S ⟨S.H.set x o',fP S.ρ x a,fP S.δ x d,h'⟩ X:=by
 have nd:¬S.kz x:=fun h=>h hd
 have ne:∀y,S.kz y→y≠x:=fun y dy e=>nd (e▸dy)
 have KG:∀y,(Rp.mk (S.H.set x o') (fP S.ρ x a) (fP S.δ x d) h').kz y→y=x∨S.kz y:=fun y dy=>by
  by_cases hy:y=x
  ·exact .inl hy
  ·refine .inr ?_
   have:(if y=x then some o' else S.H.get y)≠none:=dy
   rwa [if_neg hy] at this
 have E:Ext S ⟨S.H.set x o',fP S.ρ x a,fP S.δ x d,h'⟩ X:=by
  refine⟨fun y dy=>⟨?_,iX _ _ (ne y dy),iX _ _ (ne y dy)⟩,fun y h1 h2=>?_,fun b o e _ _=>k b o e,hX,hs,fun y=>?_,fun y _ _ o e=>k _ o e⟩
  ·refine(?_:(if y=x then some o' else S.H.get y)≠none)
   refine(ah (if_neg (ne y dy)))▸?_;exact dy
  ·rcases KG y h2 with rfl|h2
   ·refine(?_:(S.h.objs.size≤fP S.ρ y a y∨X (fP S.ρ y a y))∧(S.h.objs.size≤fP S.δ y d y∨X (fP S.δ y d y)))
    rw [da,da]
    exact iN (ha.1.imp_right (·.1)) (zE.1.imp_right (·.1))
   ·exact(h1 h2).elim
  ·refine(?_:S.H.pv y≤if y=x then S.H.pv y+1 else S.H.pv y)
   split<;>omega
 haveI apart:∀y,S.kz y→∀b,(S.h.objs.size≤b∨(X b∧g.fb.objs.size≤b∧¬S.foot b))→S.ρ y≠b∧S.δ y≠b:=fun y dy b hb=>by
  rcases hb with hb|⟨_,_,hb⟩
  ·have:=R.rep.lt y dy
   exact iN (gb (aT this.1 hb)) (gb (aT this.2 hb))
  ·exact iN (fun e=>hb ⟨y,dy,.inl e.symm⟩) (fun e=>hb ⟨y,dy,.inr e.symm⟩)
 haveI low:∀b,(S.h.objs.size≤b∨(X b∧g.fb.objs.size≤b∧¬S.foot b))→g.fb.objs.size≤b:=fun b VU=>by
  rcases VU with h|h
  ·exact ai R.big h
  ·exact h.2.1
 refine iN ⟨rfl,⟨fun y o e=>?_,fun y z dy dz YA=>?_,fun y dy=>?_,fun y dy=>?_⟩,fun b o e hq=>k b o (R.old b o e hq),fun q hq=>?_,R.gens,R.os,R.Hl,ai R.big hs⟩ E
 ·by_cases hy:y=x
  ·subst hy
   have:o'=o:=by simpa using e
   apply sb this;exact ho E
  ·haveI e':S.H.get y=some o:=by simpa [hy] using e
   haveI dy:S.kz y:=by intro hn;rw [e'] at hn;exact G2 hn
   exact zy.frame E dy (fun o e=>k _ o e) (fun o e=>k _ o e) (R.rep.obj y o e')
 ·refine(?_:fP S.ρ x a y≠fP S.ρ x a z∧fP S.ρ x a y≠fP S.δ x d z∧fP S.δ x d y≠fP S.δ x d z)
  rcases KG y dy with ey|ey<;>rcases KG z dz with ez|ez
  ·exact(YA (ey.trans ez.symm)).elim
  ·rw [ey,da,da,iX _ _ (ne z ez),iX _ _ (ne z ez)]
   haveI p:=apart z ez a ha.1
   haveI q:=apart z ez d zE.1
   exact fM p.1.symm p.2.symm q.2.symm
  ·rw [ez,iX _ _ (ne y ey),iX _ _ (ne y ey),da,da]
   haveI p:=apart y ey a ha.1
   haveI q:=apart y ey d zE.1
   exact fM p.1 q.1 q.2
  ·(refine(ah (iX _ _ (ne y ey)))▸?_;refine(ah (iX _ _ (ne y ey)))▸?_;refine(ah (iX _ _ (ne z ez)))▸?_;refine(ah (iX _ _ (ne z ez)))▸?_)
   exact R.rep.apart y z ey ez YA
 ·refine(?_:g.fb.objs.size≤fP S.ρ x a y∧g.fb.objs.size≤fP S.δ x d y)
  rcases KG y dy with rfl|dy
  ·rw [da,da];exact iN (low a ha.1) (low d zE.1)
  ·(refine(ah (iX _ _ (ne y dy)))▸?_;refine(ah (iX _ _ (ne y dy)))▸?_);exact R.rep.low y dy
 ·refine(?_:fP S.ρ x a y<h'.objs.size∧fP S.δ x d y<h'.objs.size)
  rcases KG y dy with rfl|dy
  ·rw [da,da];exact iN ha.2 zE.2
  ·(refine(ah (iX _ _ (ne y dy)))▸?_;refine(ah (iX _ _ (ne y dy)))▸?_)
   have:=R.rep.lt y dy
   exact iN (aT this.1 hs) (aT this.2 hs)
 ·refine wO (R.tabs q hq) fun ps a1 a2 a3 a4=>?_
  refine iq ps (k _ _ a1) a2 a3 (fun cv Lu=>?_)
  refine xT (a4 cv Lu) fun c oc vs t b1 b2 b3 b4 b5=>?_
  refine GL c oc vs t b1 (k _ _ b2) ?_ b4 b5
  rintro ⟨y,dy,hy⟩
  haveI hc:=JS q hq ps a1 c oc vs t _ (b1▸Lu) b2 b4 b5
  rcases KG y dy with rfl|dy
  ·haveI hy:c=fP S.ρ y a y∨c=fP S.δ y d y:=hy
   rw [da,da] at hy
   exact hy.elim hc.1 hc.2
  ·haveI hy:c=fP S.ρ x a y∨c=fP S.δ x d y:=hy
   rw [iX _ _ (ne y dy),iX _ _ (ne y dy)] at hy
   exact b3 ⟨y,dy,hy⟩
theorem RS.L1(R:RS g S s)(hd:S.H.get x=none)
  (k:∀b o,S.h.get? b=some o→h'.get? b=some o) (ha:S.h.objs.size≤a∧a<h'.objs.size) (zE:S.h.objs.size≤d∧d<h'.objs.size)
  (hs:S.h.objs.size≤h'.objs.size)
  (ho:Ext S ⟨S.H.set x o',fP S.ρ x a,fP S.δ x d,h'⟩ (X0 g)→zy g ⟨S.H.set x o',fP S.ρ x a,fP S.δ x d,h'⟩ x o') (t:Nat):
  RS g ⟨S.H.set x o',fP S.ρ x a,fP S.δ x d,h'⟩ {s with heap:=h',toks:=t}∧Ext S ⟨S.H.set x o',fP S.ρ x a,fP S.δ x d,h'⟩ (X0 g):=
 R.Q4 R.cP (fun _ h=>h) hd k ⟨.inl ha.1,ha.2⟩ ⟨.inl zE.1,zE.2⟩ hs
  (fun q hq ps _ c oc vs t y _ e _ _=>by
   haveI l:=bk e
   exact⟨gb (aT l ha.1),gb (aT l zE.1)⟩) ho t
end
section
open PySem.Builtin
structure zw where
 env:Env
 k:Nat
 sh:List (Nat×VA)
noncomputable abbrev Lc:=List (Nat×V)
structure JA(l:List (Str×NameKind)):Prop where
 once:(l.map (·.1)).Nodup
 Mf:∀p∈l,(p.1==("__debug__":Str))=false∧(p.1==("__classdict__":Str))=false
theorem gk:∀{l:List (Str×NameKind)},(l.map (·.1)).Nodup→∀{i:Nat} {n:Str} {k:NameKind},l[i]? =some (n,k)→l.lookup n=some k
 | [],_,i,n,k,e=>by simp at e
 |(m,q)::r,hn,i,n,k,e=>by
  rw [bw,eI] at hn
  cases i with
  |zero=>simp at e;obtain⟨rfl,rfl⟩:=e;simp
  |succ j=>
   simp at e
   haveI hm:n∈r.map (·.1):=aP.mpr (dG (n,k) (aB e) rfl)
   have:(n==m)=false:=by simp;rintro rfl;exact hn.1 hm
   rw [b7,this]
   exact gk hn.2 e
theorem EW{l:List (Str×NameKind)}(hn:(l.map (·.1)).Nodup){i j:Nat}(a:l[i]? =some (n,k))(b:l[j]? =some (n,q)):i=j:=by
 haveI ha:(l.map (·.1))[i]? =some n:=by(refine(ah (aC))▸?_;refine a.symm▸?_);rfl
 haveI hb:(l.map (·.1))[j]? =some n:=by(refine(ah (aC))▸?_;refine b.symm▸?_);rfl
 exact(jN (aF.mp ha).1 hn).mp (ha.trans hb.symm)
def namesOk(l:List (Str×NameKind)):Bool:=
 let cs:=l.map fun p=>mG p.1
 (cs.all fun c=> !(DF c (mG "__debug__"))&& !(DF c (mG "__classdict__")))&&vF cs
where vF:List Nat→Bool
 | []=>true
 |c::r=>r.all (fun d=> !(DF c d))&&vF r
theorem wx:∀{l:List (Str×NameKind)},namesOk.vF (l.map fun p=>mG p.1)=true→(l.map (·.1)).Nodup
 | [],_=>ej
 |p::r,h=>by
  simp only [bw,namesOk.vF,cV] at h
  rw [bw,eI]
  refine⟨fun hm=>?_,wx h.2⟩
  refine aS (aP.mp hm) fun q hq e=>?_
  have:=du.mp h.1 (mG q.1) (aP.mpr (dG q hq rfl))
  rw [e,pA] at this
  exact ft this
theorem pj(h:namesOk l=true):JA l:=by
 simp only [namesOk,cV] at h
 refine⟨wx h.2,fun p hp=>?_⟩
 have:=du.mp h.1 (mG p.1) (aP.mpr (dG p hp rfl))
 simp only [cV,LA] at this
 refine⟨?_,?_⟩
 ·induction q:(p.1==("__debug__":Str)) with
  |false=>rfl
  |true=>rw [beq_iff_eq.mp q,pA] at this;exact tf this.1
 ·induction q:(p.1==("__classdict__":Str)) with
  |false=>rfl
  |true=>rw [beq_iff_eq.mp q,pA] at this;exact tf this.2
variable (g:Gl)
structure gj:Prop where
 K:g.K.In g.fb
 nolimit:g.fb.NoLimit
 blt:∃mb,g.fb.Ns builtinsNs mb∧∀x:Str,x≠ "__name__"→mb x=bootBuiltins x
 stat:∀q∈g.tabs,q.2.1≠cStatics∧q.2.1≠builtinsNs∧q.2.1≠mainGlobals
 Uv:∀q∈g.tabs,∀o,g.K.lookup q.2.1≠some o
 UH:sysModules<g.fb.objs.size
noncomputable def uR(k:NameKind):Prop:=k= .cell∨k= .free
structure Fits(fr:zw)(Lo:Lc)(S:Rp):Prop where
 kind:fr.env.scope.kind= .function
 glob:fr.env.globals=mainGlobals
 blt:fr.env.builtins=builtinsNs
 nm:JA fr.env.scope.names
 ns:∃mm,S.h.Ns fr.env.locals mm∧∀i v n,Lo.lookup i=some v→fr.env.scope.names[i]? =some (n,.local)→∃r,mm n=some r∧bu g S v r
 Ie:∀i v,Lo.lookup i=some v→∃n k,fr.env.scope.names[i]? =some (n,k)∧(k= .local∨(uR k∧fr.sh.lookup i=none∧∃c r,fr.env.cells.lookup n=some c∧S.h.IsCell c (some r)∧bu g S v r))
 QE:∀i x,fr.sh.lookup i=some x→∃n k,fr.env.scope.names[i]? =some (n,k)∧uR k∧S.kz x∧fr.env.cells.lookup n=some (S.ρ x)
 J8:¬S.foot fr.env.locals∧g.fb.objs.size≤fr.env.locals
 Oh:∀i n k,fr.env.scope.names[i]? =some (n,k)→uR k→∃c,fr.env.cells.lookup n=some c∧c≠fr.env.locals∧(fr.sh.lookup i=none→(∃v,S.h.IsCell c v)∧¬S.foot c∧g.fb.objs.size≤c)
 inj:∀n n' c,fr.env.cells.lookup n=some c→fr.env.cells.lookup n'=some c→n=n'
noncomputable def rn(k:Nat)(A:Around):Prop:=A.depth+4*k+4≤900∧A.units+40*k+40≤9000∧A.handled=none
def Xf(fr:zw)(a:Addr):Prop:=X0 g a∨a=fr.env.locals∨∃i n,fr.env.scope.names[i]? =some (n,.cell)∧fr.env.cells.lookup n=some a∧fr.sh.lookup i=none
variable {g}
theorem RS.vC(R:RS g S s)(h:X0 g a):a<g.fb.objs.size:=by
 refine aS (h) fun q hq u6=>?_;apply iH u6;exact R.Hl q hq
theorem RS.kept(R:RS g S s)(E:Ext S S' (X0 g))(h:g.fb.objs.size≤a)(hf:¬S.foot a)(e:S.h.get? a=some o):S'.h.get? a=some o:=
 E.keep a o e hf fun x=>absurd (R.vC x) (cg.mpr h)
theorem Fits.cellAt(F:Fits g fr Lo S)(h:fr.env.scope.names[i]? =some (n,k))(hk:uR k)(hs:fr.sh.lookup i=none)(hc:fr.env.cells.lookup n=some c):
  c≠fr.env.locals∧(∃v,S.h.IsCell c v)∧¬S.foot c∧g.fb.objs.size≤c:=by
 refine j9 (F.Oh i n k h hk) fun c' a b d=>?_
 replace a:=(hc)▸a;cases a
 exact⟨b,d hs⟩
theorem Fits.Tb(F:Fits g fr Lo S)(h:Lo.lookup i=some v)(hn:fr.env.scope.names[i]? =some (n,k)):
  k= .local∨(uR k∧fr.sh.lookup i=none∧∃c r,fr.env.cells.lookup n=some c∧S.h.IsCell c (some r)∧bu g S v r):=by
 refine eY (F.Ie i v h) fun n' k' e1=>?_
 replace e1:=e1.symm.trans hn
 apply pe e1
 exact id
theorem Fits.UG(F:Fits g fr Lo S)(h:fr.sh.lookup i=some x)(hn:fr.env.scope.names[i]? =some (n,k)):
  uR k∧S.kz x∧fr.env.cells.lookup n=some (S.ρ x):=by
 refine eY (F.QE i x h) fun n' k' e1=>?_
 replace e1:=e1.symm.trans hn
 apply pe e1
 exact id
theorem Fits.move(F:Fits g fr Lo S)(E:Ext S S' X)(hL:¬X fr.env.locals)(hC:∀{i n k c},fr.env.scope.names[i]? =some (n,k)→uR k→fr.sh.lookup i=none→fr.env.cells.lookup n=some c→¬X c):Fits g fr Lo S':=by
 refine aS F.ns fun mm q h=>CI q fun o es ep e r=>?_
 refine⟨F.kind,F.glob,F.blt,F.nm,(dG mm ⟨o,es,ep,E.keep _ o e F.J8.1 hL,r⟩ (fun i v n a b=>aS (h i v n a b) fun r p q=>⟨r,p,q.ext E⟩)),fun i v h=>?_,fun i x h=>?_,(iN (E.jI e F.J8.1 hL) F.J8.2),fun i n k h hk=>?_,F.inj⟩
 ·refine eY (F.Ie i v h) fun n k a b=>ie n k a (b.imp_right fun z=>fC z fun b1 b2 z=>sN z fun c r d q h=>⟨b1,b2,zF c r d ?_ (h.ext E)⟩)
  exact aS q fun o e1 e2=>(dG o (E.keep _ o e1 (F.cellAt a b1 b2 d).2.2.1 (hC a b1 b2 d)) e2)
 ·exact sO (F.QE i x h) fun n k a b c d=>zG n k a b (E.kz x c).1 (d.trans (congrArg some (E.kz x c).2.1.symm))
 ·refine j9 (F.Oh i n k h hk) fun c a b d=>jc c a b fun hs=>fC (d hs) fun q f l=>eY q fun v o e1 e2=>?_
  exact fM ⟨v,o,E.keep _ o e1 f (hC h hk hs a),e2⟩ (E.jI e1 f (hC h hk hs a)) l
theorem Fits.ext(F:Fits g fr Lo S)(R:RS g S s)(E:Ext S S' (X0 g)):Fits g fr Lo S':=
 F.move E (fun x=>absurd (R.vC x) (cg.mpr F.J8.2)) fun a b c d x=>absurd (R.vC x) (cg.mpr (F.cellAt a b c d).2.2.2)
variable (g)
def SE(fr:zw)(Lo:Lc)(e:Expr)(m:M V):Prop:=
 ∀A S s,rn fr.k A→RS g S s→Fits g fr Lo S→∀v H',m S.H=some (v,H')→Runs g (X0 g) A (eval e fr.env) S s fun S' r=>S'.H=H'∧bu g S' v r
def SB(fr:zw)(Lo:Lc)(e:Expr)(m:M Bool):Prop:=
 ∀A S s,rn fr.k A→RS g S s→Fits g fr Lo S→∀v H',m S.H=some (v,H')→Runs g (X0 g) A (isTrue e fr.env (eval e fr.env)) S s fun S' r=>S'.H=H'∧r=v
inductive Fl
 |ret (v:V)
 |next (vs:List V)
abbrev nX:M Fl:=pU (.next [])
def qD(fr:zw)(fin:List V→Lc)(S:Rp):Fl→Flow→Prop
 | .ret v,.ret r=>bu g S v r
 | .next vs,.next=>Fits g fr (fin vs) S
 |_,_=>False
def SS(fr:zw)(Lo:Lc)(st:List Stmt)(fin:List V→Lc)(m:M Fl):Prop:=
 ∀A S s,rn fr.k A→RS g S s→Fits g fr Lo S→∀v H',m S.H=some (v,H')→Runs g (Xf g fr) A (execs st fr.env) S s fun S' r=>S'.H=H'∧qD g fr fin S' v r
def CS(k:Nat)(f:Addr)(m:List V→M V):Prop:=
 ∀A S s,rn k A→RS g S s→∀vs rs,dq g S vs rs→∀v H',m vs S.H=some (v,H')→∀E:Value→Shared→Prop,codeAny (Mo g) A (.call (.ref f) ⟨rs, []⟩) (fun r s'=>match r with
  | .ok (.ret x)=>∃S',RS g S' s'∧Ext S S' (X0 g)∧S'.H=H'∧bu g S' v x
  | .ok _=>False
  | .error e=>E e s') s
variable {g}
theorem J7(hk:env.scope.kind= .function)(hl:env.kindOf name=some k)(Ad:uR k)
  (hc:env.cells.lookup name=some c) (hv:s.heap.IsCell c (some v)) (h:Q v s) (hn:(name==("__classdict__":Str))=false):wpAny (Mo g) A (loadName env name) Q E s:=by
 rcases Ad with rfl|rfl
 ·exact wpAny_loadName_cell hk hl hc hv h
 ·exact wpAny_loadName_free hk hl hc hv h hn
section
variable {fr:zw}{Lo:Lc}
theorem ab(i:Nat)(hn:fr.env.scope.names[i]? =some (n,k):=by rfl)(h:Lo.lookup i=some v:=by rfl):SE g fr Lo (.Name n pos) (pU v):=by
 intro A S s hA R F v' H' hm
 apply pe hm
 have Mf:=F.nm.Mf _ (aB hn)
 have hk:fr.env.kindOf n=some k:=gk F.nm.once hn
 refine Runs.cu R R.cP fun E Q q=>wpAny_Name ?_ Mf.1
 rcases F.Tb h hn with rfl|⟨Ad,_,c,r,h1,h2,h4⟩
 ·refine aS (F.ns) fun mm A0 hh=>?_
  refine aS (hh i v n h hn) fun r p z=>?_
  exact wpAny_loadName_local F.kind hk (R.heap▸A0) p (q r s.toks ⟨rfl,z⟩)
 ·exact J7 F.kind hk Ad h1 (R.heap▸h2) (q r s.toks ⟨rfl,h4⟩) Mf.2
noncomputable def d8(x:VA):M V:=fun H=>match H.get x with
 |some (.cell v)=>some (v,H)
 |_=>none
theorem kZ(i:Nat)(hn:fr.env.scope.names[i]? =some (n,k):=by rfl)(h:fr.sh.lookup i=some x:=by rfl):SE g fr Lo (.Name n pos) (d8 x):=by
 intro A S s hA R F v' H' hm
 haveI Mf:=F.nm.Mf _ (aB hn)
 haveI hk:fr.env.kindOf n=some k:=gk F.nm.once hn
 unfold d8 at hm
 revert hm;refine oC fun v hx hm=>?_
 apply pe hm
 refine Runs.cu R R.cP fun E Q q=>wpAny_Name ?_ Mf.1
 refine fC (F.UG h hn) fun Ad Om hl=>?_
 refine aS (R.rep.obj x _ hx) fun r h2 h4=>?_
 exact J7 F.kind hk Ad hl (R.heap▸h2) (q r s.toks ⟨rfl,h4⟩) Mf.2
noncomputable def LW:Value→Option V
 | .none=>some .none
 | .int i _=>some (.int i)
 | .str x _=>some (.str x)
 |_=>none
def H9:List Value→Option (List V)
 | []=>some []
 |r::rs=>(LW r).bind fun v=>(H9 rs).map (v::·)
def QI(o:Obj):Option V:=match o.data with
 | .seq xs _=>bif o.cls== .type "tuple" then(H9 xs.toList).map .tup else none
 |_=>none
def PO(K:Frag)(v:V)(r:Value):Option V:=match r with
 | .ref a=>(match v with
  | .tup _=>(K.lookup a).bind QI
  |_=>some (.fn a))
 |r=>LW r
variable (G:gj g)
theorem RS.In(G:gj g)(R:RS g S s):g.K.In S.h:=fun a o e=>R.old a o (G.K a o e) fun q hq h=>G.Uv q hq o (h▸e)
theorem RS.Pw(R:RS g S s)(e:g.fb.get? a=some o):¬S.foot a:=by
 rintro ⟨x,d,h⟩
 haveI l:=R.rep.low x d
 haveI l2:=bk e
 rcases h with rfl|rfl
 ·exact absurd l2 (cg.mpr l.1)
 ·exact absurd l2 (cg.mpr l.2)
theorem JD(h:LW r=some v):bu g S v r:=by
 induction r using Value.casesOn with
 |none=>apply so h;exact .none
 |int=>apply so h;exact .int _ _
 |str=>apply so h;exact .str _ _
 |_=>exact nn h
theorem LX:∀{vs:List V},H9 rs=some vs→dq g S vs rs:=by
 induction rs with
 |nil=>intro vs h;apply so h;exact .nil
 |cons r rs ih=>exact fun h=>aS (rj.mp h) fun v a h=>aS (ba.mp h) fun vs b q=>q▸ .cons (JD a) (ih b)
include G in
theorem PQ(R:RS g S s)(v:V)(r:Value)(h:PO g.K v r=some v):bu g S v r:=by
 unfold PO at h
 split at h
 ·split at h
  ·refine aS (rj.mp h) fun o ho h=>?_
   unfold QI at h
   split at h
   ·rename_i xs n hd
    induction hc:(o.cls==Value.type "tuple") with
    |false=>rw [hc] at h;exact nn h
    |true=>
     rw [hc] at h
     exact aS (ba.mp h) fun ds q e=>e▸ .tup (R.In G _ _ ho) (R.Pw (G.K _ _ ho)) (beq_iff_eq.mp hc) hd (LX q)
   ·exact nn h
  ·exact(Option.some.inj h)▸ .fn _
 ·exact JD h
structure LM(K:Frag)(es:List DictEntry):Prop where
 at_:∃c d n sl,K.lookup mainGlobals=some ⟨c,d,.dict es.toArray n,sl⟩
 once:∀(i j:Nat) (a b:DictEntry) (n:Str),es[i]? =some a→es[j]? =some b→a.key.isStr n=true→b.key.isStr n=true→i=j
theorem Gz{es:List DictEntry}(once:∀(i j:Nat) (a b:DictEntry) (n:Str),es[i]? =some a→es[j]? =some b→a.key.isStr n=true→b.key.isStr n=true→i=j)
  {j:Nat} (h:es[j]? =some e) (hk:e.key.isStr n=true):es.find? (·.key.isStr n)=some e:=by
 refine dh (aF.mp h) fun hl he=>?_
 rw [List.find?_eq_some_iff_getElem]
 refine⟨hk,j,hl,he,fun i hi=>?_⟩
 induction q:(es[i].key.isStr n) with
 |false=>rfl
 |true=>
  have:=once i j es[i] e n (bj _) h q hk
  lia
include G in
theorem Rl(MO:LM g.K es)(i:Nat)(hn:fr.env.scope.names[i]? =some (n,.globalImplicit))(j:Nat)(e:es[j]? =some ⟨hs,.str n t,r⟩)(hv:PO g.K v r=some v):
  SE g fr Lo (.Name n pos) (pU v):=by
 intro A S s hA R F v' H' hm
 apply pe hm
 refine Runs.cu R R.cP fun E Q k=>?_
 refine Name_function_global F.kind (gk F.nm.once hn) ?_ (F.nm.Mf _ (aB hn)).1
 unfold loadGlobal
 refine F.glob.symm▸?_
 refine Th (MO.at_) fun c d m sl hl=>?_
 haveI q:nsIn g.K mainGlobals n=some (some r):=by
  unfold nsIn
  refine hl.symm▸?_
  dsimp only
  rw [Gz MO.once e (by simp [Value.isStr])]
 refine wpAny_bind ((looks_nsIn (M:=Mo g) (R.heap▸R.In G:g.K.In s.heap) q).here ?_)
 exact wpAny_pure (k r s.toks ⟨rfl,PQ G R v r hv⟩)
theorem bO:SE g fr Lo (.Constant .none k pos) (pU .none):=by
 intro A S s hA R F v' H' hm
 apply pe hm
 exact Runs.cu R R.cP fun E Q k=>wpAny_pure (k _ s.toks ⟨rfl,.none⟩)
theorem eZ:SE g fr Lo (.Constant (.bool b) k pos) (pU (.bool b)):=by
 intro A S s hA R F v' H' hm
 apply pe hm
 exact Runs.cu R R.cP fun E Q k=>wpAny_pure (k _ s.toks ⟨rfl,.bool b⟩)
theorem dw:SE g fr Lo (.Constant (.int i) k pos) (pU (.int i)):=by
 intro A S s hA R F v' H' hm
 apply pe hm
 exact Runs.cu R R.cP fun E Q k=>wpAny_Constant_int (k _ (s.toks+1) ⟨rfl,.int i _⟩)
theorem jS:SE g fr Lo (.Constant (.str x) k pos) (pU (.str x)):=by
 intro A S s hA R F v' H' hm
 apply pe hm
 exact Runs.cu R R.cP fun E Q k=>Constant_str (k _ (s.toks+1) ⟨rfl,.str x _⟩)
end
section
variable {fr:zw}{Lo:Lc}{e:Expr}{β:Type}{A:Around}{S:Rp}{s:Shared}{w:β}{H':Hp}{E:Value→Shared→Prop}
theorem SE.go(h:SE g fr Lo e m)(hA:rn fr.k A)(R:RS g S s)(F:Fits g fr Lo S)(hm:(m.d f) S.H=some (w,H'))(E:Value→Shared→Prop)
  (k:∀x bJ br a,RS g br bJ→Ext S br (X0 g)→bu g br a x→f a br.H=some (w,H')→Q x bJ):wpAny (Mo g) A (eval e fr.env) Q E s:=
 bs hm fun a aG h1 hm=>h9 (h A S s hA R F a aG h1 E) fun x bJ br aD bA e1 hx=>k x bJ br a aD bA hx (e1▸hm)
theorem SE.Rt(h:SE g fr Lo e m)(hA:rn fr.k A)(R:RS g S s)(F:Fits g fr Lo S)(hm:(m.d f) S.H=some (w,H'))
  (k:∀x bJ br a,RS g br bJ→Ext S br (X0 g)→bu g br a x→f a br.H=some (w,H')→Runs g (X0 g) A (t x) br bJ P):Runs g (X0 g) A (eval e fr.env>>=t) S s P:=
 bs hm fun a aG h1 hm=>Runs.bind (h A S s hA R F a aG h1) fun br bJ x aD bA z=>k x bJ br a aD bA z.2 (z.1▸hm)
theorem SB.go(h:SB g fr Lo e m)(hA:rn fr.k A)(R:RS g S s)(F:Fits g fr Lo S)(hm:(m.d f) S.H=some (w,H'))(E:Value→Shared→Prop)
  (k:∀x bJ br,RS g br bJ→Ext S br (X0 g)→f x br.H=some (w,H')→Q x bJ):wpAny (Mo g) A (isTrue e fr.env (eval e fr.env)) Q E s:=
 bs hm fun a aG h1 hm=>h9 (h A S s hA R F a aG h1 E) fun x bJ br aD bA e1 hx=>k x bJ br aD bA (by(refine e1.symm▸?_;refine hx.symm▸?_);exact hm)
theorem SB.Rt(h:SB g fr Lo e m)(hA:rn fr.k A)(R:RS g S s)(F:Fits g fr Lo S)(hm:(m.d f) S.H=some (w,H'))
  (k:∀x bJ br,RS g br bJ→Ext S br (X0 g)→f x br.H=some (w,H')→Runs g (X0 g) A (t x) br bJ P):Runs g (X0 g) A (isTrue e fr.env (eval e fr.env)>>=t) S s P:=
 bs hm fun a aG h1 hm=>Runs.bind (h A S s hA R F a aG h1) fun br bJ x aD bA z=>k x bJ br aD bA (by(refine z.1.symm▸?_;refine z.2.symm▸?_);exact hm)
end
end
section
open PySem.Builtin PySem.Builtin.ObjectAttr
variable {g:Gl}
noncomputable def il(fs:List (Fd×V))(f:Fd):Option V:=(fs.find? fun p=>decide (p.1=f)).map (·.2)
noncomputable def jB(fs:List (Fd×V))(f:Fd)(v:V):List (Fd×V):=if fs.any (fun p=>decide (p.1=f)) then fs.map (fun p=>if p.1=f then(p.1,v) else p) else fs++ [(f,v)]
theorem gn.get(h:gn g S fs fe)(e:il fs f=some v):∃r,valueAt fe f.s=some r∧bu g S v r:=by
 induction h with
 |nil=>simp [il] at e
 | @cons f' v' r fs fe a _ ih=>
  unfold il at e ih
  rw [iK] at e
  by_cases hf:f'=f
  ·subst hf
   simp only [decide_true] at e
   apply so e
   exact dG r (by simp [valueAt]) a
  ·haveI hs:¬f'.s=f.s:=fun q=>hf (Fd.inj q)
   simp only [hf,decide_false] at e
   refine aS (ih e) fun r' p q=>?_
   exact dG r' (by simpa [valueAt,iK,hs] using p) q
theorem gn.any(h:gn g S fs fe)(f:Fd):(fe.any fun kv=>decide (kv.1=f.s))=fs.any fun p=>decide (p.1=f):=by
 induction h with
 |nil=>rfl
 | @cons f' v' r fs fe a _ ih=>
  simp only [FW,ih]
  congr 1
  by_cases hf:f'=f
  ·apply sb hf;simp
  ·haveI hs:¬f'.s=f.s:=fun q=>hf (Fd.inj q)
   simp [hf,hs]
theorem gn.append(h:gn g S fs fe)(a:bu g S v r):gn g S (fs++ [(f,v)]) (fe++ [(f.s,r)]):=by
 induction h with
 |nil=>exact .cons a .nil
 |cons b _ ih=>exact .cons b ih
theorem gn.put(h:gn g S fs fe)(a:bu g S v r):
  gn g S (fs.map fun p=>if p.1=f then(p.1,v) else p) (fe.map fun kv=>if kv.1=f.s then(kv.1,r) else kv):=by
 induction h with
 |nil=>exact .nil
 | @cons f' v' r' fs fe b _ ih=>
  by_cases hf:f'=f
  ·apply iH hf;simp only [bw,if_true];exact .cons a ih
  ·haveI hs:¬f'.s=f.s:=fun q=>hf (Fd.inj q)
   simp only [bw,if_neg hf,if_neg hs];exact .cons b ih
theorem gn.set(h:gn g S fs fe)(a:bu g S v r):gn g S (jB fs f v) (stored fe f.s r):=by
 unfold jB stored
 rw [h.any f]
 split
 ·exact h.put a
 ·exact h.append a
theorem gn.length(h:gn g S fs fe):fe.length=fs.length:=by
 induction h with
 |nil=>rfl
 |cons _ _ ih=>simp [ih]
theorem D4{h:Heap}(D:h.DictOf (PySem.strKind prog w) a fe){name:Str}{v:Value}(e:valueAt fe name=some v):
  ∃o,h.get? a=some o∧lookIn name o=some (some v):=by
 refine CJ (D) fun o es ep ho _ hd _ hp _=>?_
 refine dG o ho ?_
 unfold lookIn
 refine hd.symm▸?_
 dsimp only
 haveI h1:=hp.find name
 replace h1:=(e)▸h1
 haveI q:(fun d:DictEntry=>Value.isStrOf name d.key)=fun d=>d.key.isStr name:=funext fun d=>(isStr_of name d.key).symm
 haveI h2:(es.toList.find? fun d=>d.key.isStr name).map (·.val)=some v:=by refine(q)▸?_;exact h1
 refine aS (ba.mp h2) fun en e1 e2=>?_
 refine e1.symm▸?_
 dsimp only
 (refine e2.symm▸?_;with_reducible rfl)
theorem G3(D:s.heap.DictOf (PySem.strKind prog w) a fe)
  (hQ:∀h',h'.DictOf (PySem.strKind prog w) a (stored fe name v)→bU a s.heap h'→Q () {s with heap:=h',toks:=s.toks+1}):wpAny (model prog w) A (nsSet a name v) Q E s:=by
 refine CJ (D) fun o es ep ho hc hd hk hp hn=>?_
 unfold nsSet strHash
 refine wpAny_bind (wpAny_bind (wpAny_askSetting (wpAny_pure (wpAny_bind (wpAny_mkText (wpAny_bind (wpAny_loadPart ho ?_)))))))
 have KR:es.any (·.refKey)=false:=by
  rw [Array.any_eq_false']
  intro e he
  refine aS (hk e he) fun k U4 _=>?_
  refine dh (Value.isStrOf_shape U4) fun t We=>?_
  simp [DictEntry.refKey,We]
 simp only [hd,aRefKeyMayBeTheName_at,KR,Bool.and_false]
 haveI q:(fun d:DictEntry=>Value.isStrOf name d.key)=fun d=>d.key.isStr name:=funext fun d=>(isStr_of name d.key).symm
 have Rz:(es.findIdx? fun e=>e.key.isStr name)=fe.findIdx? fun kv=>decide (kv.1=name):=by
  refine(hp.findIdx name)▸?_;obtain⟨l⟩:=es;simp only [HZ];exact congrArg (fun f=>QP f l) q.symm
 obtain⟨c,d,dt,sl⟩:=o
 refine fC (hc) fun Rv Rw Rx=>?_
 dsimp only at Rv Rw Rx hd
 subst Rv Rw Rx hd
 refine wpAny_updatePart ho ?_
 refine hQ _ ?_ (bU.update ..)
 induction hi:es.findIdx? fun e=>e.key.isStr name with
 |some i=>
  refine MH _ _ _ (jL _ ho (by simp only [Obj.putName_eq,Obj.putNameByArray,hi];rfl)) ?_ (by simp only [Obj.putName_eq,Obj.putNameByArray,hi];rfl) (KeysOf.modify hk _ _) ?_ ?_
  ·simp only [Obj.putName_eq,Obj.putNameByArray,hi];exact fM rfl rfl rfl
  ·rw [stored,if_pos (any_of_findIdx_some (Rz▸hi))]
   haveI hl:(es.toList.findIdx? fun e=>(PySem.strKind prog w).is name e.key)=some i:=by
    refine(hi)▸?_;obtain⟨l⟩:=es;simp only [HZ];exact congrArg (fun f=>QP f l) q
   have:=hp.modify hn hl v
   obtain⟨l⟩:=es
   simpa using this
  ·rw [stored,if_pos (any_of_findIdx_some (Rz▸hi)),keys_map_store];exact hn
 |none=>
  haveI T2:name∉fe.map (·.1):=not_mem_of_findIdx_none (Rz▸hi)
  haveI KR:¬(fe.any fun kv=>decide (kv.1=name))=true:=by
   rw [Oc];rintro ⟨kv,Z3,he⟩
   exact T2 (aP.mpr (dG kv Z3 (of_decide_eq_true he)))
  haveI mf:(PySem.strKind prog w).is name (.str name s.toks)=true:=by simp [PySem.strKind,Value.isStrOf]
  refine MH _ _ _ (jL _ ho (by simp only [Obj.putName_eq,Obj.putNameByArray,hi];rfl)) ?_ (by simp only [Obj.putName_eq,Obj.putNameByArray,hi];rfl) (KeysOf.push hk mf _) ?_ ?_
  ·simp only [Obj.putName_eq,Obj.putNameByArray,hi];exact fM rfl rfl rfl
  ·rw [stored,if_neg KR]
   have:=hp.append mf ((PySem.strKind prog w).hash name) v
   obtain⟨l⟩:=es
   simpa using this
  ·rw [stored,if_neg KR,dK,fq]
   refine fM hn (by simp) ?_
   intro a ha b hb
   simp only [bw,List.map_nil,aA] at hb
   apply iH hb
   exact fun e=>T2 (e▸ha)
def aE(v:V)(f:Fd):M V:=fun H=>match v with
 | .ref x=>(match H.get x with
  |some (.inst _ fs)=>(match il fs f with
   |some u=>some (u,H)
   |none=>none)
  |_=>none)
 |_=>none
theorem handed(h:bu g S v r):handedIn r=true:=by cases h<;>rfl
structure LN(K:Frag)(c:Addr):Prop where
 cd:∃cd,clsIn K c=some cd∧cd.hasDict=true
 over:plainOver K c=true
 ga:findIn K (.ref c) "__getattribute__"=some (some (.builtin "object.__getattribute__"))
 sa:findIn K (.ref c) "__setattr__"=some (some (.builtin "object.__setattr__"))
 gh:findIn K (.ref c) "__getattr__"=some none
 no:∀f:Fd,findIn K (.ref c) f.s=some none
theorem Fn{K:Frag}(h:xu K c=true):LN K c:=by
 simp only [xu,cV,beq_iff_eq] at h
 (first|refine cQ (h) fun RZ h6=>?_|refine dh (h) fun RZ h6=>?_);(first|refine cQ (RZ) fun R6 h5=>?_|refine dh (RZ) fun R6 h5=>?_);(first|refine cQ (R6) fun R7 h4=>?_|refine dh (R6) fun R7 h4=>?_);(first|refine cQ (R7) fun R8 h3=>?_|refine dh (R7) fun R8 h3=>?_);(first|refine cQ (R8) fun h1 h2=>?_|refine dh (R8) fun h1 h2=>?_)
 refine aS (any_some h1) fun cd e e'=>?_
 exact⟨⟨cd,e,e'⟩,h2,h3,h4,h5,fun f=>by simpa using du.mp h6 f (uE f)⟩
theorem AY(G:gj g)(R:RS g S s)(hv:bu g S v r)(hm:aE v f S.H=some (u,H'))(b:Bool):
  Runs g (X0 g) A (getAttr r f.s b) S s fun S' y=>S'.H=H'∧bu g S' u y:=by
 unfold aE at hm
 revert hm
 refine DE fun x cj=>oI fun c fs hx=>oM fun u' hu hm=>?_
 subst cj
 apply pe hm
 apply iR hv
 intro hd
 refine ou (R.rep.obj x _ hx) fun ho cj qH hp=>?_
 refine aS (cj) fun fe D FR=>?_
 refine aS (FR.get hu) fun y hy hr=>?_
 refine aS (D4 D hy) fun od JW hl=>?_
 haveI P:=Fn hp
 refine aS (P.cd) fun cd KU zE=>?_
 refine Runs.cu R R.cP fun E Q k=>?_
 refine get_value (K:=g.K) (ox:=instObj c (S.δ x)) (od:=some od) (C:=c) (R.heap▸R.In G:g.K.In s.heap) ⟨by refine R.heap.symm▸?_;exact ho,rfl,rfl,by refine R.heap.symm▸?_;exact JW⟩ P.ga ?_ (handed hr) (k y _ ⟨rfl,hr⟩)
 unfold findObj
 (refine KU.symm▸?_;refine(ah (P.no f))▸?_)
 refine(?_:(W.ownOf cd (some od) f.s).bind _=_)
 rw [show W.ownOf cd (some od) f.s=some (some y) by simp only [W.ownOf,zE,if_true,hl]]
 rfl
section
variable {fr:zw}{Lo:Lc}
theorem aL(G:gj g)(f:Fd)(h:SE g fr Lo e m)(hf:f.s=name:=by rfl)(hb:attributeBase e name fr.env (eval e fr.env)=eval e fr.env:=by rfl):
  SE g fr Lo (.Attribute e name pos) (m.d fun v=>aE v f):=by
 intro A S s hA R F v' H' hm
 rw [arm_eval_Attribute,hb]
 refine h.Rt hA R F hm fun r bJ br v aD bA hr h2=>?_
 refine Runs.standAt ?_
 apply sb hf
 refine Runs.bind (Runs.holding (AY G aD hr h2 true)) fun eh gQ y bf cK z2=>cQ z2 fun e2 hy=>?_
 exact fun E=>wpAny_bind (wpAny_letTemporaryGo (wpAny_pure (iq eh bf (Ext.refl _ bf.cP) e2 hy)))
end
def bb(v:V)(f:Fd)(u:V):M Unit:=fun H=>match v with
 | .ref x=>(match H.get x with
  |some (.inst c fs)=>if fs.length≤500 then some ((),H.set x (.inst c (jB fs f u))) else none
  |_=>none)
 |_=>none
theorem BW(G:gj g)(R:RS g S s)(hv:bu g S v r)(hu:bu g S u y)(hm:bb v f u S.H=some ((),H')):
  Runs g (X0 g) A (setAttr r f.s y) S s fun S' _=>S'.H=H':=by
 unfold bb at hm
 revert hm
 refine DE fun x cj=>oI fun c fs hx=>EX fun hlen hm=>?_
 subst cj
 cases hm
 apply iR hv
 intro hd
 refine ou (R.rep.obj x _ hx) fun ho cj qH hp=>?_
 refine aS (cj) fun fe D FR=>?_
 haveI P:=Fn hp
 refine aS (P.cd) fun cd KU zE=>?_
 refine CI (id D) fun od _ _ JW _=>?_
 intro E
 have I:InstAt s.heap (S.ρ x) (instObj c (S.δ x)) c (some od):=⟨by refine R.heap.symm▸?_;exact ho,rfl,rfl,by refine R.heap.symm▸?_;exact JW⟩
 haveI X:g.K.In s.heap:=R.heap▸R.In G
 refine set_plain X I P.sa ?_
 haveI LC:=looks_clsIn (M:=Mo g) X KU
 haveI ht:takerIn g.K c f.s=some none:=by unfold takerIn;refine(ah (P.no f))▸?_;rfl
 refine osa_open (K:=g.K) (s:={s with toks:=s.toks+1}) X I P.over ht fun b=>?_
 refine wpAny_bind (wpAny_pure (wpAny_bind (wpAny_bind (wpAny_loadPart (s:={s with toks:=s.toks+1}) I.at_ (wpAny_bind (LC _ _ _ _ (fun _ _ e=>e) ?_))))))
 refine zE.symm▸?_
 refine wpAny_pure (a:=some (S.δ x)) (wpAny_bind (wpAny_pure (wpAny_bind ?_)))
 refine G3 (s:={s with toks:=s.toks+1}) (by rw [show({s with toks:=s.toks+1}:Shared).heap=S.h from R.heap];exact D) fun h' D' hs=>?_
 refine CJ (id D') fun o2 Ts ep2 ho2 _ hd2 _ Ws _=>?_
 haveI hl2:Ts.size≤501:=by
  haveI a1:=Ws.length
  haveI a2:(stored fe f.s y).length≤fe.length+1:=by unfold stored;split<;>simp
  haveI a3:=FR.length
  haveI a4:Ts.toList.length=Ts.size:=by simp
  lia
 refine wpAny_bind (wpAny_lookBehind (o:=o2) ho2 (by rw [hd2];exact pastItsLine_dict (by rw [sizeLine_eq];exact ai ‹_› (by decide))) ?_)
 have rk:bU (S.δ x) S.h h':=by rw [←R.heap];exact hs
 obtain⟨R',E'⟩:=R.change (x:=x) (o':= .inst c (jB fs f u)) (h':=h') hd (fun b _ h2 o e=>(rk.2 b h2).trans e) rk.1 (fun E'=>(qI ((rk.2 _ qH).trans ho) ⟨_,D',gn.set (gn.ext E' FR) (hu.ext E')⟩ qH hp)) (s.toks+1+1)
 exact wpAny_pure ⟨_,R',E',rfl⟩
end
section
open PySem.Builtin PySem.Builtin.ObjectAttr
variable {g:Gl}{fr:zw}{Lo:Lc}
theorem Fits.calm(F:Fits g fr Lo S)(R:RS g S s):∀a o,Xf g fr a→S.h.get? a=some o→¬Calm o:=by
 rintro a o (h|rfl|⟨i,n,h0,h1,h2⟩) e
 ·exact R.cP a o h e
 ·refine aS (F.ns) fun mm cj _=>?_
  refine Gw (cj) fun o' es ep e' hd _=>?_
  rw [e'] at e;apply so e
  rintro (⟨xs,n,h⟩|⟨f,h⟩|⟨vs,x,t,h,_⟩)<;>rw [h] at hd<;>exact aj (by cases hd)
 ·refine fC (F.cellAt h0 (.inl rfl) h2 h1) fun _ cj _=>?_
  refine eY (cj) fun v o' e' hd=>?_
  replace e:=(e')▸e;apply so e
  rintro (⟨xs,n,h⟩|⟨f,h⟩|⟨vs,x,t,h,_⟩)<;>rw [h] at hd<;>exact aj (by cases hd)
theorem Runs.toF(h:Runs g (X0 g) A t S s P)(F:Fits g fr Lo S)(R:RS g S s):Runs g (Xf g fr) A t S s P:=
 h.widen (fun _=> .inl) (F.calm R)
def Sub:Lc→Lc→Prop
 | [],_=>True
 |(n,v)::r,Lo=>Lo.lookup n=some v∧Sub r Lo
theorem Sub.look(h:Sub L' Lo)(e:L'.lookup n=some v):Lo.lookup n=some v:=by
 induction L' with
 |nil=>exact nn e
 |cons p r ih=>
  obtain⟨m,u⟩:=p
  rw [b7] at e
  induction hb:n==m with
  |true=>rw [hb] at e;apply so e;refine(ah (beq_iff_eq.mp hb))▸?_;exact h.1
  |false=>rw [hb] at e;exact ih h.2 e
theorem Fits.weak(F:Fits g fr Lo S)(h:Sub L' Lo):Fits g fr L' S:=by
 refine⟨F.kind,F.glob,F.blt,F.nm,?_,fun n v e=>F.Ie n v (h.look e),F.QE,F.J8,F.Oh,F.inj⟩
 refine aS (F.ns) fun mm a b=>?_
 exact dG mm a (fun i v n e k=>b i v n (h.look e) k)
theorem jW(R:RS g S s)(F:Fits g fr Lo S)(hn:fr.env.scope.names[i]? =some (x,.local))(hv:bu g S v r):
  Runs g (fun a=>X0 g a∨a=fr.env.locals) A (storeName fr.env x r) S s fun S' _=>S'.H=S.H∧Fits g fr ((i,v)::Lo) S':=fun E=>by
 refine aS (F.ns) fun mm A0 O6=>?_
 refine wpAny_storeName_local (gk F.nm.once hn) (R.heap▸A0) (fun h' Lx hs=>?_) (by refine F.kind.symm▸?_;rfl)
 haveI rk:bU fr.env.locals S.h h':=R.heap▸hs
 haveI hX:=F.calm R
 obtain⟨R',E'⟩:=R.quiet (X:=fun a=>a=fr.env.locals) (h':=h') (fun b o e=>by subst e;exact hX _ o (.inr (.inl rfl))) (fun a e=>by apply iH e;exact F.J8.1) (fun a e=>by apply iH e;exact F.J8.2)
  (fun a e x0=>by subst e;exact absurd (R.vC x0) (cg.mpr F.J8.2)) (fun b o e hb=>(rk.2 b hb).trans e) (fZ rk.1.symm) (s.toks+1)
 refine⟨_,R',E'.widen (fun a e=> .inr e) (fun a o h=>hX a o (h.imp_right .inl)),rfl,F.kind,F.glob,F.blt,F.nm,⟨_,Lx,fun j u n e k=>?_⟩,fun j u e=>?_,F.QE,F.J8,fun j n k e hk=>?_,F.inj⟩
 ·rw [b7] at e
  by_cases hM:j=i
  ·subst hM;replace k:=(hn)▸k;cases k;simp only [beq_self_eq_true] at e;cases e;exact dG r (if_pos rfl) (hv.ext E')
  ·haveI hb:(j==i)=false:=by simpa using hM
   replace e:=(hb)▸e
   refine aS (O6 j u n e k) fun r' p q=>?_
   exact dG r' ((if_neg fun e=>hM (EW F.nm.once k (e▸hn))).trans p) (q.ext E')
 ·by_cases hM:j=i
  ·apply iH hM;exact ie x _ hn (.inl rfl)
  ·haveI hb:(j==i)=false:=by simpa using hM
   rw [b7,hb] at e
   refine eY (F.Ie j u e) fun n k a b=>?_
   exact ie n k a (b.imp_right fun⟨b1,b2,c,r',d,h2,q⟩=>⟨b1,b2,c,r',d,h2.sameBut rk (F.cellAt a b1 b2 d).1,q.ext E'⟩)
 ·refine j9 (F.Oh j n k e hk) fun c a b d=>?_
  exact jc c a b (fun hs=>let⟨⟨v',h2⟩,p,q⟩:=d hs;(fM ⟨v',h2.sameBut rk b⟩ p q))
theorem BY(R:RS g S s)(F:Fits g fr Lo S)(hn:fr.env.scope.names[i]? =some (x,.cell))(Oo:fr.sh.lookup i=none)(hv:bu g S v r):
  Runs g (Xf g fr) A (storeName fr.env x r) S s fun S' _=>S'.H=S.H∧Fits g fr ((i,v)::Lo) S':=fun E=>by
 refine aS (F.ns) fun mm A0 O6=>?_
 refine j9 (F.Oh i x _ hn (.inl rfl)) fun c hc nL d=>?_
 refine fC (d Oo) fun cj Ad Qm=>?_
 obtain⟨B9,n0⟩:=cj
 refine wpAny_storeName_cell F.kind (gk F.nm.once hn) hc (R.heap▸n0) (fun h' Lx hs=>?_)
 haveI rk:bU c S.h h':=R.heap▸hs
 haveI hX:=F.calm R
 obtain⟨R',E'⟩:=R.quiet (X:=fun a=>a=c) (h':=h') (fun b o e=>by apply iH e;exact hX _ o (.inr (.inr (zF i x hn hc Oo)))) (fun a e=>by apply iH e;exact Ad) (fun a e=>by apply iH e;exact Qm)
  (fun a e x0=>by subst e;exact absurd (R.vC x0) (cg.mpr Qm)) (fun b o e hb=>(rk.2 b hb).trans e) (fZ rk.1.symm) s.toks
 refine⟨_,R',E'.widen (fun a e=> .inr (.inr ⟨i,x,hn,by refine e.symm▸?_;exact hc,Oo⟩)) hX,rfl,F.kind,F.glob,F.blt,F.nm,⟨_,A0.sameBut rk nL.symm,fun j u n e k=>?_⟩,fun j u e=>?_,F.QE,F.J8,fun j n k e hk=>?_,F.inj⟩
 ·rw [b7] at e
  by_cases hM:j=i
  ·subst hM;replace k:=(hn)▸k;exact aj (by cases k)
  ·haveI hb:(j==i)=false:=by simpa using hM
   replace e:=(hb)▸e
   refine aS (O6 j u n e k) fun r' p q=>?_
   exact dG r' p (q.ext E')
 ·by_cases hM:j=i
  ·subst hM
   rw [b7] at e
   simp only [beq_self_eq_true] at e
   apply so e
   exact ie x _ hn (.inr ⟨.inl rfl,Oo,c,r,hc,Lx,hv.ext E'⟩)
  ·haveI hb:(j==i)=false:=by simpa using hM
   rw [b7,hb] at e
   refine eY (F.Ie j u e) fun n k a b=>?_
   refine ie n k a (b.imp_right fun⟨b1,b2,c',r',d,h2,q⟩=>⟨b1,b2,c',r',d,h2.sameBut rk (fun e=>hM ?_),q.ext E'⟩)
   have:n=x:=F.inj n x c' d (by refine e.symm▸?_;exact hc)
   subst this
   exact EW F.nm.once a hn
 ·refine j9 (F.Oh j n k e hk) fun c' a b d=>?_
  refine jc c' a b (fun hs=>?_)
  refine fC (d hs) fun cj p q=>?_
  obtain⟨v',h2⟩:=cj
  by_cases U0:c'=c
  ·subst U0;exact fM ⟨_,Lx⟩ p q
  ·exact fM ⟨v',h2.sameBut rk U0⟩ p q
def M.cy(m:M Fl)(k:List V→M Fl):M Fl:=m.d fun r=>match r with
 | .ret v=>pU (.ret v)
 | .next vs=>k vs
theorem M.Hk{m:M Fl}(h:m.cy k H=some (r,H')):
  (∃v,m H=some (.ret v,H')∧r= .ret v)∨∃vs aG,m H=some (.next vs,aG)∧k vs aG=some (r,H'):=by
 refine bs h fun x aG a b=>?_
 induction x with
 |ret v=>apply pe b;exact .inl (dG v a rfl)
 |next vs=>exact .inr (ie vs aG a b)
theorem aV(vs:List V)(h:Sub (fin vs) Lo):SS g fr Lo [] fin (pU (.next vs)):=by
 intro A S s hA R F v H' hm
 apply pe hm
 exact Runs.pure R (F.calm R) ⟨rfl,F.weak h⟩
theorem cC{st:List Stmt}:SS g fr Lo st fin fL:=fun A S s hA R F v H' hm=>by exact nn hm
theorem Rk:SE g fr Lo e fL:=fun A S s hA R F v H' hm=>by exact nn hm
theorem oR:SB g fr Lo e fL:=fun A S s hA R F v H' hm=>by exact nn hm
theorem Runs.cons{st:Stmt}{X:Addr→Prop}{env:Env}{P:Rp→Flow→Prop}(h:Runs g X A (exec st env) S s fun S' f=>match f with
  | .next=>∀s',RS g S' s'→Ext S S' X→Runs g X A (execs rest env) S' s' P
  |f=>P S' f):Runs g X A (execs (st::rest) env) S s P:=fun E=>
 wpAny_execs_cons (FG (h E) (fun f s' S' R' E' p=>by
  induction f with
  |next=>exact FG (p s' R' E' E) (fun _ _ LS Ko SY q=>(jc LS Ko (E'.trans SY) q))
  |brk=>exact jc S' R' E' p
  |cont=>exact jc S' R' E' p
  |ret v=>exact jc S' R' E' p))
def SX(g:Gl)(fr:zw)(Lo:Lc)(st:Stmt)(m:M Unit):Prop:=
 ∀A S s,rn fr.k A→RS g S s→Fits g fr Lo S→∀H',m S.H=some ((),H')→Runs g (X0 g) A (exec st fr.env) S s fun S' r=>S'.H=H'∧r= .next
theorem ay{st:Stmt}(h:SX g fr Lo st m)(hk:SS g fr Lo rest fin k):SS g fr Lo (st::rest) fin (m.d fun _=>k):=by
 intro A S s hA R F v H' hm
 refine bs hm fun _ aG a b=>?_
 refine Runs.cons (((h A S s hA R F aG a).mono fun br f bA Xw=>cQ Xw fun e1 e2=>?_).toF F R)
 subst e1 e2
 exact fun s' R' _=>hk A br s' hA R' (F.ext R bA) v H' b
theorem cx(i:Nat)(hn:fr.env.scope.names[i]? =some (x,.local))(h:SE g fr Lo value m)(hk:∀v,SS g fr ((i,v)::Lo) rest fin (k v))
  (hs:swapsWith value (some (.Name x px)) pos.line fr.env=pure false:=by rfl):SS g fr Lo (.Assign [.Name x px] value pos::rest) fin (m.d k):=by
 intro A S s hA R F v H' hm
 refine Runs.cons fun E=>wpAny_Assign_Name (h.go hA R F hm E fun r bJ br u aD bA hr b=>?_) hs
 haveI W:=bA.widen (Y:=Xf g fr) (fun _=> .inl) (F.calm R)
 exact h9 (jW aD (F.ext R bA) hn hr E) (fun _ gQ eh bf cK e2 j3=>(jc eh bf (W.trans (cK.widen (fun _ h=>h.imp_right .inl) ((F.ext R bA).calm aD))) (fun s' R' _=>hk u A eh s' hA R' j3 v H' (e2▸b))))
theorem kn(i:Nat)(hn:fr.env.scope.names[i]? =some (x,.cell))(h:SE g fr Lo value m)(hk:∀v,SS g fr ((i,v)::Lo) rest fin (k v))(Oo:fr.sh.lookup i=none:=by rfl)
  (hs:swapsWith value (some (.Name x px)) pos.line fr.env=pure false:=by rfl):SS g fr Lo (.Assign [.Name x px] value pos::rest) fin (m.d k):=by
 intro A S s hA R F v H' hm
 refine Runs.cons fun E=>wpAny_Assign_Name (h.go hA R F hm E fun r bJ br u aD bA hr b=>?_) hs
 haveI W:=bA.widen (Y:=Xf g fr) (fun _=> .inl) (F.calm R)
 exact h9 (BY aD (F.ext R bA) hn Oo hr E) (fun _ gQ eh bf cK e2 j3=>(jc eh bf (W.trans cK) (fun s' R' _=>hk u A eh s' hA R' j3 v H' (e2▸b))))
theorem aN(G:gj g)(f:Fd)(hv:SE g fr Lo value mv)(ho:SE g fr Lo o mo)(hf:f.s=name:=by rfl)
  (hs:swapsWith value (some (.Attribute o name tp)) pos.line fr.env=pure false:=by rfl):SX g fr Lo (.Assign [.Attribute o name tp] value pos) (mv.d fun u=>mo.d fun v=>bb v f u):=by
 intro A S s hA R F H' hm
 apply sb hf
 intro E
 refine plainObj_wpAny_Assign_Attribute (hv.go hA R F hm E fun y bJ br u aD bA hy hm=>?_) hs
 refine ho.go hA aD (F.ext R bA) hm E fun r gQ eh v bf cK hr c=>?_
 exact FG (BW G bf hr (hy.ext cK) c E) (fun _ iT fw dp gm e3=>(iq fw dp ((bA.trans cK).trans gm) e3 rfl))
theorem cG(h:SE g fr Lo e m)(hi:interactive fr.env=false:=by rfl)(hs:swapsWith e none pos.line fr.env=pure false:=by rfl):SX g fr Lo (.Expr e pos) (m.d fun _=>pU ()):=by
 intro A S s hA R F H' hm
 refine bs hm fun u aG a b=>?_
 cases b
 intro E
 refine(ah (exec_Expr fr.env e pos hi hs))▸?_
 refine wpAny_bind (wpAny_standAt (wpAny_bind (h9 (h A S s hA R F u _ a E) (fun r bJ br aD bA e1 _=>?_))))
 exact wpAny_dropValue ⟨br,aD,bA,e1,rfl⟩
theorem dY(h:SE g fr Lo e m):SS g fr Lo (.Return (some e) pos::rest) fin (m.d fun v=>pU (.ret v)):=by
 intro A S s hA R F v H' hm
 refine bs hm fun u aG a b=>?_
 apply pe b
 refine Runs.cons fun E=>wpAny_Return_some (h9 ((h A S s hA R F u _ a).toF F R E) (fun r bJ br aD bA e1 hr=>(iq br aD bA e1 hr)))
theorem Fw:SS g fr Lo (.Return none pos::rest) fin (pU (.ret .none)):=by
 intro A S s hA R F v H' hm
 apply pe hm
 exact Runs.cons fun E=>wpAny_Return_none (iq S R (Ext.refl S (F.calm R)) rfl bu.none)
theorem fy(vK:List V→Lc){mt:M Bool}{mb mo:M Fl}{k:List V→M Fl}(ht:SB g fr Lo t mt)
  (hb:SS g fr Lo b vK mb) (ho:SS g fr Lo o vK mo) (hk:∀vs,SS g fr (vK vs) rest fin (k vs)):SS g fr Lo (.If t b o pos::rest) fin (mt.d fun c=>(bif c then mb else mo).cy k):=by
 intro A S s hA R F v H' hm
 refine Runs.cons fun E=>wpAny_If (ht.go hA R F hm E fun c' bJ br aD bA hm=>?_)
 have nP:=F.ext R bA
 have W:=bA.widen (Y:=Xf g fr) (fun _=> .inl) (F.calm R)
 haveI Mt:∀{m:M Fl} {st:List Stmt},SS g fr Lo st vK m→m.cy k br.H=some (v,H')→wpAny (Mo g) A (execs st fr.env) (fun f s'=>∃S',RS g S' s'∧Ext S S' (Xf g fr)∧match f with
   | .next=>∀Fu,RS g S' Fu→Ext S S' (Xf g fr)→Runs g (Xf g fr) A (execs rest fr.env) S' Fu fun S' r=>S'.H=H'∧qD g fr fin S' v r
   |f=>S'.H=H'∧qD g fr fin S' v f) E bJ:=fun {m st} Ce GH=>by
  rcases M.Hk GH with⟨u,p,rfl⟩|⟨vs,bh,p,q⟩
  ·exact h9 (Ce A br bJ hA aD nP _ _ p E) (fun f s' S' R' E' e z=>⟨S',R',W.trans E',by induction f<;>first|exact z.elim|exact⟨e,z⟩⟩)
  ·refine h9 (Ce A br bJ hA aD nP _ _ p E) (fun f s' S' R' E' e z=>⟨S',R',W.trans E',?_⟩)
   induction f<;>first|exact z.elim|skip
   subst e
   exact fun Fu Ko _=>hk vs A S' Fu hA Ko z v H' q
 induction c' with
 |true=>exact Mt hb hm
 |false=>exact Mt ho hm
mutual
noncomputable def RY:V→Option PyData
 | .none=>some .none
 | .bool b=>some (.bool b)
 | .int i=>some (.int i)
 | .str x=>some (.str x)
 | .tup vs=>(qw vs).map .tuple
 | .lst vs=>(qw vs).map .list
 |_=>none
noncomputable def qw:List V→Option (List PyData)
 | []=>some []
 |v::vs=>match RY v,qw vs with
  |some d,some ds=>some (d::ds)
  |_,_=>none
end
theorem BS:(∀v r,bu g S v r→∀d,RY v=some d→∃as,Reads S.h r d as)∧∀vs rs,dq g S vs rs→∀ds,qw vs=some ds→∃as,ReadsAll S.h rs ds as:=by
 have no:∀{r:Value} {d},none=some d→∃as,Reads S.h r d as:=fun h=>nn h
 haveI sq:∀{vs:List V} {xs:List Value} {c:List PyData→PyData} {r},(∀ds,qw vs=some ds→∃as,ReadsAll S.h xs ds as)→(∀ds as,ReadsAll S.h xs ds as→∃as,Reads S.h r (c ds) as)→∀d,(qw vs).map c=some d→∃as,Reads S.h r d as:=fun ih k d h=>
  aS (ba.mp h) fun ds h1 q=>dh (ih ds h1) fun as a=>q▸k ds as a
 have cn:∀{v:V} {r:Value} {vs:List V} {rs:List Value},bu g S v r→dq g S vs rs→(∀d,RY v=some d→∃as,Reads S.h r d as)→(∀ds,qw vs=some ds→∃as,ReadsAll S.h rs ds as)→∀ds,qw (v::vs)=some ds→∃as,ReadsAll S.h (r::rs) ds as:=fun {v r vs rs} _ _ a b ds h=>by
  simp only [qw] at h
  split at h
  ·rename_i d ds h1 h2
   apply so h
   exact dh (a _ h1) fun as p=>dh (b _ h2) fun bs q=>⟨_,ReadsAll.cons p q⟩
  ·exact nn h
 have nl:∀ds,qw []=some ds→∃as,ReadsAll S.h [] ds as:=fun ds h=>by apply so h;exact mK _ ReadsAll.nil
 have A:∀v r,bu g S v r→∀d,RY v=some d→∃as,Reads S.h r d as:=fun v r=> @bu.rec g S (fun v r _=>∀d,RY v=some d→∃as,Reads S.h r d as) (fun vs rs _=>∀ds,qw vs=some ds→∃as,ReadsAll S.h rs ds as)
  (fun d h=>by apply so h;exact mK _ Reads.none) (fun b d h=>by apply so h;exact mK _ (Reads.bool b)) (fun i t d h=>by apply so h;exact mK _ (Reads.int i t)) (fun x t d h=>by apply so h;exact mK _ (Reads.str x t))
  (fun e _ hc hd _ ih=>sq (c:= .tuple) ih fun _ _ q=>⟨_,Reads.tuple e hc hd q⟩) (fun e _ hc hd _ ih=>sq (c:= .list) ih fun _ _ q=>⟨_,Reads.list e hc hd q⟩) (fun _ _=>no) (fun _ _=>no) (fun _ _ _ _ _ _ _ _ _ _ _=>no) nl cn v r
 refine iN A (fun vs=>?_)
 induction vs with
 |nil=>intro rs h;apply qK h;exact nl
 |cons v vs ih=>intro rs h;apply jT h;exact fun r rs a b=>cn a b (A _ _ a) (ih _ b)
theorem NB(h:bu g S v r):RY v=some d→∃as,Reads S.h r d as:=BS.1 v r h d
theorem G6(h:dq g S vs rs):qw vs=some ds→∃as,ReadsAll S.h rs ds as:=BS.2 vs rs h ds
def BP(H:Hp)(v:V):Option PyData:=match v with
 | .ref x=>(match H.get x with
  |some (.list vs)=>(qw vs).map .list
  |some (.cI [])=>some (.dict [])
  |some (.aU [])=>some (.dict [])
  |_=>none)
 |v=>RY v
theorem reads_in(R:RS g S s)(hv:bu g S v r)(h:BP S.H v=some d):∃as,Reads S.h r d as:=by
 unfold BP at h
 induction v using V.casesOn with
 |ref x=>
  replace h:(match S.H.get x with
   |some (.list vs)=>(qw vs).map PyData.list
   |some (.cI [])=>some (.dict [])
   |some (.aU [])=>some (.dict [])
   |_=>none)=some d:=h
  generalize hx:S.H.get x=o at h
  induction o using j1 with
  |none=>exact nn h
  |some o=>induction o using ib.casesOn with
   |list vs=>
    refine aS (ba.mp h) fun ds h1 cj=>?_
    apply sb cj
    apply iR hv;intros
    refine aS (R.rep.obj x _ hx) fun items cj rs=>?_
    refine dh (cj) fun n e=>?_
    refine dh (G6 rs h1) fun as q=>?_
    exact mK _ (Reads.list e rfl rfl q)
   |cI es=>induction es using ky with
    |nil=>
     cases h
     cases hv
     refine aS (R.rep.obj _ _ hx) fun xs cj hT=>?_
     refine OT (cj) fun o es ep e hc hd he _=>?_
     cases hT
     haveI e0:es.toList= []:=he
     exact mK _ (Reads.dict (as:= []) (bs:= []) e hc.1 hd (by refine e0.symm▸?_;exact ReadsAll.nil) (by refine e0.symm▸?_;exact ReadsAll.nil))
    |cons=>exact nn h
   |aU es=>induction es using ky with
    |nil=>
     cases h
     cases hv
     refine aS (R.rep.obj _ _ hx) fun fe cj hF=>?_
     refine CJ (cj) fun o es ep e hc hd _ hp _=>?_
     cases hF
     haveI e0:es.toList= []:=je.mp (by refine hp.length.symm▸?_;rfl)
     exact mK _ (Reads.dict (as:= []) (bs:= []) e hc.1 hd (by refine e0.symm▸?_;exact ReadsAll.nil) (by refine e0.symm▸?_;exact ReadsAll.nil))
    |cons=>exact nn h
   |_=>exact nn h
 |_=>exact NB hv h
noncomputable def bV(v:V):M Bool:=fun H=>match v with
 | .none=>some (false,H)
 | .bool b=>some (b,H)
 | .int i=>some (i !=0,H)
 | .lst vs=>if vs.length≤4000000 then some (!vs.isEmpty,H) else none
 | .ref x=>(match H.get x with
  |some (.list vs)=>if vs.length≤4000000 then some (!vs.isEmpty,H) else none
  |_=>none)
 |_=>none
theorem dq.length(h:dq g S vs rs):rs.length=vs.length:=by
 induction vs generalizing rs with
 |nil=>apply qK h;intros;rfl
 |cons v vs ih=>cases h with|cons _ b=>simp [ih b]
theorem yK(R:RS g S s)(hv:bu g S v r)(hm:bV v S.H=some (b,H')):
  Runs g (X0 g) A (truthy r) S s fun S' c=>S'.H=H'∧c=b:=by
 have lst:∀{a:Addr} {o:Obj} {vs:List V} {xs:Array Value} {n:Nat},S.h.get? a=some o→o.cls= .type "list"→o.data= .seq xs n→dq g S vs xs.toList→vs.length≤4000000→
   Runs g (X0 g) A (truthy (.ref a)) S s fun S' c=>S'.H=S.H∧c= !vs.isEmpty:=fun {a o vs xs n} e hc hd rs hl=>by
  refine Runs.cu R R.cP fun E Q k=>?_
  have hz:xs.size=vs.length:=by have:=rs.length;simpa using this
  refine wpAny_truthy_list (items:=xs) ⟨o,by refine R.heap.symm▸?_;exact e,hc,_,hd⟩ (by omega) ?_
  have:xs.isEmpty=vs.isEmpty:=by
   induction vs with
   |nil=>simp at hz;simp [hz]
   |cons v vs=>simp at hz;rw [u7.mpr];rfl;exact⟨xs[0],by simp⟩
  exact k _ _ ⟨rfl,by(refine this.symm▸?_;with_reducible rfl)⟩
 unfold bV at hm
 cases hv with
 |none=>apply pe hm;exact Runs.cu R R.cP fun E Q k=>truthy_none (k _ s.toks ⟨rfl,rfl⟩)
 |bool c=>apply pe hm;exact Runs.cu R R.cP fun E Q k=>wpAny_truthy_bool (k _ s.toks ⟨rfl,rfl⟩)
 |int i t=>apply pe hm;exact Runs.cu R R.cP fun E Q k=>PyProof.Rows.truthy_int (k _ s.toks ⟨rfl,rfl⟩)
 |str=>exact nn hm
 |tup=>exact nn hm
 |lst e hf hc hd rs=>
  revert hm;refine EX fun hl hm=>?_
  apply pe hm;exact lst e hc hd rs hl
 |ref hd=>
  revert hm
  refine oL fun vs hx=>EX fun hl hm=>?_
  apply pe hm
  refine aS (R.rep.obj _ _ hx) fun items cj rs=>?_
  refine dh (cj) fun n e=>?_
  exact lst e rfl rfl rs hl
 |fn=>exact nn hm
 |iC=>exact nn hm
theorem cR(h:SE g fr Lo e m)(he:isTrue e fr.env (eval e fr.env)=(do let v←eval e fr.env;standAt e.pos;holding [v] (truthy v)):=by rfl):SB g fr Lo e (m.d bV):=by
 intro A S s hA R F v H' hm
 refine he.symm▸?_
 refine h.Rt hA R F hm fun r bJ br u aD bA hr b=>?_
 exact Runs.standAt (Runs.holding (yK aD hr b))
noncomputable def small(d:PyData):Bool:=d.canLay0&&decide (d.depth≤100)
noncomputable def lenOf(H:Hp)(v:V):Option Nat:=match v with
 | .ref x=>(match H.get x with
  |some (.list vs)=>some vs.length
  |_=>none)
 | .lst vs=>some vs.length
 |_=>none
theorem Nh(R:RS g S s)(hv:bu g S v r)(h:lenOf S.H v=some n):∃l Vf,r= .ref l∧S.h.IsList l Vf∧Vf.size=n:=by
 unfold lenOf at h
 induction v using V.casesOn with
 |ref x=>
  revert h;refine oL fun vs hx h=>?_
  apply so h
  apply iR hv;intros
  refine aS (R.rep.obj x _ hx) fun items cj rs=>?_
  refine dh (cj) fun n e=>?_
  exact zF _ items rfl ⟨_,e,rfl,n,rfl⟩ (by have:=rs.length;simpa using this)
 |lst=>
  apply so h
  apply JY hv
  intro _ _ _ _ e _ hc hd rs
  exact zF _ _ rfl ⟨_,e,hc,_,hd⟩ (by have:=rs.length;simpa using this)
 |_=>exact nn h
def Oj(a b:V):M Bool:=fun H=>match BP H a,BP H b with
 |some d,some e=>if small d&&small e then some (PyData.eqv d e,H) else none
 |_,_=>match lenOf H a,lenOf H b with
  |some m,some n=>if m=n then none else some (false,H)
  |_,_=>none
noncomputable def V.isNone:V→Bool
 | .none=>true
 |_=>false
def J3(a:V):M Bool:=fun H=>some (a.isNone,H)
theorem A9(h:bu g S v r):(r== .none)=v.isNone:=by
 cases h<;>rfl
def y0{α:Type}(a b:V)(f:Int→Int→M α):M α:=match a with
 | .int i=>(match b with
  | .int j=>f i j
  |_=>fL)
 |_=>fL
theorem ints_in{H:Hp}{r:α×Hp}{C:Value→Value→Prop}(ha:bu g S a x)(hb:bu g S b y)(hm:y0 a b f H=some r)(k:∀i t j t',f i j H=some r→C (.int i t) (.int j t')):C x y:=by
 cases a<;>first|exact nn hm|skip
 cases b<;>first|exact nn hm|skip
 apply yX ha;intro t;apply yX hb;intro t';exact k _ _ _ _ hm
theorem Kb{H:Hp}{r:α×Hp}{C:Value→Prop}(hb:bu g S b y)(hm:(bif b.isNone then m else fL) H=some r)(k:m H=some r→C .none):C y:=by
 cases b<;>first|exact nn hm|(apply RG hb;exact k hm)
def aX(op:CmpOp)(a b:V):M Bool:=match op with
 | .Eq=>Oj a b
 | .NotEq=>(Oj a b).d fun c=>pU (!c)
 | .Is=>bif b.isNone then J3 a else fL
 | .IsNot=>bif b.isNone then(J3 a).d fun c=>pU (!c) else fL
 | .Lt=>y0 a b fun i j=>pU (decide (i<j))
 | .LtE=>y0 a b fun i j=>pU (decide (i≤j))
 | .Gt=>y0 a b fun i j=>pU (decide (j<i))
 | .GtE=>y0 a b fun i j=>pU (decide (j≤i))
 | .In=>fL
 | .NotIn=>fL
theorem Qh(hu:A.units+101≤9899)(R:RS g S s)(ha:bu g S a x)(hb:bu g S b y)(hm:Oj a b S.H=some (c,H')):
  (Runs g (X0 g) A (compareOp .Eq x y) S s fun S' r=>S'.H=H'∧r= .bool c)∧(Runs g (X0 g) A (compareOp .NotEq x y) S s fun S' r=>S'.H=H'∧r= .bool (!c)):=by
 unfold Oj at hm
 split at hm
 ·rename_i d e h1 h2
  split at hm
  ·rename_i T9
   apply pe hm
   simp only [small,cV,decide_eq_true_eq] at T9
   refine dh (reads_in R ha h1) fun as ra=>?_
   refine dh (reads_in R hb h2) fun bs rb=>?_
   rw [←R.heap] at ra rb
   haveI A4:A.units+min d.depth e.depth<cLine:=by refine(ah (show cLine=9900 from rfl))▸?_;lia
   refine⟨Runs.cu R R.cP fun E Q k=>?_,Runs.cu R R.cP fun E Q k=>?_⟩
   ·exact SeqAt.eqOverData _ _ _ _ _ _ _ _ _ _ _ _ ra rb T9.1.1 T9.2.1 A4 (k _ s.toks ⟨rfl,rfl⟩)
   ·exact SeqAt.neOverData _ _ _ _ _ _ _ _ _ _ _ _ ra rb T9.1.1 T9.2.1 A4 (k _ s.toks ⟨rfl,rfl⟩)
  ·exact nn hm
 ·split at hm
  ·rename_i m n h1 h2
   split at hm
   ·exact nn hm
   ·rename_i qH
    apply pe hm
    refine sN (Nh R ha h1) fun l Vf cj i1 s1=>?_
    apply iH cj
    refine sN (Nh R hb h2) fun l' WT cj i2 s2=>?_
    apply iH cj
    haveI wY:(Vf.size !=WT.size)=true:=by simpa [s1,s2] using qH
    rw [←R.heap] at i1 i2
    haveI A4:A.units<cLine:=by refine(ah (show cLine=9900 from rfl))▸?_;exact bN (ai (fV _ _) ‹_›) (by decide)
    refine⟨Runs.cu R R.cP fun E Q k=>?_,Runs.cu R R.cP fun E Q k=>?_⟩
    ·exact PySem.SeqAt.RcAt.lists_lengths i1 i2 wY A4 _ _ _ _ (k _ s.toks ⟨rfl,rfl⟩)
    ·exact PySem.SeqAt.RcNeAt.lists_lengths i1 i2 wY A4 _ _ _ _ (k _ s.toks ⟨rfl,rfl⟩)
  ·exact nn hm
theorem Mc(hu:A.units+101≤9899)(R:RS g S s)(ha:bu g S a x)(hb:bu g S b y)(hm:aX op a b S.H=some (c,H')):
  Runs g (X0 g) A (compareOp op x y) S s fun S' r=>S'.H=H'∧r= .bool c:=by
 induction op with
 |Eq=>exact(Qh hu R ha hb hm).1
 |NotEq=>
  refine bs hm fun c' aG h1 h2=>?_
  apply pe h2
  exact(Qh hu R ha hb h1).2
 |Is=>
  apply Kb hb hm;intro hm;apply pe hm
  exact Runs.cu R R.cP fun E Q k=>is_none (A9 ha▸k _ s.toks ⟨rfl,rfl⟩)
 |IsNot=>
  apply Kb hb hm;intro hm;apply pe hm
  exact Runs.cu R R.cP fun E Q k=>isNot_none (A9 ha▸k _ s.toks ⟨rfl,rfl⟩)
 |Lt=>apply ints_in ha hb hm;intro _ _ _ _ hm;apply pe hm;exact Runs.cu R R.cP fun E Q k=>PyProof.Rows.lt_int (k _ s.toks ⟨rfl,rfl⟩)
 |LtE=>apply ints_in ha hb hm;intro _ _ _ _ hm;apply pe hm;exact Runs.cu R R.cP fun E Q k=>PyProof.Rows.le_int (k _ s.toks ⟨rfl,rfl⟩)
 |Gt=>apply ints_in ha hb hm;intro _ _ _ _ hm;apply pe hm;exact Runs.cu R R.cP fun E Q k=>PyProof.Rows.gt_int (k _ s.toks ⟨rfl,rfl⟩)
 |GtE=>apply ints_in ha hb hm;intro _ _ _ _ hm;apply pe hm;exact Runs.cu R R.cP fun E Q k=>PyProof.Rows.ge_int (k _ s.toks ⟨rfl,rfl⟩)
 |In=>exact nn hm
 |NotIn=>exact nn hm
theorem rn.units(h:rn k A):A.units+101≤9899:=by have:=h.2.1;lia
theorem kF(hl:SE g fr Lo l ml)(hr:SE g fr Lo r mr)(Ce:behindInMarks op r=false:=by with_unfolding_all rfl):
  SE g fr Lo (.Compare l [op] [r] pos) (ml.d fun a=>mr.d fun b=>(aX op a b).d fun c=>pU (.bool c)):=by
 intro A S s hA R F v H' hm
 intro E
 refine wpAny_Compare1 (hl.go hA R F hm E fun x bJ br a aD bA hx hm=>?_) Ce
 refine hr.go hA aD (F.ext R bA) hm E fun y gQ eh b bf cK hy hm=>?_
 refine bs hm fun c dg h3 hm=>?_
 apply pe hm
 exact h9 (Mc hA.units bf (hx.ext cK) hy h3 E) (fun z iT fw dp gm e3 hz=>⟨fw,dp,(bA.trans cK).trans gm,e3,by refine hz.symm▸?_;exact .bool c⟩)
theorem cz(hl:SE g fr Lo l ml)(hr:SE g fr Lo r mr)(Ce:behindInMarks op r=false:=by with_unfolding_all rfl):
  SB g fr Lo (.Compare l [op] [r] pos) (ml.d fun a=>mr.d fun b=>aX op a b):=by
 intro A S s hA R F v H' hm
 intro E
 refine wpAny_isTrue_Compare1 (hl.go hA R F hm E fun x bJ br a aD bA hx hm=>?_) Ce
 refine hr.go hA aD (F.ext R bA) hm E fun y gQ eh b bf cK hy h3=>?_
 refine h9 (Mc hA.units bf (hx.ext cK) hy h3 E) (fun z iT fw dp gm e3 hz=>?_)
 apply iH hz
 exact wpAny_truthy_bool ⟨fw,dp,(bA.trans cK).trans gm,e3,rfl⟩
theorem Mn(h:SE g fr Lo e m):SE g fr Lo (.UnaryOp .Not e pos) (m.d fun v=>(bV v).d fun c=>pU (.bool (!c))):=by
 intro A S s hA R F v H' hm
 rw [arm_eval_UnaryOp]
 refine h.Rt hA R F hm fun r bJ br u aD bA hr hm=>?_
 refine bs hm fun c bh b hm=>?_
 apply pe hm
 exact Runs.standAt (Runs.holding fun E=>not_of (h9 (yK aD hr b E) (fun c' gQ eh bf cK e2 hc=>⟨eh,bf,cK,e2,by rw [hc];exact .bool _⟩)))
theorem tu(h:SB g fr Lo e m):SB g fr Lo (.UnaryOp .Not e pos) (m.d fun c=>pU (!c)):=by
 intro A S s hA R F v H' hm
 rw [arm_isTrue_UnaryOp]
 refine bs hm fun u aG a hm=>?_
 apply pe hm
 refine Runs.bind (h A S s hA R F u _ a) fun br bJ r aD bA z13=>cQ z13 fun e1 hr=>?_
 apply sb hr
 exact Runs.pure aD aD.cP ⟨e1,rfl⟩
theorem ow{mt:M Bool}(ht:SB g fr Lo t mt)(hb:SE g fr Lo b mb)(ho:SE g fr Lo o mo):SE g fr Lo (.IfExp t b o pos) (mt.d fun c=>bif c then mb else mo):=by
 intro A S s hA R F v H' hm
 rw [arm_eval_IfExp]
 refine ht.Rt hA R F hm fun r bJ br aD bA hm=>?_
 induction r with
 |true=>exact hb A br bJ hA aD (F.ext R bA) v H' hm
 |false=>exact ho A br bJ hA aD (F.ext R bA) v H' hm
noncomputable def MK:BoolOp→Bool
 | .And=>true
 | .Or=>false
def mL(op:BoolOp):List (M V)→M V
 | []=>fL
 | [m]=>m
 |m::ms=>m.d fun v=>(bV v).d fun t=>bif (MK op==t) then mL op ms else pU v
def testM(op:BoolOp):List (M Bool)→M Bool
 | []=>pU (MK op)
 |m::ms=>m.d fun t=>bif (MK op==t) then testM op ms else pU t
inductive UR(g:Gl)(fr:zw)(Lo:Lc):List Expr→List (M V)→Prop
 |nil:UR g fr Lo [] []
 |cons {e:Expr} {m:M V} {es:List Expr} {ms:List (M V)}:SE g fr Lo e m→UR g fr Lo es ms→UR g fr Lo (e::es) (m::ms)
inductive SBL(g:Gl)(fr:zw)(Lo:Lc):List Expr→List (M Bool)→Prop
 |nil:SBL g fr Lo [] []
 |cons {e:Expr} {m:M Bool} {es:List Expr} {ms:List (M Bool)}:SB g fr Lo e m→SBL g fr Lo es ms→SBL g fr Lo (e::es) (m::ms)
theorem jR(h:UR g fr Lo es ms):SE g fr Lo (.BoolOp op es pos) (mL op ms):=by
 intro A S s hA R F v H' hm
 rw [arm_eval_BoolOp]
 induction h generalizing S s with
 |nil=>exact nn hm
 | @cons e m es ms he TJ ih=>
  induction TJ with
  |nil=>exact he A S s hA R F v H' hm
  | @cons e2 m2 Ts ms2 he2 ZU=>
   refine(?_:Runs g (X0 g) A (do
    let v←eval e fr.env
    standAt pos
    let t←holding [v] (truthy v)
    match op,t with
    | .And,false| .Or,true=>pure v
    |_,_=>boolOp pos op (evalEach (e2::Ts) fr.env)) S s _)
   refine he.Rt hA R F hm fun r bJ br u aD bA hr hm=>?_
   refine bs hm fun t bh b hm=>?_
   refine Runs.standAt (Runs.bind (Runs.holding (yK aD hr b)) fun eh gQ t' bf cK z=>cQ z fun e2 ht=>?_)
   subst e2 ht
   haveI j3:=(F.ext R bA).ext aD cK
   induction op<;>induction t'
   ·apply pe (show pU u eh.H=some (v,H') from hm);exact Runs.pure bf bf.cP ⟨rfl,hr.ext cK⟩
   ·exact ih _ _ bf j3 hm
   ·exact ih _ _ bf j3 hm
   ·apply pe (show pU u eh.H=some (v,H') from hm);exact Runs.pure bf bf.cP ⟨rfl,hr.ext cK⟩
theorem cL(h:SBL g fr Lo es ms):SB g fr Lo (.BoolOp op es pos) (testM op ms):=by
 intro A S s hA R F v H' hm
 rw [arm_isTrue_BoolOp]
 induction h generalizing S s with
 |nil=>apply pe hm;rw [arm_allTrue_nil];exact Runs.pure R R.cP ⟨rfl,by induction op<;>rfl⟩
 | @cons e m es ms he TJ ih=>
  rw [arm_allTrue_cons]
  refine he.Rt hA R F hm fun t' bJ br aD bA hm=>?_
  haveI nP:=F.ext R bA
  induction op<;>induction t'
  ·apply pe (show pU false br.H=some (v,H') from hm);exact Runs.pure aD aD.cP ⟨rfl,rfl⟩
  ·exact ih _ _ aD nP hm
  ·exact ih _ _ aD nP hm
  ·apply pe (show pU true br.H=some (v,H') from hm);exact Runs.pure aD aD.cP ⟨rfl,rfl⟩
def j4(op:Operator)(a b:V):M V:=match op with
 | .Add=>y0 a b fun i j=>pU (.int (i+j))
 | .Sub=>y0 a b fun i j=>pU (.int (i-j))
 | .Mod=>y0 a b fun i j=>if j=0 then fL else pU (.int (i.fmod j))
 |_=>fL
theorem Q1(R:RS g S s)(ha:bu g S a x)(hb:bu g S b y)(hm:j4 op a b S.H=some (c,H')):
  Runs g (X0 g) A (binaryOp op x y) S s fun S' r=>S'.H=H'∧bu g S' c r:=by
 unfold j4 at hm
 induction op with
 |Add=>apply ints_in ha hb hm;intro _ _ _ _ hm;apply pe hm;exact Runs.cu R R.cP fun E Q k=>PyProof.Rows.add_int (k _ _ ⟨rfl,.int _ _⟩)
 |Sub=>apply ints_in ha hb hm;intro _ _ _ _ hm;apply pe hm;exact Runs.cu R R.cP fun E Q k=>PyProof.Rows.sub_int' (k _ _ ⟨rfl,.int _ _⟩)
 |Mod=>
  apply ints_in ha hb hm;intro _ _ j _ hm
  by_cases h0:j=0
  ·exact nn (if_pos h0▸hm)
  ·replace hm:=(if_neg h0)▸hm
   apply pe hm;exact Runs.cu R R.cP fun E Q k=>PyProof.Rows.mod_int' h0 (k _ _ ⟨rfl,.int _ _⟩)
 |_=>exact nn hm
theorem sk(hl:SE g fr Lo l ml)(hr:SE g fr Lo r mr):SE g fr Lo (.BinOp l op r pos) (ml.d fun a=>mr.d fun b=>j4 op a b):=by
 intro A S s hA R F v H' hm
 intro E
 refine wpAny_BinOp (hl.go hA R F hm E fun x bJ br a aD bA hx hm=>?_)
 refine hr.go hA aD (F.ext R bA) hm E fun y gQ eh b bf cK hy h3=>?_
 exact h9 (Q1 bf (hx.ext cK) hy h3 E) (fun z iT fw dp gm e3 hz=>⟨fw,dp,(bA.trans cK).trans gm,e3,hz⟩)
theorem Mm:SE g fr Lo (.UnaryOp .USub (.Constant (.int i) k p) pos) (pU (.int (-i))):=by
 intro A S s hA R F v' H' hm
 apply pe hm
 refine Runs.cu R R.cP fun E Q k=>?_
 rw [arm_eval_UnaryOp]
 exact wpAny_bind (wpAny_Constant_int (wpAny_bind (wpAny_standAt (wpAny_holding (PyProof.Rows.neg_int (k _ _ ⟨rfl,.int _ _⟩))))))
theorem RS.push(R:RS g S s)(o:Obj)(t:Nat):RS g ⟨S.H,S.ρ,S.δ,S.h.push o⟩ {s with heap:=S.h.push o,toks:=t}∧Ext S ⟨S.H,S.ρ,S.δ,S.h.push o⟩ (X0 g):=by
 obtain⟨R',E'⟩:=R.quiet (X:=fun _=>False) (h':=S.h.push o) (fun _ _ h=>h.elim) (fun _ h=>h.elim) (fun _ h=>h.elim) (fun _ h=>h.elim) (fun b ob e _=>aJ _ e) (by rw [eV];exact eJ _) t
 exact⟨R',E'.widen (fun _ h=>h.elim) R.cP⟩
theorem RS.fm(R:RS g S s)(h:S.h.objs.size≤a):¬S.foot a:=by
 rintro ⟨x,d,e⟩
 have:=R.rep.lt x d
 rcases e with rfl|rfl
 ·exact absurd this.1 (cg.mpr h)
 ·exact absurd this.2 (cg.mpr h)
noncomputable def Plain(es:List Expr)(env:Env):Prop:=(∀pos,(backTo pos (starEach es env)).any (·.1)=false)∧(starEach es env= []∨∃x r,starEach es env=(false,x)::r)
def SA(g:Gl)(fr:zw)(Lo:Lc)(es:List Expr)(m:M (List V)):Prop:=
 Plain es fr.env∧∀A S s,rn fr.k A→RS g S s→Fits g fr Lo S→∀vs H',m S.H=some (vs,H')→∀pos,Runs g (X0 g) A (spliced (backTo pos (starEach es fr.env))) S s fun S' rs=>S'.H=H'∧dq g S' vs rs
theorem ax:SA g fr Lo [] (pU []):=by
 refine⟨⟨fun _=>rfl,.inl rfl⟩,?_⟩
 intro A S s hA R F v' H' hm pos
 apply pe hm
 exact fun E=>spliced_nil ⟨S,R,Ext.refl S R.cP,rfl,.nil⟩
theorem ag(h:SE g fr Lo e m)(hs:SA g fr Lo es ms)(he:starEach (e::es) fr.env=(false,eval e fr.env)::starEach es fr.env:=by rfl):
  SA g fr Lo (e::es) (m.d fun v=>ms.d fun vs=>pU (v::vs)):=by
 refine⟨⟨fun p=>by refine he.symm▸?_;exact hs.1.1 p,.inr ⟨_,_,he⟩⟩,?_⟩
 intro A S s hA R F v' H' hm pos
 refine he.symm▸?_
 intro E
 refine spliced_cons (h.go hA R F hm E fun r bJ br v aD bA hr hm=>?_)
 refine bs hm fun vs bh h2 hm=>?_
 apply pe hm
 exact h9 (hs.2 A br bJ hA aD (F.ext R bA) vs _ h2 pos E) (fun rs gQ eh bf cK e2 sQ=>⟨eh,bf,bA.trans cK,e2,.cons (hr.ext cK) sQ⟩)
noncomputable def iE(vs:List V):M V:=fun H=>if vs.length≤1000000 then some (.tup vs,H) else none
noncomputable def df(vs:List V):M V:=fun H=>if vs.length≤1000000 then some (.lst vs,H) else none
theorem N2(R:RS g S s)(h:dq g S vs rs)(hm:iE vs S.H=some (v,H')):
  Runs g (X0 g) A (newTuple rs) S s fun S' r=>S'.H=H'∧bu g S' v r:=fun E=>by
 unfold iE at hm
 revert hm;refine EX fun hl hm=>?_
 apply pe hm
 haveI l:=h.length
 refine cQ (R.push {cls:= .type "tuple",data:= .seq rs.toArray} s.toks) fun R' E'=>?_
 refine wpAny_newTuple ?_ (by refine sizeLine_eq.symm▸?_;lia)
 refine R.heap.symm▸?_
 refine iq _ R' E' rfl (.tup (bz _ rfl) ?_ rfl rfl ?_)
 ·exact fun q=>R.fm (az _) q
 ·simpa using h.ext E'
theorem Pu(R:RS g S s)(h:dq g S vs rs)(hm:df vs S.H=some (v,H')):
  Runs g (X0 g) A (newList rs) S s fun S' r=>S'.H=H'∧bu g S' v r:=fun E=>by
 unfold df at hm
 revert hm;refine EX fun hl hm=>?_
 apply pe hm
 haveI l:=h.length
 refine cQ (R.push {cls:= .type "list",data:= .seq rs.toArray} s.toks) fun R' E'=>?_
 refine wpAny_newList ?_ (by refine sizeLine_eq.symm▸?_;lia)
 refine R.heap.symm▸?_
 refine iq _ R' E' rfl (.lst (bz _ rfl) ?_ rfl rfl ?_)
 ·exact fun q=>R.fm (az _) q
 ·simpa using h.ext E'
def u5(x:VA)(o:ib):M V:=fun H=>match H.get x with
 |none=>some (.ref x,H.set x o)
 |some _=>none
def lL(x:VA)(vs:List V):M V:=fun H=>if vs.length≤1000000 then u5 x (.list vs) H else none
theorem bu.Ed(hd:S.kz x)(e:S.ρ x=a):bu g S (.ref x) (.ref a):=e▸ .ref hd
theorem wN(H:Hp)(x:VA)(o:ib)(ρ δ:VA→Addr):(Rp.mk (H.set x o) ρ δ h).kz x:=by
 refine(?_:(if x=x then some o else H.get x)≠none)
 refine(ah (if_pos rfl))▸?_;simp
theorem uD(h:Heap)(o:Obj):h.objs.size<(h.push o).objs.size:=by rw [eV];exact aW _
theorem GU(R:RS g S s)(h:dq g S vs rs)(hm:lL x vs S.H=some (v,H')):
  Runs g (X0 g) A (newList rs) S s fun S' r=>S'.H=H'∧bu g S' v r:=fun E=>by
 unfold lL at hm
 split at hm
 ·rename_i hl
  unfold u5 at hm
  split at hm
  ·rename_i hx
   apply pe hm
   haveI l:=h.length
   refine wpAny_newList ?_ (by refine sizeLine_eq.symm▸?_;lia)
   refine R.heap.symm▸?_
   obtain⟨R',E'⟩:=R.L1 (x:=x) (o':= .list vs) (a:=S.h.objs.size) (d:=S.h.objs.size) (h':=S.h.push {cls:= .type "list",data:= .seq rs.toArray}) hx (fun b o e=>aJ _ e)
    ⟨az _,uD _ _⟩ ⟨az _,uD _ _⟩ (cY (uD _ _))
    (fun E'=>⟨rs.toArray,⟨_,by refine(?_:(S.h.push _).get? (fP S.ρ x _ x)=_);rw [da];exact bz _ rfl⟩,by simpa using h.ext E'⟩) s.toks
   refine iq _ R' E' rfl (bu.Ed (wN _ _ _ _ _) (da ..))
  ·exact nn hm
 ·exact nn hm
theorem iU(h:SA g fr Lo es m):SE g fr Lo (.Tuple es k pos) (m.d iE):=by
 intro A S s hA R F v H' hm
 rw [arm_eval_Tuple]
 refine bs hm fun vs aG h1 hm=>?_
 refine Runs.standAt (Runs.bind (h.2 A S s hA R F vs aG h1 pos) fun br bJ rs aD bA z24=>cQ z24 fun e1 sQ=>?_)
 replace hm:=e1▸hm
 exact N2 aD sQ hm
theorem ee(h:SA g fr Lo es m):SE g fr Lo (.List es pos) (m.d df):=by
 intro A S s hA R F v H' hm
 rw [arm_eval_List]
 refine bs hm fun vs aG h1 hm=>?_
 refine Runs.standAt (Runs.bind (h.2 A S s hA R F vs aG h1 pos) fun br bJ rs aD bA z9=>cQ z9 fun e1 sQ=>?_)
 replace hm:=e1▸hm
 exact Pu aD sQ hm
theorem jl(x:M VA)(hx:∀H y H',x H=some (y,H')→H'=H)(h:SA g fr Lo es m):SE g fr Lo (.List es pos) (m.d fun vs=>x.d fun x=>lL x vs):=by
 intro A S s hA R F v H' hm
 refine bs hm fun vs aG h1 hm=>?_
 refine bs hm fun y bh h2 hm=>?_
 cases hx _ _ _ h2
 rw [arm_eval_List]
 refine Runs.standAt (Runs.bind (h.2 A S s hA R F vs aG h1 pos) fun br bJ rs aD bA XA=>cQ XA fun e1 sQ=>?_)
 replace hm:=e1▸hm
 exact GU aD sQ hm
theorem G9{rs:List Value}(hl:rs.length=n):(aR n).map (fun i=>rs.getD i .none)=rs:=by
 subst hl
 refine Od (by rw [aq,bP]) fun i h1 h2=>?_
 rw [Oe,xC]
 exact(List.getElem_eq_getD _).symm
theorem Ib(kf:Str→Option NameKind)(n:Str)(binds:List (Str×Value)):∀(m:Str→Option Value),n∉binds.map (·.1)→bindL kf binds m n=m n:=by
 induction binds with
 |nil=>exact fun _ _=>rfl
 |cons p r ih=>
  intro m h
  rw [bw,bF,not_or] at h
  refine(ih _ h.2).trans ?_
  split
  ·exact if_neg h.1
  ·rfl
theorem Kt(kf:Str→Option NameKind)(n:Str)(r:Value)(hk:kf n=some .local)(binds:List (Str×Value)):∀(m:Str→Option Value),(binds.map (·.1)).Nodup→(n,r)∈binds→bindL kf binds m n=some r:=by
 induction binds with
 |nil=>exact fun _ _ h=>absurd h jf
 |cons p rest ih=>
  intro m hn hm
  rw [bw,eI] at hn
  rcases bF.mp hm with e|hm
  ·rw [←e] at hn ⊢
   refine(Ib kf n rest _ hn.1).trans ?_
   rw [if_pos hk]
   exact if_pos rfl
  ·exact ih _ hn.2 hm
theorem Ia(kf:Str→Option NameKind)(n:Str)(binds:List (Str×Value)):∀(m:Str→Option Value),n∉binds.map (·.1)→bindC kf binds m n=m n:=by
 induction binds with
 |nil=>exact fun _ _=>rfl
 |cons p r ih=>
  intro m h
  rw [bw,bF,not_or] at h
  refine(ih _ h.2).trans ?_
  split
  ·rfl
  ·exact if_neg h.1
theorem Ks(kf:Str→Option NameKind)(n:Str)(r:Value)(hk:kf n=some .cell)(binds:List (Str×Value)):∀(m:Str→Option Value),(binds.map (·.1)).Nodup→(n,r)∈binds→bindC kf binds m n=some r:=by
 induction binds with
 |nil=>exact fun _ _ h=>absurd h jf
 |cons p rest ih=>
  intro m hn hm
  rw [bw,eI] at hn
  rcases bF.mp hm with e|hm
  ·rw [←e] at hn ⊢
   refine(Ia kf n rest _ hn.1).trans ?_
   rw [if_neg (by rw [hk];decide)]
   exact if_pos rfl
  ·exact ih _ hn.2 hm
theorem Cr(n:Str)(names:List (Str×NameKind)):∀(k:Nat) (acc:List (Str×Addr)),(acc.lookup n).isSome=true→((cellsFrom k names acc).lookup n).isSome=true:=by
 induction names with
 |nil=>exact fun _ _ h=>h
 |cons p r ih=>
  intro k acc h
  unfold cellsFrom
  split
  ·refine ih _ _ ?_
   rw [b7]
   split
   ·rfl
   ·exact h
  ·exact ih _ _ h
theorem cellsFrom_some(n:Str)(names:List (Str×NameKind)):∀(k:Nat) (acc:List (Str×Addr)),(n,NameKind.cell)∈names→((cellsFrom k names acc).lookup n).isSome=true:=by
 induction names with
 |nil=>exact fun _ _ h=>absurd h jf
 |cons p r ih=>
  intro k acc h
  unfold cellsFrom
  rcases bF.mp h with e|h
  ·(refine(e)▸?_;refine(ah (if_pos (show(NameKind.cell==NameKind.cell)=true from rfl)))▸?_)
   exact Cr n r _ _ (by rw [b7,show(n==n)=true from beq_self_eq_true n];rfl)
  ·split
   ·exact ih _ _ h
   ·exact ih _ _ h
noncomputable def jh(n:Nat)(m:List V→M Fl):List V→M V:=fun vs H=>if vs.length=n then(match m vs H with
 |some (.ret v,H')=>some (v,H')
 |some (.next _,H')=>some (.none,H')
 |none=>none) else none
noncomputable def Fl.out:Fl→V
 | .ret v=>v
 | .next _=> .none
theorem AX(hm:jh n m vs H=some (v,H')):vs.length=n∧∃fl,m vs H=some (fl,H')∧v=fl.out:=by
 unfold jh at hm
 split at hm
 ·rename_i hl
  induction h:m vs H with
  |none=>rw [h] at hm;exact nn hm
  |some p=>
   rw [h] at hm
   obtain⟨f,bh⟩:=p
   refine⟨hl,f,?_⟩
   induction f<;>(apply pe hm;exact⟨rfl,rfl⟩)
 ·exact nn hm
noncomputable def Qi:Flow→Value
 | .ret v=>v
 |_=> .none
theorem qD.out(z:qD g fr (fun _=> []) S fl f):bu g S fl.out (Qi f):=by
 induction fl<;>induction f<;>first|exact z.elim|exact z|exact .none
theorem rn.room(h:rn k A):A.depth<recursionLimit:=bN (ai (fV _ _) (ai (fV _ _) h.1)) (by decide:900<recursionLimit)
theorem rn.down(h:rn (k+1) A):rn k (A.deeper e):=
 ⟨(by have:=h.1;refine(?_:A.depth+1+4*k+4≤900);lia),(by have:=h.2.1;refine(?_:A.units+3+40*k+40≤9000);lia),h.2.2⟩
theorem dq.get(h:dq g S vs rs){i:Nat}(e:vs[i]? =some v):∃r,rs[i]? =some r∧bu g S v r:=by
 induction vs generalizing rs i with
 |nil=>simp at e
 |cons u us ih=>
  apply jT h
  intro _ _ a b
  induction i with
  |zero=>simp at e;apply sb e;exact dG _ (by simp) a
  |succ j=>simp at e;refine aS (ih b e) fun r p q=>?_;exact dG r (by simpa using p) q
theorem nf(hl:vs.length=n)(h:((aR n).zip vs).lookup i=some v):vs[i]? =some v:=by
 haveI hm:(i,v)∈(aR n).zip vs:=by
  generalize (aR n).zip vs=l at h
  induction l with
  |nil=>exact nn h
  |cons p r ih=>
   obtain⟨a,b⟩:=p
   rw [b7] at h
   induction hb:i==a with
   |true=>rw [hb] at h;apply so h;refine(ah (beq_iff_eq.mp hb))▸?_;exact pD
   |false=>rw [hb] at h;exact ku _ (ih h)
 refine dh (aQ.mp hm) fun j hj=>?_
 rw [fJ] at hj
 refine cQ (hj) fun h1 h2=>?_
 rw [oO (by have:=(aF.mp h2).1;lia)] at h1
 simp at h1
 apply sb h1
 exact h2
structure Oy(K:Frag)(f:Addr)(fd:FuncData)(body:List Stmt)(n:Nat):Prop where
 body:fd.body= .stmts body
 glob:fd.globals=mainGlobals
 blt:fd.builtins=builtinsNs
 VE:fd.closure= []
 par:∀r:Nat→Value,bindArgs fd ⟨(aR n).map r, []⟩=pure (((fd.scope.names.take n).map (·.1)).zip ((aR n).map r))
 len:(fd.scope.names.take n).length=n
 nm:namesOk fd.scope.names=true
 kinds:(fd.scope.names.take n).all (fun p=>p.2== .local||p.2== .cell)=true
 free:fd.scope.names.all (fun p=>p.2 != .free)=true
 code:codeIn K fd.code fd.qualname=true
 kind:fd.scope.kind= .function
 co:fd.scope.isCoroutine=false
 gen:fd.scope.isGenerator=false
structure LH(K:Frag)(fd:FuncData)(body:List Stmt)(n:Nat):Prop where
 body:fd.body= .stmts body
 glob:fd.globals=mainGlobals
 blt:fd.builtins=builtinsNs
 VE:fd.closure= []
 len:(fd.scope.names.take n).length=n
 nm:namesOk fd.scope.names=true
 kinds:(fd.scope.names.take n).all (fun p=>p.2== .local||p.2== .cell)=true
 free:fd.scope.names.all (fun p=>p.2 != .free)=true
 code:codeIn K fd.code fd.qualname=true
 kind:fd.scope.kind= .function
 co:fd.scope.isCoroutine=false
 gen:fd.scope.isGenerator=false
theorem Oy.toB{K:Frag}{body:List Stmt}(O:Oy K f fd body n):LH K fd body n:=⟨O.body,O.glob,O.blt,O.VE,O.len,O.nm,O.kinds,O.free,O.code,O.kind,O.co,O.gen⟩
theorem Gf
  (A4:A.depth<recursionLimit) (ho:s.heap.get? a=some o) (Qo:o.data= .func fd) (Wh:s.heap.NoLimit) (KU:s.heap.CodeRec fd.code fd.qualname) (TA:fd.body= .stmts body) (Tz:BindsTo s fd args binds) (VX:fd.closure= [])
  (TU:∀x∈binds,fd.scope.names.lookup x.1=some .local∨(fd.scope.names.lookup x.1=some .cell∧((cellsFrom (s.heap.objs.size+1) fd.scope.names []).lookup x.1).isSome=true))
  (h:∀bJ,InCallC s (callEnvC fd s.heap.objs.size a).locals (bindL (callEnvC fd s.heap.objs.size a).kindOf binds fun _=>none) (callEnvC fd s.heap.objs.size a).cells
    (bindC (callEnvC fd s.heap.objs.size a).kindOf binds fun _=>none) bJ→
   wpAny (model prog w) (A.deeper (callEnvC fd s.heap.objs.size a)) (execs body (callEnvC fd s.heap.objs.size a)) (fun f s'=>R (.ok (.ret (Qi f))) s')
    (fun e s'=>wpAny (model prog w) (A.deeper (callEnvC fd s.heap.objs.size a)) (leaving (callEnvC fd s.heap.objs.size a) e) (fun _ Fu=>R (.error e) Fu) (fun e' Fu=>R (.error e') Fu) s') bJ)
  (ZP:fd.scope.isCoroutine=false) (V7:fd.scope.isGenerator=false) (hk:fd.scope.kind= .function):codeAny (model prog w) A (.call (.ref a) args) R s:=by
 refine codeAny_call_function A4 ho Qo ZP V7 TA KU (Tz _ _ _ _ ?_)
 refine VX.symm▸?_
 refine wpAny_newFunctionEnv_cells hk TU fun env he s' x=>?_
 subst he
 exact⟨Wh.keeps x.toInCall.keep,codeAny_func (h s' x)⟩
theorem Ay{body:List Stmt}{n k:Nat}{m:List V→M Fl}(G:gj g)(hK:g.K.lookup f=some ⟨oc,od,.func fd,sl⟩)(O:LH g.K fd body n)
  (h:∀L vs,vs.length=n→SS g ⟨callEnvC fd L f,k, []⟩ ((aR n).zip vs) body (fun _=> []) (m vs)) {A:Around} {S:Rp} {s:Shared} (hA:rn (k+1) A) (R:RS g S s) {args:List Value} {vs:List V} {rs:List Value} (hv:dq g S vs rs)
  (hb:BindsTo s fd ⟨args, []⟩ (((fd.scope.names.take n).map (·.1)).zip rs)) {v:V} {H':Hp} (hm:jh n m vs S.H=some (v,H')) {E:Value→Shared→Prop}:
  codeAny (Mo g) A (.call (.ref f) ⟨args, []⟩) (fun r s'=>match r with
   | .ok (.ret u)=>∃S',RS g S' s'∧Ext S S' (X0 g)∧S'.H=H'∧bu g S' v u
   | .ok _=>False
   | .error e=>E e s') s:=by
 refine cQ (AX hm) fun hlen q=>aS q fun fl O6 Wr=>?_
 haveI NM:=pj O.nm
 haveI X:g.K.In s.heap:=R.heap▸R.In G
 haveI Vb:=hv.length
 haveI ME:((fd.scope.names.take n).map (·.1)).length=n:=by rw [aq];exact O.len
 haveI U9:((fd.scope.names.take n).map (·.1)).Nodup:=iP.nodup (iP.map _ (yN ..)) NM.once
 haveI Sy:s.heap.NoLimit:=by
  refine aS (G.nolimit) fun mc cj q=>?_
  refine CI (cj) fun o es ep e r=>?_
  exact dG mc ⟨o,es,ep,R.heap▸R.old _ o e (fun q hq h=>(G.stat q hq).1 h.symm),r⟩ q
 have UZ:(((fd.scope.names.take n).map (·.1)).zip rs).map (·.1)=(fd.scope.names.take n).map (·.1):=Of (fZ (ME.trans (Vb.trans hlen).symm))
 haveI idx:∀x r,(x,r)∈((fd.scope.names.take n).map (·.1)).zip rs→∃(i:Nat) (q:NameKind),fd.scope.names[i]? =some (x,q)∧(q= .local∨q= .cell)∧rs[i]? =some r:=fun x r hx=>by
  refine dh (aQ.mp hx) fun i hi=>?_
  rw [fJ] at hi
  refine cQ (hi) fun h1 h2=>?_
  replace h1:=(aC)▸h1
  refine aS (ba.mp h1) fun p hp cj=>?_
  subst cj
  haveI hk:=du.mp O.kinds p (aB hp)
  replace hp:=(ig)▸hp
  split at hp
  ·exact zF i p.2 hp (by simpa using hk) h2
  ·exact nn hp
 refine Gf (fd:=fd) (body:=body) (binds:=((fd.scope.names.take n).map (·.1)).zip rs) hA.room (X _ _ hK) rfl Sy (codeRec_of X O.code) O.body hb O.VE ?_ ?_ O.co O.gen O.kind
 ·intro x hx
  refine sN (idx x.1 x.2 hx) fun i q h1 h2 _=>?_
  have:=gk NM.once h1
  rcases h2 with rfl|rfl
  ·exact .inl this
  ·exact .inr (iN this (cellsFrom_some _ _ _ _ (aB h1)))
 ·intro bJ IC
  refine eY (IC.done) fun fb tk cj keep=>?_
  subst cj
  have wY:S.h.objs.size≤fb.objs.size:=by
   have:=IC.toInCall.ns.lt
   haveI e:(callEnvC fd s.heap.objs.size f).locals=s.heap.objs.size:=rfl
   replace this:=(e)▸this
   refine(R.heap)▸?_
   exact cY this
  refine cQ (R.quiet (X:=fun _=>False) (h':=fb) (fun _ _ h=>h.elim) (fun _ h=>h.elim) (fun _ h=>h.elim) (fun _ h=>h.elim) (fun b o e _=>keep b o (R.heap▸e)) wY tk) fun aD bA=>?_
  have UU:∀a,s.heap.objs.size≤a→¬(Rp.mk S.H S.ρ S.δ fb).foot a:=fun a ha hf=>R.fm (by refine(R.heap)▸?_;exact ha) hf
  haveI big:g.fb.objs.size≤s.heap.objs.size:=by refine R.heap.symm▸?_;exact R.big
  have n0:∀x c,(callEnvC fd s.heap.objs.size f).cells.lookup x=some c→s.heap.objs.size<c:=fun x c hc=>IC.above x c (mem_of_lookup hc)
  have F:Fits g ⟨callEnvC fd s.heap.objs.size f,k, []⟩ ((aR n).zip vs) ⟨S.H,S.ρ,S.δ,fb⟩:=by
   refine Fits.mk O.kind O.glob O.blt NM ⟨_,IC.toInCall.ns,fun i v x hi hx=>?_⟩ (fun i v hi=>?_) (fun i x h=>by exact nn h) (iN (UU _ (az _)) big) (fun i x q hx hq=>?_) (fun x y c hx hy=>name_of_addr IC.apart (mem_of_lookup hx) (mem_of_lookup hy))
   ·haveI hx:fd.scope.names[i]? =some (x,.local):=hx
    refine aS (hv.get (nf hlen hi)) fun r hr O9=>?_
    haveI GF:i<n:=hlen▸(aF.mp (nf hlen hi)).1
    refine dG r (Kt _ x r (gk NM.once hx) _ _ (by refine UZ.symm▸?_;exact U9) (aQ.mpr ⟨i,?_⟩)) (O9.ext bA)
    rw [fJ]
    exact iN (by(refine(ah (aC))▸?_;refine(ah (ig))▸?_;refine(ah (if_pos GF))▸?_;refine hx.symm▸?_);rfl) hr
   ·refine aS (hv.get (nf hlen hi)) fun r hr O9=>?_
    have GF:i<n:=hlen▸(aF.mp (nf hlen hi)).1
    haveI V8:i<fd.scope.names.length:=aT GF (ai (fZ O.len.symm) (va _ _))
    obtain⟨⟨x,q⟩,hx⟩:∃p,fd.scope.names[i]? =some p:=⟨_,bj V8⟩
    have hk:=du.mp O.kinds (x,q) (aQ.mpr ⟨i,by(refine(ah (ig))▸?_;refine(ah (if_pos GF))▸?_);exact hx⟩)
    have hk:q= .local∨q= .cell:=by simpa using hk
    refine ie x q hx (hk.imp_right fun hc=>⟨.inl hc,rfl,?_⟩)
    subst hc
    refine dh (qz.mp (cellsFrom_some x fd.scope.names (s.heap.objs.size+1) [] (aB hx))) fun c hc=>?_
    refine zF c r hc ?_ (O9.ext bA)
    have:=IC.cell x c hc
    rw [Ks _ x r (gk NM.once hx) _ _ (by rw [UZ];exact U9) (aQ.mpr ⟨i,?_⟩)] at this
    ·exact this
    ·rw [fJ]
     exact iN (by rw [aC,ig,if_pos GF,hx];rfl) hr
   ·haveI hx:fd.scope.names[i]? =some (x,q):=hx
    have Z9:=du.mp O.free (x,q) (aB hx)
    have hqc:q= .cell:=by
     rcases hq with h|h
     ·exact h
     ·subst h;simp at Z9
    subst hqc
    refine dh (qz.mp (cellsFrom_some x fd.scope.names (s.heap.objs.size+1) [] (aB hx))) fun c hc=>?_
    haveI l:=n0 x c hc
    exact jc c hc (mO l) (fun _=>(fM ⟨_,IC.cell x c hc⟩ (UU c (cY l)) (ai big (cY l))))
  haveI W:∀{S':Rp},Ext ⟨S.H,S.ρ,S.δ,fb⟩ S' (Xf g ⟨callEnvC fd s.heap.objs.size f,k, []⟩)→Ext S S' (X0 g):=fun {S'} E'=>
   ((bA.widen (Y:=Xf g ⟨callEnvC fd s.heap.objs.size f,k, []⟩) (fun _ h=>h.elim) (fun a o hx e=>F.calm aD a o hx (keep a o (R.heap▸e)))).trans E').narrow (fun a hx=>by
    rcases hx with h|rfl|⟨i,x,_,hc,_⟩
    ·exact .inl h
    ·exact .inr (by rw [←R.heap];exact az _)
    ·exact .inr (by rw [←R.heap];exact cY (n0 x a hc))) R.cP
  exact h9 (h _ vs hlen _ _ _ hA.down aD F _ _ O6 _) fun f s' S' R' E' e z=>iq S' R' (W E') e (Wr▸z.out)
theorem Gg(G:gj g)(hK:g.K.lookup f=some ⟨oc,od,.func fd,sl⟩)(O:Oy g.K f fd body n)
  (h:∀L vs,vs.length=n→SS g ⟨callEnvC fd L f,k, []⟩ ((aR n).zip vs) body (fun _=> []) (m vs)):CS g (k+1) f (jh n m):=by
 intro A S s hA R vs rs hv v H' hm E
 haveI hlen:=(AX hm).1
 exact Ay G hK O.toB h hA R hv (.of_eq (G9 (hv.length.trans hlen)▸O.par _)) hm
theorem Kx(G:gj g)(hK:g.K.lookup f=some ⟨oc,od,.func fd,sl⟩)(O:LH g.K fd body n)
  (hd:∀S,dq g S dv dr) (hb:∀r S,peek g.K S (bindArgs fd ⟨[r], []⟩)=some (((fd.scope.names.take n).map (·.1)).zip (r::dr)))
  (h:∀L vs,vs.length=n→SS g ⟨callEnvC fd L f,k, []⟩ ((aR n).zip vs) body (fun _=> []) (m vs)):CS g (k+1) f (fun vs=>match vs with| [v]=>jh n m (v::dv)|_=>fL):=by
 intro A S s hA R vs rs hv v H' hm E
 match vs with
 | []=>exact nn hm
 |_::_::_=>exact nn hm
 | [u]=>
  apply jT hv;intro r rs hu hn
  apply qK hn
  exact Ay G hK O h hA R (.cons hu (hd S)) (kp_binds (R.heap▸R.In G) (hb _)) hm
def Av(g:Gl)(h:Heap)(f:Value):Prop:=∃k,(k=Keeper.frame∨k=Keeper.machine∨k=Keeper.boundFrame)∧Looks (Mo g) h (keeperOf f) k
theorem rn.le(h:rn k A)(hk:k'≤k):rn k' A:=(fM (by have:=h.1;lia) (by have:=h.2.1;lia) h.2.2)
theorem EJ{M:Model}{l:List (Bool×Sem Value)}{Q:Args→Shared→Prop}(hl:l= []∨∃x r,l=(false,x)::r)
  (h:wpAny M A (spliced l) (fun vs s'=>Q ⟨vs, []⟩ s') E s):wpAny M A (evalArgs f true l []) Q E s:=by
 rcases hl with rfl|⟨x,r,rfl⟩
 ·unfold evalArgs
  refine(?_:wpAny M A (spliced []>>=_) Q E s)
  refine wpAny_bind (wpAny_mono h (fun vs s' h'=>?_) fun _ _ x=>x)
  refine wpAny_bind (wpAny_pure (wpAny_holding ?_))
  exact wpAny_bind (wpAny_pure (wpAny_bind (wpAny_pure (wpAny_pure h'))))
 ·exact evalArgs_plain h
theorem jg(hA:rn fr.k A)(R:RS g S s)(F:Fits g fr Lo S)(ha:SA g fr Lo args ma)(hm:ma S.H=some (vs,aG))
  (hk:∀S' s',RS g S' s'→Ext S S' (X0 g)→Av g S'.h fv)
  (h:∀S' s' rs,RS g S' s'→Ext S S' (X0 g)→S'.H=aG→dq g S' vs rs→Runs g (X0 g) A (call fv (first++rs)) S' s' P):
  Runs g (X0 g) A (callWith pos fv first (backTo pos (starEach args fr.env)) []) S s P:=by
 intro E
 refine callWith_of (P:=fun h=>Av g h fv) (by refine(ah (ha.1.1 pos))▸?_;rfl) (fun _ h=>h) (EJ ?_ ?_)
 ·rcases ha.1.2 with e|⟨x,r,e⟩
  ·refine e.symm▸?_;exact .inl rfl
  ·refine e.symm▸?_;exact .inr ⟨_,_,rfl⟩
 ·refine h9 (ha.2 A S s hA R F vs aG hm pos E) (fun rs s' S' R' E' e sQ=>⟨by refine R'.heap.symm▸?_;exact hk S' s' R' E',?_⟩)
  exact FG (h S' s' rs R' E' e sQ E) (fun _ _ LS Ko SY p=>⟨LS,Ko,E'.trans SY,p⟩)
theorem IJ(G:gj g)(R:RS g S s)(hk:keepIn g.K a=true):Av g S.h a:=keeps_K hk _ (R.In G)
theorem CS.run(h:CS g k f m)(hA:rn k A)(R:RS g S s)(hv:dq g S vs rs)(hm:m vs S.H=some (v,H')):
  Runs g (X0 g) A (call (.ref f) rs) S s fun S' r=>S'.H=H'∧bu g S' v r:=fun E=>
 wpAny_call (codeAny_mono (h A S s hA R vs rs hv v H' hm E) fun r s' z=>by rcases r with e|(x|_|_|_)<;>first|exact z.elim|exact z)
theorem Rf{id:Str}{ma:M (List V)}{f:List V→M V}(G:gj g)(hf:SE g fr Lo (.Name id p) (pU (.fn a)))(hk:keepIn g.K (.ref a)=true)(hc:CS g k a f)(ha:SA g fr Lo args ma)(ET:k≤fr.k:=by exact bG rfl):
  SE g fr Lo (.Call (.Name id p) args [] pos) (ma.d f):=by
 intro A S s hA R F v H' hm
 refine bs hm fun vs aG h1 h2=>?_
 rw [arm_eval_Call_Name']
 refine Runs.bind (hf A S s hA R F _ _ rfl) fun br bJ r aD bA z9=>cQ z9 fun e1 hr=>?_
 apply Ue hr;intros
 refine jg hA aD (F.ext R bA) ha (e1▸h1) (fun S' s' R' _=>IJ G R' hk) fun S' s' rs R' E' e sQ=>?_
 subst e
 exact hc.run (hA.le ET) R' sQ h2
def J2:V→M V
 | .none=>pU .none
 |_=>fL
def my(C:Addr)(nm:List V→VA)(m:List V→M V)(vs:List V):M V:=
 (u5 (nm vs) (.inst C [])).d fun r=>(m (r::vs)).d fun u=>(J2 u).d fun _=>pU r
theorem tL{h:Heap}(e:h.get? a=some emptyDict):h.DictOf (PySem.strKind prog w) a []:=
 (MH _ (#[]) 0 e ⟨rfl,rfl,rfl⟩ rfl (fun _ he=>by simp at he) Pairs.nil ej)
structure vb(K:Frag)(C fI:Addr):Prop where
 makes:makesIn K C=true
 init:findIn K (.ref C) "__init__"=some (some (.ref fI))
 fn:typeIn K (.ref fI)=some (.type "function")
 plain:xu K C=true
 keep:keepIn K (.ref C)=true
theorem Nl(G:gj g)(O:vb g.K C fI)(hc:CS g k fI m)(hA:rn (k+1) A)(R:RS g S s)(hv:dq g S vs rs)(hm:my C nm m vs S.H=some (v,H')):
  Runs g (X0 g) A (call (.ref C) rs) S s fun S' r=>S'.H=H'∧bu g S' v r:=by
 intro E
 refine bs hm fun r aG h1 hm=>?_
 refine bs hm fun u bh h2 hm=>?_
 refine bs hm fun u' dg h3 hm=>?_
 apply pe hm
 unfold J2 at h3
 split at h3
 ·apply pe h3
  unfold u5 at h1
  split at h1
  ·rename_i hx
   cases h1
   obtain⟨hh,gg,d,t,os⟩:=s
   haveI ZX:hh=S.h:=R.heap
   apply iH ZX
   haveI X:g.K.In S.h:=R.In G
   refine wpAny_call (make_core (makes_of X O.makes) (looks_findIn X O.init) (fun self=>bind_fn X self O.fn) (.inl rfl) ?_)
   haveI k0:∀b o,S.h.get? b=some o→((S.h.push emptyDict).push (instObj C S.h.objs.size)).get? b=some o:=fun b o e=>aJ _ (aJ _ e)
   haveI wY:((S.h.push emptyDict).push (instObj C S.h.objs.size)).objs.size=S.h.objs.size+2:=by rw [eV,eV]
   haveI gd:((S.h.push emptyDict).push (instObj C S.h.objs.size)).get? S.h.objs.size=some emptyDict:=aJ _ (bz _ rfl)
   haveI gi:((S.h.push emptyDict).push (instObj C S.h.objs.size)).get? (S.h.objs.size+1)=some (instObj C S.h.objs.size):=by heap_get
   obtain⟨R',E'⟩:=R.L1 (x:=nm vs) (o':= .inst C []) (a:=S.h.objs.size+1) (d:=S.h.objs.size) (h':=(S.h.push emptyDict).push (instObj C S.h.objs.size)) hx k0
    ⟨eJ _,by refine wY.symm▸?_;exact aW _⟩ ⟨az _,by refine wY.symm▸?_;exact j0 (aW _)⟩ (by refine wY.symm▸?_;exact fV _ _)
    (fun E'=>⟨by refine(?_:Vm _ (fP S.ρ (nm vs) _ (nm vs))=some (instObj C (fP S.δ (nm vs) _ (nm vs))));rw [da,da];exact gi,
     ⟨[],tL (by refine(?_:Vm _ (fP S.δ (nm vs) _ (nm vs))=_);rw [da];exact gd),.nil⟩,
     by refine(?_:fP S.ρ (nm vs) _ (nm vs)≠fP S.δ (nm vs) _ (nm vs));rw [da,da];exact Nat.succ_ne_self _,O.plain⟩) t
   haveI Zy:rn k (A.under (.builtin "type.__call__" ⟨.ref C::rs, []⟩)):=by
    refine fC (hA) fun a b c=>?_
    refine fM ?_ ?_ c
    ·refine(?_:A.depth+Code.weight (.builtin "type.__call__" ⟨.ref C::rs, []⟩)+4*k+4≤900)
     have:Code.weight (.builtin "type.__call__" ⟨.ref C::rs, []⟩)≤3:=by
      rw [show Code.weight (.builtin "type.__call__" ⟨.ref C::rs, []⟩)=1 from by kernel_rfl];decide
     lia
    ·refine(?_:A.units+Code.cUnits (.builtin "type.__call__" ⟨.ref C::rs, []⟩)+40*k+40≤9000)
     have:Code.cUnits (.builtin "type.__call__" ⟨.ref C::rs, []⟩)≤3:=by
      rw [show Code.cUnits (.builtin "type.__call__" ⟨.ref C::rs, []⟩)=1 from by kernel_rfl];decide
     lia
   haveI Qs:bu g ⟨S.H.set (nm vs) (.inst C []),fP S.ρ (nm vs) (S.h.objs.size+1),fP S.δ (nm vs) S.h.objs.size,(S.h.push emptyDict).push (instObj C S.h.objs.size)⟩ (.ref (nm vs)) (.ref (S.h.objs.size+1)):=
    bu.Ed (wN _ _ _ _ _) (da ..)
   refine codeAny_mono (hc _ _ _ Zy R' (.ref (nm vs)::vs) (.ref (S.h.objs.size+1)::rs) (.cons Qs (hv.ext E')) _ _ h2 E) fun r s' z=>?_
   rcases r with e|(x|_|_|_)
   ·exact z
   ·exact z.elim
   ·exact z.elim
   ·exact z.elim
   ·refine wO (z) fun eh bf cK e2 hr=>?_
    cases hr
    refine⟨rfl,eh,bf,E'.trans cK,e2,?_⟩
    exact Qs.ext cK
  ·exact nn h1
 ·exact nn h3
theorem Rn{id:Str}{ma:M (List V)}{nm:List V→VA}{m:List V→M V}(G:gj g)(hf:SE g fr Lo (.Name id p) (pU (.fn C)))(O:vb g.K C fI)(hc:CS g k fI m)(ha:SA g fr Lo args ma)(ET:k+1≤fr.k:=by exact bG rfl):
  SE g fr Lo (.Call (.Name id p) args [] pos) (ma.d (my C nm m)):=by
 intro A S s hA R F v H' hm
 refine bs hm fun vs aG h1 h2=>?_
 rw [arm_eval_Call_Name']
 refine Runs.bind (hf A S s hA R F _ _ rfl) fun br bJ r aD bA z36=>cQ z36 fun e1 hr=>?_
 apply Ue hr;intros
 refine jg hA aD (F.ext R bA) ha (e1▸h1) (fun S' s' R' _=>IJ G R' O.keep) fun S' s' rs R' E' e sQ=>?_
 subst e
 exact Nl G O hc (hA.le ET) R' sQ h2
def CC(g:Gl)(k:Nat)(d:Nat)(m:List VA→List V→M V):Prop:=
 ∀A S s,rn k A→RS g S s→∀cs vs f rs,bu g S (.iC d cs) f→dq g S vs rs→∀v H',m cs vs S.H=some (v,H')→Runs g (X0 g) A (call f rs) S s fun S' r=>S'.H=H'∧bu g S' v r
def M.tO:V→M Unit
 | .iC _ _=>pU ()
 |_=>fL
def vc(d:Nat)(m:List VA→List V→M V)(f:V)(vs:List V):M V:=match f with
 | .iC j cs=>if j=d then m cs vs else fL
 |_=>fL
theorem D3(h:bu g S (.iC d cs) f):Av g S.h f:=by
 cases h with
 | @iC _ _ a c o oc pm doc ct vs t e hf hc hm hd hl e2 Ry hd2 hq=>
  refine dG .frame (.inl rfl) ((Looks.ld (part:=none) e).andThen ?_)
  refine hd.symm▸?_
  exact .now
theorem Gk(hc:CC g k d m)(hA:rn k A)(R:RS g S s)(hf:bu g S f fv)(hv:dq g S vs rs)(hm:vc d m f vs S.H=some (v,H')):
  Runs g (X0 g) A (call fv rs) S s fun S' r=>S'.H=H'∧bu g S' v r:=by
 unfold vc at hm
 split at hm
 ·split at hm
  ·rename_i h;subst h;exact hc A S s hA R _ vs fv rs hf hv v H' hm
  ·exact nn hm
 ·exact nn hm
theorem Rg{id:Str}{ma:M (List V)}{m:List VA→List V→M V}(hf:SE g fr Lo (.Name id p) mo)(hc:CC g k d m)(ha:SA g fr Lo args ma)(ET:k≤fr.k:=by exact bG rfl):
  SE g fr Lo (.Call (.Name id p) args [] pos) (mo.d fun f=>(M.tO f).d fun _=>ma.d (vc d m f)):=by
 intro A S s hA R F v H' hm
 refine bs hm fun f kX h0 hm=>?_
 refine bs hm fun _ XD Tw hm=>?_
 refine bs hm fun vs aG h1 h2=>?_
 rw [arm_eval_Call_Name']
 refine Runs.bind (hf A S s hA R F _ _ h0) fun br bJ r aD bA z25=>cQ z25 fun e1 hr=>?_
 subst e1
 unfold M.tO at Tw
 induction f using V.casesOn with
 |iC=>
  cases Tw
  refine jg hA aD (F.ext R bA) ha h1 (fun S' s' R' E'=>D3 (hr.ext E')) fun S' s' rs R' E' e sQ=>?_
  subst e
  exact Gk hc (hA.le ET) R' (hr.ext E') sQ h2
 |_=>exact nn Tw
theorem La{h:Heap}(D:h.DictOf (PySem.strKind prog w) a fe){name:Str}(e:valueAt fe name=none):
  ∃o,h.get? a=some o∧lookIn name o=some none:=by
 refine CJ (D) fun o es ep ho _ hd hk hp _=>?_
 refine dG o ho ?_
 unfold lookIn
 refine hd.symm▸?_
 dsimp only
 haveI h1:=hp.find name
 replace h1:=(e)▸h1
 haveI q:(fun d:DictEntry=>Value.isStrOf name d.key)=fun d=>d.key.isStr name:=funext fun d=>(isStr_of name d.key).symm
 haveI h2:(es.toList.find? fun d=>d.key.isStr name).map (·.val)=none:=by refine(q)▸?_;exact h1
 refine(ah (FX.mp h2))▸?_
 dsimp only
 haveI KR:es.toList.any (·.refKey)=false:=by
  rw [yM]
  intro e he
  refine aS (hk e (HW.mp he)) fun k U4 _=>?_
  refine dh (Value.isStrOf_shape U4) fun t We=>?_
  simp [DictEntry.refKey,We]
 refine KR.symm▸?_;rfl
def Qy(name:Str):Bool:=F9.all fun f=> !(DF f.c (mG name))
theorem Np(h:Qy name=true)(f:Fd):f.s≠name:=fun e=>by
 have:=du.mp h f (uE f)
 unfold Fd.c at this
 rw [e,pA] at this
 exact ft this
theorem gn.Eb(h:gn g S fs fe)(hn:∀f:Fd,f.s≠name):valueAt fe name=none:=by
 induction h with
 |nil=>rfl
 | @cons f v r fs fe a _ ih=>unfold valueAt at ih ⊢;rw [iK];simp only [hn f,decide_false];exact ih
noncomputable def Ig(c:Addr)(v:V):M Unit:=fun H=>match v with
 | .ref x=>(match H.get x with
  |some (.inst c' _)=>if c'=c then some ((),H) else none
  |_=>none)
 |_=>none
theorem IU(hA:rn fr.k A)(R:RS g S s)(F:Fits g fr Lo S)(ho:SE g fr Lo o mo)(h1:mo S.H=some (v,aG))
  (hg:∀br bJ ov,RS g br bJ→Fits g fr Lo br→br.H=aG→bu g br v ov→∃fx:Value×List Value,(∀E Q,(∀tk,Q fx {bJ with toks:=tk})→wpAny (Mo g) A (getMethod ov name pl) Q E bJ)∧
   ∀tk,Runs g (X0 g) A (callWith pos fx.1 fx.2 (backTo pos (starEach args fr.env)) []) br {bJ with toks:=tk} P)
  (he:eval (.Call (.Attribute o name apos) args [] pos) fr.env=(do
   let ov←eval o fr.env
   standAt apos.atName
   let(f,first)←holding [ov] (getMethod ov name pl)
   callWith pos f first (backTo pos (starEach args fr.env)) [])):
  Runs g (X0 g) A (eval (.Call (.Attribute o name apos) args [] pos) fr.env) S s P:=by
 intro E
 refine MethodCall_ (pl:=pl) (wpAny_mono (ho A S s hA R F v aG h1 E) (fun ov bJ Xz=>wO Xz fun br aD bA e1 hv=>?_) fun _ _ x=>x) he
 refine aS (hg br bJ ov aD (F.ext R bA) e1 hv) fun fx a b=>?_
 exact a E _ fun tk=>wpAny_mono (b tk E) (fun _ _ Xx=>j9 Xx fun S' R' E' p=>(jc S' R' (bA.trans E') p)) fun _ _ x=>x
theorem Lj(R:RS g S s)(hx:S.H.get x=some (.inst c fs)):∃od,InstAt s.heap (S.ρ x) (instObj c (S.δ x)) c (some od)∧LN g.K c∧∀name:Str,(∀f:Fd,f.s≠name)→shadowIn (some od) name=some false:=by
 (first|refine ou (R.rep.obj x _ hx) fun ho Lg qH hp=>?_|refine j9 (R.rep.obj x _ hx) fun ho Lg qH hp=>?_|refine eY (R.rep.obj x _ hx) fun ho Lg qH hp=>?_|refine Tg (R.rep.obj x _ hx) fun ho Lg qH hp=>?_);(first|refine fC (Lg) fun fe D FR=>?_|refine aS (Lg) fun fe D FR=>?_|refine KJ (Lg) fun fe D FR=>?_)
 refine CI (id D) fun od es ep JW r=>?_
 refine jc od ⟨by refine R.heap.symm▸?_;exact ho,rfl,rfl,by refine R.heap.symm▸?_;exact JW⟩ (Fn hp) (fun name hn=>?_)
 refine aS (La D (FR.Eb hn)) fun od' e hl=>?_
 replace e:=(JW)▸e;cases e
 refine(?_:(lookIn name od).map _=_)
 refine hl.symm▸?_;rfl
theorem L9(h:Ig c v H=some ((),H')):∃x fs,v= .ref x∧H.get x=some (.inst c fs)∧H'=H:=by
 unfold Ig at h
 revert h;refine DE fun x q=>oI fun c' fs hx=>EX fun U0 h=>?_
 cases h;subst U0;exact zF _ _ q hx rfl
theorem Mw(h:aE v f H=some (u,H')):∃x c fs,v= .ref x∧H.get x=some (.inst c fs)∧il fs f=some u∧H'=H:=by
 unfold aE at h
 revert h;refine DE fun x q=>oI fun c' fs hx=>oM fun u' hu h=>?_
 apply pe h;exact Pc _ _ _ q hx hu rfl
theorem IG(h:M.tO f H=some ((),H')):H'=H∧∃j cs,f= .iC j cs:=by
 unfold M.tO at h
 induction f using V.casesOn with
 |iC=>cases h;exact⟨rfl,_,_,rfl⟩
 |_=>exact nn h
theorem Ml(G:gj g)(ho:SE g fr Lo o mo)(hf:findIn g.K (.ref C) name=some (some (.ref f)))(ht:typeIn g.K (.ref f)=some (.type "function"))
  (hn:Qy name=true) (hk:keepIn g.K (.ref f)=true) (hc:CS g k f m) (ha:SA g fr Lo args ma) (ET:k≤fr.k:=by exact bG rfl)
  (he:eval (.Call (.Attribute o name apos) args [] pos) fr.env=(do
   let ov←eval o fr.env
   standAt apos.atName
   let(f,first)←holding [ov] (getMethod ov name pl)
   callWith pos f first (backTo pos (starEach args fr.env)) []):=by rfl):
  SE g fr Lo (.Call (.Attribute o name apos) args [] pos) (mo.d fun v=>(Ig C v).d fun _=>ma.d fun vs=>m (v::vs)):=by
 intro A S s hA R F v' H' hm
 refine bs hm fun v aG h1 hm=>?_
 refine bs hm fun _ Qb h2 hm=>?_
 refine bs hm fun vs bh h3 h4=>?_
 refine IU hA R F ho h1 (fun br bJ ov aD nP e1 hv=>?_) he
 subst e1
 refine sN (L9 h2) fun x fs u6 hx q_4=>?_;subst u6;subst q_4
 apply iR hv
 intro hd
 refine j9 (Lj aD hx) fun od I P hs=>?_
 refine dG (.ref f, [.ref (br.ρ x)]) (fun E Q q=>method_fn (aD.heap▸aD.In G:g.K.In bJ.heap) I P.ga P.gh hf ht (hs name (Np hn)) (q bJ.toks)) (fun tk=>?_)
 refine jg hA (aD.toks tk) nP ha h3 (fun S' s' R' _=>IJ G R' hk) fun S' s' rs R' E' e sQ=>?_
 subst e
 exact hc.run (hA.le ET) R' (.cons ((bu.ref hd).ext E') sQ) h4
theorem JL(G:gj g)(fd:Fd)(ho:SE g fr Lo o mo)(hc:CC g k d m)(ha:SA g fr Lo args ma)(ET:k≤fr.k:=by exact bG rfl)(hf:fd.s=name:=by rfl)
  (he:eval (.Call (.Attribute o name apos) args [] pos) fr.env=(do
   let ov←eval o fr.env
   standAt apos.atName
   let(f,first)←holding [ov] (getMethod ov name pl)
   callWith pos f first (backTo pos (starEach args fr.env)) []):=by rfl):
  SE g fr Lo (.Call (.Attribute o name apos) args [] pos) (mo.d fun v=>(aE v fd).d fun f=>(M.tO f).d fun _=>ma.d fun vs=>vc d m f vs):=by
 intro A S s hA R F v' H' hm
 refine bs hm fun v aG h1 hm=>?_
 refine bs hm fun f Qb h2 hm=>?_
 refine bs hm fun _ Vo XU hm=>?_
 refine bs hm fun vs bh h3 h4=>?_
 refine IU hA R F ho h1 (fun br bJ ov aD nP e1 hv=>?_) he
 subst e1 hf
 refine KL (Mw h2) fun x c fs Xd hx hu q_6=>?_;subst Xd;subst q_6
 obtain⟨rfl,j,cs,rfl⟩:=IG XU
 apply iR hv
 intro hd
 (first|refine ou (aD.rep.obj x _ hx) fun ho Ec qH hp=>?_|refine j9 (aD.rep.obj x _ hx) fun ho Ec qH hp=>?_|refine eY (aD.rep.obj x _ hx) fun ho Ec qH hp=>?_|refine Tg (aD.rep.obj x _ hx) fun ho Ec qH hp=>?_);(first|refine fC (Ec) fun fe D FR=>?_|refine aS (Ec) fun fe D FR=>?_|refine KJ (Ec) fun fe D FR=>?_)
 refine aS (FR.get hu) fun y hy hr=>?_
 refine aS (D4 D hy) fun od JW hl=>?_
 haveI P:=Fn hp
 refine aS (P.cd) fun cd KU zE=>?_
 haveI X:g.K.In bJ.heap:=aD.heap▸aD.In G
 haveI I:InstAt bJ.heap (br.ρ x) (instObj c (br.δ x)) c (some od):=⟨by refine aD.heap.symm▸?_;exact ho,rfl,rfl,by refine aD.heap.symm▸?_;exact JW⟩
 refine dG (y, []) (fun E Q q=>method_usual X I P.ga P.gh (P.no fd) rfl ?_) (fun tk=>?_)
 ·refine get_value (K:=g.K) (ox:=instObj c (br.δ x)) (od:=some od) (C:=c) X I P.ga ?_ (handed hr) (q _)
  unfold findObj
  (refine KU.symm▸?_;refine(ah (P.no fd))▸?_)
  refine(?_:(W.ownOf cd (some od) fd.s).bind _=_)
  rw [show W.ownOf cd (some od) fd.s=some (some y) by simp only [W.ownOf,zE,if_true,hl]]
  rfl
 ·refine jg hA (aD.toks tk) nP ha h3 (fun S' s' R' E'=>D3 (hr.ext E')) fun S' s' rs R' E' e sQ=>?_
  subst e
  exact Gk hc (hA.le ET) R' (hr.ext E') sQ h4
noncomputable def jo(v:V):M Unit:=fun H=>match v with
 | .ref x=>(match H.get x with
  |some (.list _)=>some ((),H)
  |_=>none)
 |_=>none
noncomputable def tC(v:V):M Unit:=fun H=>match v with
 | .ref x=>(match H.get x with
  |some (.aU _)=>some ((),H)
  |some (.cI _)=>some ((),H)
  |some (.et _)=>some ((),H)
  |_=>none)
 |_=>none
def BM(g:Gl)(id:String)(f:V→List V→M V):Prop:=
 ∀A S s,A.units+20≤9000→RS g S s→∀v vs ov rs,bu g S v ov→dq g S vs rs→∀u H',f v vs S.H=some (u,H')→Runs g (X0 g) A (call (.builtin id) (ov::rs)) S s fun S' r=>S'.H=H'∧bu g S' u r
theorem xa{S:Rp}{id:String}:Av g S.h (.builtin id):=(dG .machine (.inr (.inl rfl)) .now)
theorem Ew(R:RS g S s)(hv:bu g S v ov)(h:jo v S.H=some ((),H')):H'=S.H∧s.TypeIs ov "list"∧∀a,ov= .ref a→∃o,s.heap.get? a=some o∧o.dict=none:=by
 unfold jo at h
 revert h
 refine DE fun x cj=>oL fun vs hx h=>?_
 subst cj
 cases h
 apply iR hv
 intro hd
 (first|refine fC (R.rep.obj x _ hx) fun items yC _=>?_|refine aS (R.rep.obj x _ hx) fun items yC _=>?_|refine KJ (R.rep.obj x _ hx) fun items yC _=>?_);(first|refine cQ (yC) fun n e=>?_|refine dh (yC) fun n e=>?_)
 replace e:=R.heap.symm▸e
 exact fM rfl ⟨_,e,rfl⟩ (fun a ha=>by cases ha;exact dG _ e rfl)
theorem Ab(R:RS g S s)(hv:bu g S v ov)(h:tC v S.H=some ((),H')):H'=S.H∧s.TypeIs ov "dict"∧∀a,ov= .ref a→∃o,s.heap.get? a=some o∧o.dict=none:=by
 unfold tC at h
 revert h;refine DE fun x cj h=>?_
 subst cj
 apply iR hv
 intro hd
 generalize hx:S.H.get x=o at h
 induction o using j1 with
 |none=>exact nn h
 |some o=>induction o using ib.casesOn with
  |aU=>
   cases h
   (first|refine fC (R.rep.obj x _ hx) fun fe yC _=>?_|refine aS (R.rep.obj x _ hx) fun fe yC _=>?_|refine KJ (R.rep.obj x _ hx) fun fe yC _=>?_);(first|refine Mk (yC) fun o es ep e hc _=>?_|refine xS (yC) fun o es ep e hc _=>?_|refine sO (yC) fun o es ep e hc _=>?_|refine Gw (yC) fun o es ep e hc _=>?_|refine OV (yC) fun o es ep e hc _=>?_|refine Rd (yC) fun o es ep e hc _=>?_)
   replace e:=R.heap.symm▸e
   exact fM rfl ⟨_,e,hc.1⟩ (fun a ha=>by cases ha;exact dG _ e hc.2.1)
  |cI=>
   cases h
   (first|refine fC (R.rep.obj x _ hx) fun fe zk _=>?_|refine aS (R.rep.obj x _ hx) fun fe zk _=>?_|refine KJ (R.rep.obj x _ hx) fun fe zk _=>?_);(first|refine Mk (zk) fun o es ep e hc _=>?_|refine xS (zk) fun o es ep e hc _=>?_|refine sO (zk) fun o es ep e hc _=>?_|refine Gw (zk) fun o es ep e hc _=>?_|refine OV (zk) fun o es ep e hc _=>?_|refine Rd (zk) fun o es ep e hc _=>?_)
   replace e:=R.heap.symm▸e
   exact fM rfl ⟨_,e,hc.1⟩ (fun a ha=>by cases ha;exact dG _ e hc.2.1)
  |et=>
   cases h
   (first|refine fC (R.rep.obj x _ hx) fun fe zl _=>?_|refine aS (R.rep.obj x _ hx) fun fe zl _=>?_|refine KJ (R.rep.obj x _ hx) fun fe zl _=>?_);(first|refine Mk (zl) fun o es ep e hc _=>?_|refine xS (zl) fun o es ep e hc _=>?_|refine sO (zl) fun o es ep e hc _=>?_|refine Gw (zl) fun o es ep e hc _=>?_|refine OV (zl) fun o es ep e hc _=>?_|refine Rd (zl) fun o es ep e hc _=>?_)
   replace e:=R.heap.symm▸e
   exact fM rfl ⟨_,e,hc.1⟩ (fun a ha=>by cases ha;exact dG _ e hc.2.1)
  |_=>exact nn h
theorem Io{T id:String}{UT:V→M Unit}{args:List Expr}{pl:Sem Bool}{mo:M V}{ma:M (List V)}{f:V→List V→M V}(VW:∀(S:Rp) (s:Shared),RS g S s→∀v ov H',bu g S v ov→UT v S.H=some ((),H')→H'=S.H∧s.TypeIs ov T∧∀a,ov= .ref a→∃o,s.heap.get? a=some o∧o.dict=none)
  (pa:PlainAttrs T) (slot:Slot T name id) (hty:typeOf (.builtin id)=pure (.type "method_descriptor")) (ho:SE g fr Lo o mo) (hc:BM g id f) (ha:SA g fr Lo args ma)
  (he:eval (.Call (.Attribute o name apos) args [] pos) fr.env=(do
   let ov←eval o fr.env
   standAt apos.atName
   let(f,first)←holding [ov] (getMethod ov name pl)
   callWith pos f first (backTo pos (starEach args fr.env)) [])):
  SE g fr Lo (.Call (.Attribute o name apos) args [] pos) (mo.d fun v=>(UT v).d fun _=>ma.d fun vs=>f v vs):=by
 intro A S s hA R F v' H' hm
 refine bs hm fun v aG h1 hm=>?_
 refine bs hm fun _ Qb h2 hm=>?_
 refine bs hm fun vs bh h3 h4=>?_
 refine IU hA R F ho h1 (fun br bJ ov aD nP e1 hv=>?_) he
 subst e1
 refine fC (VW br bJ aD v ov _ hv h2) fun Xc hT hd=>?_;subst Xc
 refine dG (.builtin id, [ov]) (fun E Q q=>getMethod_builtin hT pa slot hty hd (q bJ.toks)) (fun tk=>?_)
 refine jg hA (aD.toks tk) nP ha h3 (fun S' s' R' _=>xa) fun S' s' rs R' E' e sQ=>?_
 subst e
 exact hc A S' s' (by have:=hA.2.1;lia) R' v vs ov rs (hv.ext E') sQ _ _ h4
theorem dq.append(h:dq g S vs rs)(h':dq g S us ts):dq g S (vs++us) (rs++ts):=by
 induction vs generalizing rs with
 |nil=>apply qK h;intros;exact h'
 |cons v vs ih=>cases h with|cons a b=>exact .cons a (ih b)
theorem dq.take(h:dq g S vs rs)(n:Nat):dq g S (vs.take n) (rs.take n):=by
 induction vs generalizing rs n with
 |nil=>apply qK h;intros;simp;exact .nil
 |cons v vs ih=>
  apply jT h
  intro _ _ a b
  induction n with
  |zero=>simp;exact .nil
  |succ n=>simp only [List.take_succ_cons];exact .cons a (ih b n)
theorem dq.drop(h:dq g S vs rs)(n:Nat):dq g S (vs.drop n) (rs.drop n):=by
 induction vs generalizing rs n with
 |nil=>apply qK h;intros;simp;exact .nil
 |cons v vs ih=>
  apply jT h
  intro _ _ a b
  induction n with
  |zero=>simp;exact .cons a b
  |succ n=>simp only [List.drop_succ_cons];exact ih b n
noncomputable def listOf(H:Hp)(v:V):Option (List V):=match v with
 | .ref x=>(match H.get x with
  |some (.list vs)=>some vs
  |_=>none)
 | .lst vs=>some vs
 |_=>none
theorem m3(R:RS g S s)(hv:bu g S v ov)(h:listOf S.H v=some vs):∃a items o n,ov= .ref a∧S.h.get? a=some o∧o.cls= .type "list"∧o.data= .seq items n∧dq g S vs items.toList:=by
 unfold listOf at h
 induction v using V.casesOn with
 |ref x=>
  revert h;refine oL fun vs' hx h=>?_
  apply so h
  apply iR hv
  intro hd
  refine aS (R.rep.obj x _ hx) fun items cj rs=>?_
  obtain⟨n,e⟩:=cj
  exact GL _ items _ n rfl e rfl rfl rs
 |lst=>
  apply so h
  apply JY hv
  intro _ _ _ _ e hf hc hd rs
  exact GL _ _ _ _ rfl e hc hd rs
 |_=>exact nn h
theorem RS.IP(R:RS g S s)(hx:S.H.get x=some (.list vs))(hl:h'.PlainList (S.ρ x) items)(hs:bU (S.ρ x) S.h h')(hv:dq g S us items.toList)(t:Nat):
  RS g ⟨S.H.set x (.list us),S.ρ,S.δ,h'⟩ {s with heap:=h',toks:=t}∧Ext S ⟨S.H.set x (.list us),S.ρ,S.δ,h'⟩ (X0 g):=
 R.change (x:=x) (o':= .list us) (h':=h') (by intro h;rw [hx] at h;exact G2 h) (fun b h1 _ o e=>(hs.2 b h1).trans e) hs.1 (fun E'=>(dG items hl (hv.ext E'))) t
def fQ(v:V)(vs:List V):M V:=fun H=>match v,vs with
 | .ref x, [u]=>(match H.get x with
  |some (.list ls)=>if ls.length≤1000000 then some (.none,H.set x (.list (ls++ [u]))) else none
  |_=>none)
 |_,_=>none
theorem DJ:BM g "list.append" fQ:=by
 intro A S s hu R v vs ov rs hv EU u H' hm
 unfold fQ at hm
 revert hm
 refine UK fun x u' cj u6=>oL fun ls hx=>EX fun hl hm=>?_
 subst cj
 subst u6
 apply pe hm
 apply iR hv
 intro hd
 apply jT EU
 intro _ _ DY hn
 cases hn
 refine aS (R.rep.obj x _ hx) fun items ME sQ=>?_
 haveI hz:=sQ.length
 haveI Vc:items.size=ls.length:=by simpa using hz
 intro E
 refine wpAny_list_append_plain (by rw [R.heap];exact ME) (fun h' TV hs=>?_) (by refine sizeLine_eq.symm▸?_;lia)
 obtain⟨R',E'⟩:=R.IP (us:=ls++ [u']) hx TV (R.heap▸hs) (by refine Array.toList_push.symm▸?_;exact sQ.append (.cons DY .nil)) s.toks
 exact iq _ R' E' rfl .none
theorem Fo(f:Array Value→Array Value)(items:Array Value)(n:Nat):∃n',Obj.mapSeq f {cls:= .type "list",data:= .seq items n}={cls:= .type "list",data:= .seq (f items) n'}:=⟨_,rfl⟩
theorem PlainList.mapped{h:Heap}(hl:h.PlainList a items)(f:Array Value→Array Value):(h.update a (Obj.mapSeq f)).PlainList a (f items):=by
 refine dh (hl) fun n e=>?_
 refine dh (Fo f items n) fun n' q=>?_
 exact⟨n',by rw [jL _ e (by rw [q];rfl),q]⟩
def I4(v:V)(vs:List V):M V:=fun H=>match v,vs with
 | .ref x, []=>(match H.get x with
  |some (.list ls)=>if ls.length≤1000000 then(match ls.getLast? with
    |some u=>some (u,H.set x (.list ls.dropLast))
    |none=>none) else none
  |_=>none)
 |_,_=>none
theorem Q3:BM g "list.pop" I4:=by
 intro A S s hu R v vs ov rs hv EU u H' hm
 unfold I4 at hm
 revert hm
 refine QJ fun x cj u6=>oL fun ls hx=>EX fun hl=>oM fun u' MD hm=>?_
 subst cj
 subst u6
 apply pe hm
 apply iR hv
 intro hd
 apply qK EU;intros
 refine aS (R.rep.obj x _ hx) fun items ME sQ=>?_
 haveI hz:items.size=ls.length:=by simpa using sQ.length
 replace MD:=(List.getLast?_eq_getElem?)▸MD
 refine aS (sQ.get MD) fun y hy hyr=>?_
 (replace hy:=(eU)▸hy;replace hy:=hz.symm▸hy)
 intro E
 refine dh (id ME) fun n T5=>?_
 refine call_meets PySem.F.slot_list_pop (T:= "list") (dG _ (by rw [R.heap];exact T5) rfl) PySem.F.entry_list_pop (PySem.F.args_list_pop_1 _) (PySem.MeetsSeq.list_pop_last _ items n y hy (by refine sizeLine_eq.symm▸?_;lia)) ⟨by rw [R.heap];exact T5,?_⟩
 haveI hs:bU (S.ρ x) S.h (s.heap.update (S.ρ x) (Obj.mapSeq fun xs=>xs.eraseIdxIfInBounds (items.size-1))):=by rw [R.heap];exact bU.update ..
 haveI TV:(s.heap.update (S.ρ x) (Obj.mapSeq fun xs=>xs.eraseIdxIfInBounds (items.size-1))).PlainList (S.ρ x) (items.eraseIdxIfInBounds (items.size-1)):=by rw [R.heap];exact PlainList.mapped ME _
 obtain⟨R',E'⟩:=R.IP (us:=ls.dropLast) hx TV hs (by
  have:(items.eraseIdxIfInBounds (items.size-1)).toList=items.toList.take (items.size-1):=by
   obtain⟨l⟩:=items
   haveI hz0:0<l.length:=by
    have:=(j2.mp hy).1
    simp at this;exact ai (af _ _) ‹_›
   haveI hz1:l.length-1<l.length:=by lia
   simp [qA,hz1,HY]
  rw [this,HY,hz]
  exact sQ.take _) s.toks
 exact iq _ R' E' rfl (hyr.ext E')
def rJ(v:V)(vs:List V):M V:=fun H=>match v,vs with
 | .ref x, [.ref y]=>(match H.get x,H.get y with
  |some (.list ls),some (.list ms)=>if ls.length+ms.length≤1000000 then some (.none,H.set x (.list (ls++ms))) else none
  |_,_=>none)
 |_,_=>none
theorem Ku:BM g "list.extend" rJ:=by
 intro A S s hu R v vs ov rs hv EU u H' hm
 unfold rJ at hm
 revert hm
 refine Y7 fun x y cj u6=>oLL fun ls ms hx hy=>EX fun hl hm=>?_
 subst cj
 subst u6
 apply pe hm
 apply iR hv
 intro hd
 apply jT EU
 intro _ _ DY hn
 cases hn
 cases DY with
 |ref U1=>
  refine aS (R.rep.obj x _ hx) fun items ME sQ=>?_
  refine aS (R.rep.obj y _ hy) fun qm Wt T8=>?_
  haveI hz:items.size=ls.length:=by simpa using sQ.length
  haveI hz2:qm.size=ms.length:=by simpa using T8.length
  intro E
  refine dh (id ME) fun n Yj=>?_
  refine dh (id Wt) fun n2 Ws=>?_
  refine call_meets PySem.F.slot_list_extend (T:= "list") (dG _ (by rw [R.heap];exact Yj) rfl) PySem.F.entry_list_extend (PySem.F.args_list_extend_2 _ _) (PySem.AutoSeq1.list_extend_list_list_0 _ items n _ qm n2 ?_ (by rw [sizeLine_eq];lia) (by rw [sizeLine_eq];lia)) ⟨by rw [R.heap];exact Yj,by rw [R.heap];exact Ws,?_⟩
  ·have:Builtin.List.listTooLong (items.size+qm.size)=false:=by
    unfold Builtin.List.listTooLong
    simp only [gt_iff_lt,decide_eq_false_iff_not];rw [sizeLine_eq]
    lia
   rw [this];simp
  ·haveI hs:bU (S.ρ x) S.h (s.heap.update (S.ρ x) (Obj.mapSeq fun z=>z++qm)):=by rw [R.heap];exact bU.update ..
   haveI TV:(s.heap.update (S.ρ x) (Obj.mapSeq fun z=>z++qm)).PlainList (S.ρ x) (items++qm):=by rw [R.heap];exact PlainList.mapped ME _
   obtain⟨R',E'⟩:=R.IP (us:=ls++ms) hx TV hs (by rw [kB];exact sQ.append T8) s.toks
   exact iq _ R' E' rfl .none
noncomputable def lJ(es:List (Str×V))(k:Str):Option V:=(es.find? fun p=>decide (p.1=k)).map (·.2)
def yH(es:List (Str×V))(k:Str)(v:V):List (Str×V):=if(lJ es k).isSome then es.map (fun p=>if p.1=k then(p.1,v) else p) else es++ [(k,v)]
noncomputable def CF(es:List (Str×V))(k:Str):List (Str×V):=es.filter fun p=>decide (p.1≠k)
theorem IL:([some a,none]:List (Option Str))= [some b,none]↔a=b:=by simp
theorem iQ.get(h:iQ g S es xs)(k:Str):
  (lJ es k=none∧atKey xs [some k,none]=none)∨∃v a r,lJ es k=some v∧atKey xs [some k,none]=some (a,r)∧bu g S v r:=by
 induction h with
 |nil=>exact .inl (iN rfl rfl)
 | @cons x v a r fs fe ka vr _ ih=>
  unfold lJ atKey at ih ⊢
  (refine(ah (iK))▸?_;refine(ah (iK))▸?_)
  by_cases hx:x=k
  ·apply sb hx
   simp only [decide_true]
   exact .inr (WN v a r rfl rfl vr)
  ·have:¬([some x,none]:List (Option Str))= [some k,none]:=fun e=>hx (IL.mp e)
   simp only [hx,this,decide_false]
   exact ih
theorem iQ.append(h:iQ g S es xs)(hk:bu g S (.tup [.str k,.none]) (.ref a))(hv:bu g S v r):iQ g S (es++ [(k,v)]) (xs++ [([some k,none],a,r)]):=by
 induction h with
 |nil=>exact .cons hk hv .nil
 |cons x y _ ih=>exact .cons x y ih
theorem iQ.put(h:iQ g S es xs)(hv:bu g S v r):
  iQ g S (es.map fun p=>if p.1=k then(p.1,v) else p) (xs.map (putAt [some k,none] r)):=by
 induction h with
 |nil=>exact .nil
 | @cons x v' a r' fs fe ka vr _ ih=>
  by_cases hx:x=k
  ·subst hx;simp only [bw,if_true,putAt];exact .cons ka hv ih
  ·have:¬([some x,none]:List (Option Str))= [some k,none]:=fun e=>hx (IL.mp e)
   simp only [bw,if_neg hx,putAt,if_neg this];exact .cons ka vr ih
theorem iQ.set(h:iQ g S es xs)(hk:bu g S (.tup [.str k,.none]) (.ref a))(hv:bu g S v r):
  iQ g S (yH es k v) (storedH xs [some k,none] a r):=by
 unfold yH storedH
 rcases h.get k with⟨a1,a2⟩|⟨v',a',r',a1,a2,_⟩
 ·(refine a1.symm▸?_;refine a2.symm▸?_);exact h.append hk hv
 ·(refine a1.symm▸?_;refine a2.symm▸?_);exact h.put hv
theorem iQ.del(h:iQ g S es xs)(k:Str):iQ g S (CF es k) (xs.filter fun x=>decide (x.1≠ [some k,none])):=by
 induction h with
 |nil=>exact .nil
 | @cons x v' a r' fs fe ka vr _ ih=>
  unfold CF at ih ⊢
  by_cases hx:x=k
  ·apply iH hx;rw [jd,jd];simpa using ih
  ·have:¬([some x,none]:List (Option Str))= [some k,none]:=fun e=>hx (IL.mp e)
   rw [jd,jd]
   simp only [ne_eq,hx,this,not_false_eq_true,decide_true,if_true]
   exact .cons ka vr ih
theorem iQ.length(h:iQ g S es xs):xs.length=es.length:=by
 induction h with
 |nil=>rfl
 |cons _ _ _ ih=>simp [ih]
theorem sm{K:Type}[DecidableEq K]:∀{xs:List (K×Addr×Value)} {j:Nat} {k:K} {p:Addr×Value},(xs.map (·.1)).Nodup→xs[j]? =some (k,p)→xs.eraseIdx j=xs.filter fun x=>decide (x.1≠k)
 | [],_,_,_,_,h=>by simp at h
 |x::xs,j,k,p,hn,h=>by
  rw [bw,eI] at hn
  cases j with
  |zero=>
   simp at h;subst h
   simp only [List.eraseIdx_cons_zero,jd,ne_eq,not_true_eq_false,decide_false]
   refine(eR.mpr fun y hy=>?_).symm
   simp only [ne_eq,decide_not,LA,decide_eq_false_iff_not]
   exact fun e=>hn.1 (e▸aP.mpr ⟨y,hy,rfl⟩)
  |succ j=>
   simp at h
   have qH:x.1≠k:=fun e=>hn.1 (e▸aP.mpr (dG (k,p) (aB h) rfl))
   simp only [List.eraseIdx_cons_succ,jd,ne_eq,qH,not_false_eq_true,decide_true,if_true]
   rw [sm hn.2 h]
theorem vx(f:α→β):∀(l:List α) (j:Nat),(l.eraseIdx j).map f=(l.map f).eraseIdx j
 | [],_=>rfl
 |_::_,0=>rfl
 |x::l,j+1=>by simp [vx f l j]
theorem Nf{K:Type}[DecidableEq K]{xs:List (K×Addr×Value)}(hn:(xs.map (·.1)).Nodup)(k:K):((xs.filter fun x=>decide (x.1≠k)).map (·.1)).Nodup:=
 iP.nodup (iP.map _ wm) hn
section
variable {prog:Program}{w:World}{K:Type}[DecidableEq K]{knd:HeapKind prog w K}{A:Around}{E:Value→Shared→Prop}{s:Shared}
theorem wj(hu:knd.room A)(mf:knd.is s.heap k a)(hm:s.heap.DictOfH knd d xs)
  (TZ:atKey xs k=none→Q none {s with toks:=s.toks+knd.draws k})
  (Ub:∀p e,atKey xs k=some p→e.val=p.2→∀h',h'.DictOfH knd d (xs.filter fun x=>decide (x.1≠k))→bU d s.heap h'→Q (some e) {s with heap:=h',toks:=s.toks+knd.draws k})
  (wY:xs.length≤sizeLine):wpAny (model prog w) A (Builtin.Dict.takeOut d (.ref a)) Q E s:=by
 refine CJ (hm) fun o es ep ho hc hd he V9 hn=>?_
 haveI TJ:es.size≤sizeLine:=by have:=size_of_entries he;omega
 unfold Builtin.Dict.takeOut
 try with_reducible refine wpAny_holding ?_
 refine wpAny_bind (knd.pyHash hu mf (wpAny_bind (wpAny_dictFind_heap (s:={s with toks:=s.toks+knd.draws k}) hu mf ho hd he V9 hn ?_ ?_)))
 ·intro Wn
  exact wpAny_pure (TZ (atKey_none_of_get Wn))
 ·intro j p hj
  refine wpAny_bind (wpAny_dictEntries (s:={s with toks:=s.toks+knd.draws k}) ho hd ?_)
  (refine(ah (entry_at he j))▸?_;refine hj.symm▸?_)
  dsimp only [LG]
  refine wpAny_bind (wpAny_updateDictKeys (hz:=TJ) (s:={s with toks:=s.toks+knd.draws k}) ho hd (wpAny_pure (Ub p _ (atKey_of_get hn hj) rfl _ ⟨_,_,ep+1,jL _ ho (Obj.isFreed_of_dict (Obj.data_mapDictKeys hd _)),
   hc.mapDictKeys _,Obj.data_mapDictKeys hd _,?_,fun x hx=>knd.keeps (V9 x (bH.mp hx).1) ho hd (bU.update ..),Nf hn k⟩ (bU.update ..))))
  refine(sm hn hj)▸?_
  haveI Z1:j<es.size:=by
   have:=(aF.mp hj).1
   refine(ah (size_of_entries he))▸?_;exact this
  obtain⟨l⟩:=es
  haveI hl:l=xs.map (entryOfKey knd):=he
  haveI TR:j<l.length:=Z1
  refine(?_:(qA ⟨l⟩ j).toList=_)
  simp only [qA,List.size_toArray,TR,dite_true]
  rw [vx]
  simp [hl]
theorem q6(hd:(d==sysModules)=false)(dflt:Value):
  MeetsIn prog w (Builtin.«dict.pop» ⟨[.ref d,.ref a,dflt], []⟩) (fun A R s=>knd.room A.in1∧∃k xs,knd.is s.heap k a∧s.heap.DictOfH knd d xs∧xs.length≤sizeLine∧
   (xs= []→R (.ok (.ret dflt)) s)∧(atKey xs k=none→R (.ok (.ret dflt)) {s with toks:=s.toks+knd.draws k})∧
   ∀p,atKey xs k=some p→∀h',h'.DictOfH knd d (xs.filter fun x=>decide (x.1≠k))→bU d s.heap h'→R (.ok (.ret p.2)) {s with heap:=h',toks:=s.toks+knd.draws k}):=
 .of_wp fun A R s ⟨hu,k,xs,mf,hm,wY,h0,h1,h2⟩=>by
  refine CJ (id hm) fun o es ep ho hc U1 he V9 hn=>?_
  unfold Builtin.«dict.pop»
  refine wpAny_bind ?_
  unfold Builtin.Dict.keyAndDefault
  refine wpAny_bind (wpAny_notOrdered_dict hm.typeIs ?_)
  refine(?_:wpAny _ _ (pure (d,Value.ref a,some dflt)) _ _ s)
  refine wpAny_pure ?_
  dsimp only
  rw [show(keyPart (Value.ref a)).isSome=false from rfl]
  simp only [lM,if_false]
  refine wpAny_bind (wpAny_dictEntries ho U1 (wpAny_bind (wpAny_pure ?_)))
  have V1:es.isEmpty=xs.isEmpty:=by
   have:=size_of_entries he
   induction xs with
   |nil=>simp at this;simp [this]
   |cons x r=>simp at this;rw [u7.mpr];rfl;exact⟨es[0],by simp⟩
  refine V1.symm▸?_
  induction xs with
  |nil=>
   simp only [List.isEmpty_nil,if_true]
   refine wpAny_bind (wpAny_rule (wpAny_bind (wpAny_pure ?_)))
   simp only [Jy,if_true]
   exact wpAny_bind (wpAny_missedRemoval_other hd (wpAny_bind (wpAny_rule (wpAny_pure (dG dflt rfl (h0 rfl))))))
  |cons x r=>
   simp only [List.isEmpty_cons,lM,if_false]
   refine wpAny_bind (wj hu mf hm (fun Wn=>?_) (fun p e hp hv h' Ce rk=>?_) wY)
   ·simp only [Jy,if_true]
    exact wpAny_bind (wpAny_missedRemoval_other hd (wpAny_bind (wpAny_rule (wpAny_pure (dG dflt rfl (h1 Wn))))))
   ·simp only [Option.isNone_some,lM,if_false]
    exact wpAny_bind (wpAny_letGo (wpAny_pure ⟨e.val,rfl,by refine hv.symm▸?_;exact h2 p hp h' Ce rk⟩))
end
theorem pk(G:gj g)(h:g.fb.objs.size≤a):(a==sysModules)=false:=by
 induction e:a==sysModules with
 |false=>rfl
 |true=>rw [beq_iff_eq.mp e] at h;exact absurd G.UH (cg.mpr h)
noncomputable def keyOf:V→Option Str
 | .tup [.str k,.none]=>some k
 |_=>none
theorem tP(h:keyOf v=some k):v= .tup [.str k,.none]:=by
 induction v using V.casesOn with
 |tup l=>induction l using ky with
  |nil=>exact nn h
  |cons a l=>induction a using V.casesOn with
   |str x=>induction l using ky with
    |nil=>exact nn h
    |cons b l=>induction b using V.casesOn with
     |none=>induction l using ky with
      |nil=>exact congrArg (fun x=>V.tup [.str x,.none]) (Option.some.inj h)
      |cons=>exact nn h
     |_=>exact nn h
   |_=>exact nn h
 |_=>exact nn h
theorem qR(h:bu g S (.tup [.str k,.none]) r):∃a,r= .ref a∧(ug g.prog g.w).is S.h [some k,none] a:=by
 apply JZ h
 intro _ _ _ _ e hf hc hd rs
 exact dG _ rfl (key_is (.tup e hf hc hd rs))
theorem RS.UI(R:RS g S s)(hx:S.H.get x=some (.cI es))(hl:h'.DictOfH (ug g.prog g.w) (S.ρ x) xs)(hs:bU (S.ρ x) S.h h')(hv:iQ g S us xs)(t:Nat):
  RS g ⟨S.H.set x (.cI us),S.ρ,S.δ,h'⟩ {s with heap:=h',toks:=t}∧Ext S ⟨S.H.set x (.cI us),S.ρ,S.δ,h'⟩ (X0 g):=
 R.change (x:=x) (o':= .cI us) (h':=h') (by intro h;rw [hx] at h;exact G2 h) (fun b h1 _ o e=>(hs.2 b h1).trans e) hs.1 (fun E'=>(dG xs hl (hv.ext E'))) t
theorem RS.Sg(R:RS g S s)(hx:S.H.get x=some (.aU es))(hl:h'.DictOf (PySem.strKind g.prog g.w) (S.ρ x) xs)(hs:bU (S.ρ x) S.h h')(hv:gn g S us xs)(t:Nat):
  RS g ⟨S.H.set x (.aU us),S.ρ,S.δ,h'⟩ {s with heap:=h',toks:=t}∧Ext S ⟨S.H.set x (.aU us),S.ρ,S.δ,h'⟩ (X0 g):=
 R.change (x:=x) (o':= .aU us) (h':=h') (by intro h;rw [hx] at h;exact G2 h) (fun b h1 _ o e=>(hs.2 b h1).trans e) hs.1 (fun E'=>(dG xs hl (hv.ext E'))) t
theorem RS.WO(R:RS g S s)(hx:S.H.get x=some (.et es))(hl:h'.DictOf (intKind g.prog g.w) (S.ρ x) xs)(hs:bU (S.ρ x) S.h h')(hv:jP g S us xs)(t:Nat):
  RS g ⟨S.H.set x (.et us),S.ρ,S.δ,h'⟩ {s with heap:=h',toks:=t}∧Ext S ⟨S.H.set x (.et us),S.ρ,S.δ,h'⟩ (X0 g):=
 R.change (x:=x) (o':= .et us) (h':=h') (by intro h;rw [hx] at h;exact G2 h) (fun b h1 _ o e=>(hs.2 b h1).trans e) hs.1 (fun E'=>(dG xs hl (hv.ext E'))) t
def wQ(v:V)(vs:List V):M V:=fun H=>match v,vs with
 | .ref x, [k,d]=>(match H.get x,keyOf k with
  |some (.cI es),some k=>some ((lJ es k).getD d,H)
  |_,_=>none)
 |_,_=>none
theorem Q2(G:gj g):BM g "dict.get" wQ:=by
 intro A S s hu R v vs ov rs hv EU u H' hm
 unfold wQ at hm
 revert hm
 refine QK fun x k d cj u6=>YT fun es k' hx hk hm=>?_
 subst cj
 subst u6
 apply pe hm
 haveI jM:=tP hk
 subst jM
 apply iR hv
 intro hd
 apply jT EU
 intro _ _ DY hn
 cases hn with
 |cons Yq hn=>
  cases hn
  refine aS (qR DY) fun a cj Lw=>?_
  subst cj
  refine aS (R.rep.obj x _ hx) fun xs hD hT=>?_
  refine Runs.cu R R.cP fun E Q q=>?_
  refine call_meetsIn PySem.F.slot_dict_get (Ss.typeIs (s:=s) (by rw [R.heap];exact hD)) PySem.F.entry_dict_get (PySem.F.args_dict_get_3 _ _ _) (meetsH_dict_get_default (ug g.prog g.w) _ a (pk G (R.rep.low x hd).1) _) ⟨?_,_,xs,by rw [R.heap];exact Lw,by rw [R.heap];exact hD,?_⟩
  ·refine(?_:A.units+1<cLine)
   rw [show cLine=9900 from rfl];lia
  ·refine q _ _ ⟨rfl,?_⟩
   rcases hT.get k' with⟨a1,a2⟩|⟨v',a',r',a1,a2,vr⟩
   ·rw [a1,a2];exact Yq
   ·rw [a1,a2];exact vr
def G5(v:V)(vs:List V):M V:=fun H=>match v,vs with
 | .ref x, [k,d]=>(match H.get x,keyOf k with
  |some (.cI es),some k=>if es.length≤1000000 then(match lJ es k with
   |some u=>some (u,H.set x (.cI (CF es k)))
   |none=>none) else none
  |_,_=>none)
 |_,_=>none
theorem OH(G:gj g):BM g "dict.pop" G5:=by
 intro A S s hu R v vs ov rs hv EU u H' hm
 unfold G5 at hm
 revert hm
 refine QK fun x k d cj u6=>YT fun es k' hx hk=>EX fun hlen=>oM fun u' DY hm=>?_
 subst cj
 subst u6
 apply pe hm
 haveI jM:=tP hk
 subst jM
 apply iR hv
 intro hd
 apply jT EU
 intro _ _ WH hn
 cases hn with
 |cons Yq hn=>
  cases hn
  refine aS (qR WH) fun a cj Lw=>?_
  subst cj
  refine aS (R.rep.obj x _ hx) fun xs hD hT=>?_
  rcases hT.get k' with⟨a1,a2⟩|⟨v',a',r',a1,a2,vr⟩
  ·replace DY:=(a1)▸DY;cases DY
  ·replace DY:=(a1)▸DY;cases DY
   intro E
   refine call_meetsIn PySem.F.slot_dict_pop (Ss.typeIs (s:=s) (by rw [R.heap];exact hD)) PySem.F.entry_dict_pop (PySem.F.args_dict_pop_3 _ _ _) (q6 (knd:=ug g.prog g.w) (pk G (R.rep.low x hd).1) _)
    ⟨?_,_,xs,by rw [R.heap];exact Lw,by rw [R.heap];exact hD,?_,?_,?_,?_⟩
   ·refine(?_:A.units+1<cLine)
    rw [show cLine=9900 from rfl];lia
   ·have:=hT.length;rw [sizeLine_eq];lia
   ·intro h;subst h;cases a2
   ·intro h;replace h:=(a2)▸h;cases h
   ·intro p hp h' JP rk
    replace hp:=(a2)▸hp;cases hp
    refine cQ (R.UI (us:=CF es k') hx JP (R.heap▸rk) (hT.del k') (s.toks+(ug g.prog g.w).draws [some k',none])) fun R' E'=>?_
    exact iq _ R' E' rfl (vr.ext E')
def Ex(v:V)(vs:List V):M V:=fun H=>match v,vs with
 | .ref x, []=>(match H.get x with
  |some (.aU es)=>if es.length≤1000000 then some (.none,H.set x (.aU [])) else none
  |_=>none)
 |_,_=>none
theorem L0:BM g "dict.clear" Ex:=by
 intro A S s hu R v vs ov rs hv EU u H' hm
 unfold Ex at hm
 revert hm
 refine QJ fun x cj u6=>oS fun es hx=>EX fun hlen hm=>?_
 subst cj
 subst u6
 apply pe hm
 apply iR hv
 intro hd
 apply qK EU;intros
 refine aS (R.rep.obj x _ hx) fun fe hD hF=>?_
 intro E
 refine call_meetsIn PySem.F.slot_dict_clear (Ar.typeIs (s:=s) (by rw [R.heap];exact hD)) PySem.F.entry_dict_clear (PySem.F.args_dict_clear_1 _) (meets_dict_clear (PySem.strKind g.prog g.w) _)
  ⟨fe,by rw [R.heap];exact hD,by have:=hF.length;refine sizeLine_eq.symm▸?_;lia,fun h' JP rk=>?_⟩
 refine cQ (R.Sg (us:= []) hx JP (R.heap▸rk) .nil s.toks) fun R' E'=>?_
 exact iq _ R' E' rfl .none
def i8(fs:List (Fd×V))(gs:List (Fd×V)):List (Fd×V):=gs.foldl (fun acc p=>jB acc p.1 p.2) fs
theorem gn.merged(h':gn g S gs more):∀{fs:List (Fd×V)} {fe:List (Str×Value)},gn g S fs fe→gn g S (i8 fs gs) (merged fe more):=by
 induction h' with
 |nil=>intro fs fe h;exact h
 | @cons f v r gs more a _ ih=>intro fs fe h;exact ih (h.set a)
def uO(v:V)(vs:List V):M V:=fun H=>match v,vs with
 | .ref x, [.ref y]=>if x=y then none else(match H.get x,H.get y with
  |some (.aU fs),some (.aU gs)=>if fs.length+gs.length≤1000000 then some (.none,H.set x (.aU (i8 fs gs))) else none
  |_,_=>none)
 |_,_=>none
theorem Kv(G:gj g):BM g "dict.update" uO:=by
 intro A S s hu R v vs ov rs hv EU u H' hm
 unfold uO at hm
 revert hm
 refine Y7 fun x y cj u6=>ifn fun hxy=>oSS fun fs gs hx hy=>EX fun hlen hm=>?_
 subst cj
 subst u6
 apply pe hm
 apply iR hv
 intro hd
 apply jT EU
 intro _ _ WH hn
 cases hn
 cases WH with
 |ref hd2=>
  refine aS (R.rep.obj x _ hx) fun fe hD hF=>?_
  refine aS (R.rep.obj y _ hy) fun more ZC XY=>?_
  intro E
  refine call_meetsIn PySem.F.slot_dict_update (Ar.typeIs (s:=s) (by rw [R.heap];exact hD)) PySem.F.entry_dict_update (PySem.F.args_dict_update_2 _ _) (meets_dict_update (PySem.strKind g.prog g.w) _ _ (R.rep.apart x y hd hd2 hxy).1 (pk G (R.rep.low y hd2).1))
   ⟨fe,more,by rw [R.heap];exact hD,by refine R.heap.symm▸?_;exact ZC,by have:=hF.length;have:=XY.length;refine sizeLine_eq.symm▸?_;lia,fun h' JP _ rk=>?_⟩
  refine cQ (R.Sg (us:=i8 fs gs) hx JP (R.heap▸rk) (XY.merged hF) s.toks) fun R' E'=>?_
  exact iq _ R' E' rfl .none
theorem kE(ho:SE g fr Lo o mo)(ha:SA g fr Lo args ma)
  (he:eval (.Call (.Attribute o "append" apos) args [] pos) fr.env=(do
   let ov←eval o fr.env
   standAt apos.atName
   let(f,first)←holding [ov] (getMethod ov "append" pl)
   callWith pos f first (backTo pos (starEach args fr.env)) []):=by rfl):
  SE g fr Lo (.Call (.Attribute o "append" apos) args [] pos) (mo.d fun v=>(jo v).d fun _=>ma.d fun vs=>fQ v vs):=
 Io (T:= "list") (fun S s R v ov H' hv h=>Ew R hv h) PySem.F.plainAttrs_list slot_list_append PySem.F.type_list_append ho DJ ha he
theorem Tj(ho:SE g fr Lo o mo)(ha:SA g fr Lo args ma)
  (he:eval (.Call (.Attribute o "pop" apos) args [] pos) fr.env=(do
   let ov←eval o fr.env
   standAt apos.atName
   let(f,first)←holding [ov] (getMethod ov "pop" pl)
   callWith pos f first (backTo pos (starEach args fr.env)) []):=by rfl):
  SE g fr Lo (.Call (.Attribute o "pop" apos) args [] pos) (mo.d fun v=>(jo v).d fun _=>ma.d fun vs=>I4 v vs):=
 Io (T:= "list") (fun S s R v ov H' hv h=>Ew R hv h) PySem.F.plainAttrs_list PySem.F.slot_list_pop PySem.F.type_list_pop ho Q3 ha he
theorem Gx(ho:SE g fr Lo o mo)(ha:SA g fr Lo args ma)
  (he:eval (.Call (.Attribute o "extend" apos) args [] pos) fr.env=(do
   let ov←eval o fr.env
   standAt apos.atName
   let(f,first)←holding [ov] (getMethod ov "extend" pl)
   callWith pos f first (backTo pos (starEach args fr.env)) []):=by rfl):
  SE g fr Lo (.Call (.Attribute o "extend" apos) args [] pos) (mo.d fun v=>(jo v).d fun _=>ma.d fun vs=>rJ v vs):=
 Io (T:= "list") (fun S s R v ov H' hv h=>Ew R hv h) PySem.F.plainAttrs_list PySem.F.slot_list_extend PySem.F.type_list_extend ho Ku ha he
theorem JM(G:gj g)(ho:SE g fr Lo o mo)(ha:SA g fr Lo args ma)
  (he:eval (.Call (.Attribute o "get" apos) args [] pos) fr.env=(do
   let ov←eval o fr.env
   standAt apos.atName
   let(f,first)←holding [ov] (getMethod ov "get" pl)
   callWith pos f first (backTo pos (starEach args fr.env)) []):=by rfl):
  SE g fr Lo (.Call (.Attribute o "get" apos) args [] pos) (mo.d fun v=>(tC v).d fun _=>ma.d fun vs=>wQ v vs):=
 Io (T:= "dict") (fun S s R v ov H' hv h=>Ab R hv h) PySem.F.plainAttrs_dict PySem.F.slot_dict_get PySem.F.type_dict_get ho (Q2 G) ha he
theorem Ri(G:gj g)(ho:SE g fr Lo o mo)(ha:SA g fr Lo args ma)
  (he:eval (.Call (.Attribute o "pop" apos) args [] pos) fr.env=(do
   let ov←eval o fr.env
   standAt apos.atName
   let(f,first)←holding [ov] (getMethod ov "pop" pl)
   callWith pos f first (backTo pos (starEach args fr.env)) []):=by rfl):
  SE g fr Lo (.Call (.Attribute o "pop" apos) args [] pos) (mo.d fun v=>(tC v).d fun _=>ma.d fun vs=>G5 v vs):=
 Io (T:= "dict") (fun S s R v ov H' hv h=>Ab R hv h) PySem.F.plainAttrs_dict PySem.F.slot_dict_pop PySem.F.type_dict_pop ho (OH G) ha he
theorem OW(ho:SE g fr Lo o mo)(ha:SA g fr Lo args ma)
  (he:eval (.Call (.Attribute o "clear" apos) args [] pos) fr.env=(do
   let ov←eval o fr.env
   standAt apos.atName
   let(f,first)←holding [ov] (getMethod ov "clear" pl)
   callWith pos f first (backTo pos (starEach args fr.env)) []):=by rfl):
  SE g fr Lo (.Call (.Attribute o "clear" apos) args [] pos) (mo.d fun v=>(tC v).d fun _=>ma.d fun vs=>Ex v vs):=
 Io (T:= "dict") (fun S s R v ov H' hv h=>Ab R hv h) PySem.F.plainAttrs_dict PySem.F.slot_dict_clear PySem.F.type_dict_clear ho L0 ha he
theorem Mp(G:gj g)(ho:SE g fr Lo o mo)(ha:SA g fr Lo args ma)
  (he:eval (.Call (.Attribute o "update" apos) args [] pos) fr.env=(do
   let ov←eval o fr.env
   standAt apos.atName
   let(f,first)←holding [ov] (getMethod ov "update" pl)
   callWith pos f first (backTo pos (starEach args fr.env)) []):=by rfl):
  SE g fr Lo (.Call (.Attribute o "update" apos) args [] pos) (mo.d fun v=>(tC v).d fun _=>ma.d fun vs=>uO v vs):=
 Io (T:= "dict") (fun S s R v ov H' hv h=>Ab R hv h) PySem.F.plainAttrs_dict PySem.F.slot_dict_update PySem.F.type_dict_update ho (Kv G) ha he
noncomputable def qL(vs:List V)(k:Int):Option V:=if 0≤k then(if k<4000000 then vs[k.toNat]? else none) else if-4000000≤k∧-(vs.length:Int)≤k then vs[(k+vs.length).toNat]? else none
noncomputable def Ir(es:List (Int×V))(k:Int):Option V:=(es.find? fun p=>decide (p.1=k)).map (·.2)
noncomputable def Ha(es:List (Int×V))(k:Int)(v:V):List (Int×V):=if es.any (fun p=>decide (p.1=k)) then es.map (fun p=>if p.1=k then(p.1,v) else p) else es++ [(k,v)]
theorem jP.get(h:jP g S fs fe)(e:Ir fs f=some v):∃r,valueAt fe f=some r∧bu g S v r:=by
 induction h with
 |nil=>simp [Ir] at e
 | @cons f' v' r fs fe a _ ih=>
  unfold Ir at e ih
  rw [iK] at e
  by_cases hf:f'=f
  ·subst hf
   simp only [decide_true] at e
   apply so e
   exact dG r (by simp [valueAt]) a
  ·simp only [hf,decide_false] at e
   refine aS (ih e) fun r' p q=>?_
   exact dG r' (by simpa [valueAt,iK,hf] using p) q
theorem jP.any(h:jP g S fs fe)(f:Int):(fe.any fun kv=>decide (kv.1=f))=fs.any fun p=>decide (p.1=f):=by
 induction h with
 |nil=>rfl
 |cons a _ ih=>simp only [FW,ih]
theorem jP.append(h:jP g S fs fe)(a:bu g S v r):jP g S (fs++ [(f,v)]) (fe++ [(f,r)]):=by
 induction h with
 |nil=>exact .cons a .nil
 |cons b _ ih=>exact .cons b ih
theorem jP.put(h:jP g S fs fe)(a:bu g S v r):
  jP g S (fs.map fun p=>if p.1=f then(p.1,v) else p) (fe.map fun kv=>if kv.1=f then(kv.1,r) else kv):=by
 induction h with
 |nil=>exact .nil
 | @cons f' v' r' fs fe b _ ih=>
  by_cases hf:f'=f
  ·apply iH hf;simp only [bw,if_true];exact .cons a ih
  ·simp only [bw,if_neg hf];exact .cons b ih
theorem jP.set(h:jP g S fs fe)(a:bu g S v r):jP g S (Ha fs f v) (stored fe f r):=by
 unfold Ha stored
 rw [h.any f]
 split
 ·exact h.put a
 ·exact h.append a
theorem jP.length(h:jP g S fs fe):fe.length=fs.length:=by
 induction h with
 |nil=>rfl
 |cons _ _ ih=>simp [ih]
def fc(v i:V):M V:=fun H=>match i with
 | .int k=>(match v with
  | .tup vs=>(match qL vs k with
   |some u=>some (u,H)
   |none=>none)
  | .lst vs=>(match qL vs k with
   |some u=>some (u,H)
   |none=>none)
  | .ref x=>(match H.get x with
   |some (.list vs)=>(match qL vs k with
    |some u=>some (u,H)
    |none=>none)
   |some (.et es)=>(match Ir es k with
    |some u=>some (u,H)
    |none=>none)
   |_=>none)
  |_=>none)
 |i=>(match v,keyOf i with
  | .ref x,some k=>(match H.get x with
   |some (.cI es)=>(match lJ es k with
    |some u=>some (u,H)
    |none=>none)
   |_=>none)
  |_,_=>none)
def LK(A:Around)(s:Shared)(o i:Value)(P:Value→Prop):Prop:=
 (∃T id,s.TypeIs o T∧typeLookup (.type T) "__getitem__"=pure (some (.builtin id)))∧∀E Q,(∀r tk,P r→Q r {s with toks:=tk})→wpAny (Mo g) A (getItem o i) Q E s
theorem MI{items:Array Value}(h:dq g S vs items.toList)(e:qL vs k=some u):
  ∃x,bu g S u x∧-(2^63)≤k∧k<2^63∧((0≤k∧items[k.toNat]? =some x)∨(k<0∧-(items.size:Int)≤k∧items[(k+items.size).toNat]? =some x))∧∃j,seqIndex? k items.size=some j∧items[j]? =some x:=by
 have hz:items.size=vs.length:=by simpa using h.length
 unfold qL at e
 split at e
 ·rename_i h0
  split at e
  ·refine aS (h.get e) fun r a b=>?_
   replace a:=(eU)▸a
   have:=(j2.mp a).1
   refine⟨r,b,by lia,by lia,.inl ⟨h0,a⟩,k.toNat,?_,a⟩
   unfold seqIndex?
   have h1:¬k<0:=by lia
   simp only [h1,if_false]
   rw [if_pos]
   simp;lia
  ·exact nn e
 ·rename_i h0
  split at e
  ·rename_i h1
   refine aS (h.get e) fun r a b=>?_
   (replace a:=(eU)▸a;replace a:=hz.symm▸a)
   refine⟨r,b,by lia,by lia,.inr (fM (by lia) (by lia) a),(k+items.size).toNat,?_,a⟩
   unfold seqIndex?
   have h2:k<0:=by lia
   simp only [h2,if_true]
   rw [if_pos]
   simp;lia
  ·exact nn e
theorem Pf(hu:A.units+20≤9000)(G:gj g)(R:RS g S s)(hv:bu g S v o)(hi:bu g S i j)(hm:fc v i S.H=some (u,H')):
  H'=S.H∧LK (g:=g) A s o j fun r=>bu g S u r:=by
 have lst:∀{a:Addr} {ob:Obj} {vs:List V} {xs:Array Value} {n:Nat} {k:Int} {t:Tok} {u:V},S.h.get? a=some ob→ob.cls= .type "list"→ob.data= .seq xs n→dq g S vs xs.toList→qL vs k=some u→LK (g:=g) A s (.ref a) (.int k t) fun r=>bu g S u r:=fun {a ob vs xs n k t u} e hc hd rs hk=>by
  refine xS (MI rs hk) fun x hx l1 l2 h3 _=>?_
  have hl:s.heap.IsList a xs:=⟨ob,by refine R.heap.symm▸?_;exact e,hc,_,hd⟩
  refine iN ⟨"list",_,hl.typeIs,slot_list_getitem.lookup⟩ (fun E Q q=>?_)
  rcases h3 with⟨h0,h1⟩|⟨h0,h1,h2⟩
  ·exact wpAny_getItem_list hl h0 l2 h1 (q x s.toks hx)
  ·exact wpAny_getItem_list_neg hl h0 h1 l1 h2 (q x s.toks hx)
 unfold fc at hm
 revert hm;refine vInt (fun k cj hm=>?_) fun hm=>?_
 ·subst cj
  apply yX hi;intros
  induction v using V.casesOn with
  |tup vs=>
   revert hm;refine oM fun u' hk hm=>?_
   apply pe hm
   apply JZ hv
   intro _ _ _ _ e hf hc hd rs
   obtain⟨x,hx,l1,l2,_,j,h3,h4⟩:=MI rs hk
   have ht:IsTup s.heap _ _:=⟨_,by rw [R.heap];exact e,hc,_,hd⟩
   exact fM rfl ⟨"tuple",_,ht.typeIs,PySem.F.slot_tuple_getitem.lookup⟩ (fun E Q q=>getItem_tuple ht l1 l2 h3 h4 (q x s.toks hx))
  |lst vs=>
   revert hm;refine oM fun u' hk hm=>?_
   apply pe hm
   apply JY hv
   intro _ _ _ _ e hf hc hd rs
   exact iN rfl (lst e hc hd rs hk)
  |ref x=>
   apply iR hv
   intro Om
   replace hm:(match S.H.get x with
    |some (.list vs)=>(match qL vs k with
     |some u=>some (u,S.H)
     |none=>none)
    |some (.et es)=>(match Ir es k with
     |some u=>some (u,S.H)
     |none=>none)
    |_=>none)=some (u,H'):=hm
   generalize hx:S.H.get x=ob at hm
   induction ob using j1 with
   |none=>exact nn hm
   |some ob=>induction ob using ib.casesOn with
    |list vs=>
     revert hm;refine oM fun u' hk hm=>?_
     apply pe hm
     refine aS (R.rep.obj _ _ hx) fun items cj rs=>?_
     refine dh (cj) fun n e=>?_
     exact iN rfl (lst e rfl rfl rs hk)
    |et es=>
     revert hm;refine oM fun u' hk hm=>?_
     apply pe hm
     refine aS (R.rep.obj _ _ hx) fun fe hD hI=>?_
     refine aS (hI.get hk) fun r h1 h2=>?_
     replace hD:=R.heap.symm▸hD
     exact fM rfl ⟨"dict",_,hD.typeIs,slot_dict_getitem.lookup⟩ (fun E Q q=>wpAny_getItem_of (by simp [intKind,Value.isInt]) hD.mapOf h1 (q r _ h2))
    |_=>exact nn hm
  |_=>exact nn hm
 ·revert hm;refine vRK fun x k cj hk=>oT fun es hx=>oM fun u' DY hm=>?_
  subst cj
  haveI jM:=tP hk
  subst jM
  apply iR hv
  intro Om
  apply pe hm
  refine aS (qR hi) fun a cj Lw=>?_
  apply iH cj
  refine aS (R.rep.obj _ _ hx) fun xs hD hT=>?_
  rw [←R.heap] at hD Lw
  rcases hT.get k with⟨a1,a2⟩|⟨v',a',r',a1,a2,vr⟩
  ·replace DY:=(a1)▸DY;exact nn DY
  ·replace DY:=(a1)▸DY;apply so DY
   exact fM rfl ⟨"dict",_,hD.typeIs,slot_dict_getitem.lookup⟩ (fun E Q q=>wpAny_getItem_heap (show A.units+1<cLine from by refine(ah (show cLine=9900 from rfl))▸?_;lia) Lw hD a2 (q r' _ vr))
theorem gK(G:gj g)(ho:SE g fr Lo o mo)(hi:SE g fr Lo i mi)(hs:∀x y,subscripted i false x y=operate [x,y] (getItem x y):=by intros;rfl):
  SE g fr Lo (.Subscript o i pos) (mo.d fun v=>mi.d fun k=>fc v k):=by
 intro A S s hA R F v' H' hm
 intro E
 refine Subscript_ (ho.go hA R F hm E fun x bJ br v aD bA hx hm=>?_)
 refine hi.go hA aD (F.ext R bA) hm E fun y gQ eh k bf cK hy h3=>?_
 obtain⟨rfl,⟨T,id,hT,hl⟩,hg⟩:=Pf (A:=A) (by have:=hA.2.1;lia) G bf (hx.ext cK) hy h3
 exact tail_any hT hl (hg E _ fun r tk hr=>⟨eh,bf.toks tk,bA.trans cK,rfl,hr⟩) (hs x y)
def itemF(v:V)(f:Fd):M V:=fun H=>match v with
 | .ref x=>(match H.get x with
  |some (.aU fs)=>(match il fs f with
   |some u=>some (u,H)
   |none=>none)
  |_=>none)
 |_=>none
theorem D2(h:itemF v f H=some (u,H')):∃x fs,v= .ref x∧H.get x=some (.aU fs)∧il fs f=some u∧H'=H:=by
 unfold itemF at h
 revert h;refine DE fun x q=>oS fun fs hx=>oM fun u' hu h=>?_
 apply pe h;exact zG _ _ q hx hu rfl
theorem isStrOf_self(x:Str)(t:Tok):Value.isStrOf x (.str x t)=true:=by simp [Value.isStrOf]
theorem bo(f:Fd)(ho:SE g fr Lo o mo)(hf:f.s=x:=by rfl):SE g fr Lo (.Subscript o (.Constant (.str x) k p) pos) (mo.d fun v=>itemF v f):=by
 intro A S s hA R F v' H' hm
 subst hf
 intro E
 refine Subscript_ (ho.go hA R F hm E fun x bJ br v aD bA hx h2=>?_)
 refine sO (D2 h2) fun x fs cj hg hu u6=>?_
 subst cj
 apply iH u6
 apply iR hx
 intro hd
 refine aS (aD.rep.obj _ _ hg) fun fe hD hF=>?_
 refine aS (hF.get hu) fun r h3 h4=>?_
 refine Constant_str ?_
 replace hD:=aD.heap.symm▸hD
 refine tail_any (Ar.typeIs (s:={bJ with toks:=bJ.toks+1}) hD) slot_dict_getitem.lookup (wpAny_getItem_of (s:={bJ with toks:=bJ.toks+1}) (knd:=PySem.strKind g.prog g.w) (isStrOf_self f.s bJ.toks) hD.mapOf h3 (iq br (aD.toks _) bA rfl h4)) rfl
def b0(v:V)(f:Fd)(u:V):M Unit:=fun H=>match v with
 | .ref x=>(match H.get x with
  |some (.aU fs)=>if fs.length≤500 then some ((),H.set x (.aU (jB fs f u))) else none
  |_=>none)
 |_=>none
theorem Fx(h:b0 v f u H=some ((),H')):∃x fs,v= .ref x∧H.get x=some (.aU fs)∧fs.length≤500∧H'=H.set x (.aU (jB fs f u)):=by
 unfold b0 at h
 revert h;refine DE fun x q=>oS fun fs hx=>EX fun hl h=>?_
 cases h;exact zG _ _ q hx hl rfl
theorem Kd(R:RS g S s)(hv:bu g S v o)(hu:bu g S u y)(hm:b0 v f u S.H=some ((),H')):
  Runs g (X0 g) A (setItem o (.str f.s t) y) S s fun S' _=>S'.H=H':=by
 refine sO (Fx hm) fun x fs cj hg hl u6=>?_
 subst cj
 apply iH u6
 apply iR hv
 intro hd
 refine aS (R.rep.obj _ _ hg) fun fe hD hF=>?_
 intro E
 refine wpAny_setItem_pairs (knd:=PySem.strKind g.prog g.w) (isStrOf_self f.s t) (by rw [R.heap];exact hD) (fun h' JP rk=>?_) (by have:=hF.length;refine sizeLine_eq.symm▸?_;lia)
 refine cQ (R.Sg (us:=jB fs f u) hg JP (R.heap▸rk) (hF.set hu) (s.toks+1)) fun R' E'=>?_
 exact jc _ R' E' rfl
theorem mH(f:Fd)(hv:SE g fr Lo value mv)(ho:SE g fr Lo o mo)(hf:f.s=x:=by rfl)
  (hs:swapsWith value (some (.Subscript o (.Constant (.str x) k p) tp)) pos.line fr.env=pure false:=by rfl):SX g fr Lo (.Assign [.Subscript o (.Constant (.str x) k p) tp] value pos) (mv.d fun u=>mo.d fun v=>b0 v f u):=by
 intro A S s hA R F H' hm
 apply sb hf
 intro E
 refine wpAny_Assign_Subscript (hv.go hA R F hm E fun y bJ br u aD bA hy hm=>?_) hs
 refine ho.go hA aD (F.ext R bA) hm E fun r gQ eh v bf cK hr c=>?_
 refine Constant_str ?_
 exact FG (Kd (bf.toks _) hr (hy.ext cK) c E) (fun _ iT fw dp gm e3=>(iq fw dp ((bA.trans cK).trans gm) e3 rfl))
def mD(v i u:V):M Unit:=fun H=>match v with
 | .ref x=>(match H.get x,i with
  |some (.et es),.int k=>if es.length≤1000000 then some ((),H.set x (.et (Ha es k u))) else none
  |some (.cI es),i=>(match keyOf i with
   |some k=>if es.length≤1000000 then some ((),H.set x (.cI (yH es k u))) else none
   |none=>none)
  |_,_=>none)
 |_=>none
theorem Fy(h:mD v i u H=some ((),H')):(∃x es k,v= .ref x∧i= .int k∧H.get x=some (.et es)∧es.length≤1000000∧H'=H.set x (.et (Ha es k u)))∨
  ∃x es k,v= .ref x∧i= .tup [.str k,.none]∧H.get x=some (.cI es)∧es.length≤1000000∧H'=H.set x (.cI (yH es k u)):=by
 unfold mD at h
 revert h;refine DE fun x q h=>?_
 generalize hx:H.get x=o at h
 induction o using j1 with
 |none=>exact nn h
 |some o=>induction o using ib.casesOn with
  |et es=>induction i using V.casesOn with
   |int k=>revert h;refine EX fun hl h=>?_;cases h;exact .inl (Pd _ _ _ q rfl hx hl rfl)
   |_=>exact nn h
  |cI es=>revert h;refine oMs fun k hk=>EX fun hl h=>?_;cases h;exact .inr (Pd _ _ _ q (tP hk) hx hl rfl)
  |_=>exact nn h
theorem Jg(DY:A.units+20≤9000)(R:RS g S s)(hv:bu g S v o)(hi:bu g S i j)(hu:bu g S u y)(hm:mD v i u S.H=some ((),H')):
  Runs g (X0 g) A (setItem o j y) S s fun S' _=>S'.H=H':=by
 rcases Fy hm with⟨x,es,k,rfl,rfl,hg,hl,rfl⟩|⟨x,es,k,rfl,rfl,hg,hl,rfl⟩
 ·apply iR hv
  intro hd
  apply yX hi
  intro t
  refine aS (R.rep.obj _ _ hg) fun fe hD hF=>?_
  intro E
  refine wpAny_setItem_pairs (knd:=intKind g.prog g.w) (k:=k) (by simp [intKind,Value.isInt]) (by rw [R.heap];exact hD) (fun h' JP rk=>?_) (by have:=hF.length;rw [sizeLine_eq];lia)
  refine cQ (R.WO (us:=Ha es k u) hg JP (R.heap▸rk) (hF.set hu) (s.toks+1)) fun R' E'=>?_
  exact jc _ R' E' rfl
 ·apply iR hv
  intro hd
  refine aS (qR hi) fun a cj Lw=>?_
  subst cj
  refine aS (R.rep.obj _ _ hg) fun xs hD hT=>?_
  intro E
  refine wpAny_setItem_heap (knd:=ug g.prog g.w) (show A.units+1<cLine from by rw [show cLine=9900 from rfl];lia) (by rw [R.heap];exact Lw) (by rw [R.heap];exact hD) (fun h' JP rk=>?_) (by have:=hT.length;rw [sizeLine_eq];lia)
  refine cQ (R.UI (us:=yH es k u) hg JP (R.heap▸rk) (hT.set hi hu) (s.toks+(ug g.prog g.w).draws [some k,none])) fun R' E'=>?_
  exact jc _ R' E' rfl
theorem Ju(hv:SE g fr Lo value mv)(ho:SE g fr Lo o mo)(hi:SE g fr Lo i mi)
  (hs:swapsWith value (some (.Subscript o i tp)) pos.line fr.env=pure false:=by rfl):SX g fr Lo (.Assign [.Subscript o i tp] value pos) (mv.d fun u=>mo.d fun v=>mi.d fun k=>mD v k u):=by
 intro A S s hA R F H' hm
 intro E
 refine wpAny_Assign_Subscript (hv.go hA R F hm E fun y bJ br u aD bA hy hm=>?_) hs
 refine ho.go hA aD (F.ext R bA) hm E fun r gQ eh v bf cK hr hm=>?_
 refine hi.go hA bf ((F.ext R bA).ext aD cK) hm E fun z iT fw k dp gm hz d=>?_
 exact FG (Jg (A:=A) (by have:=hA.2.1;lia) dp (hr.ext gm) hz (hy.ext (cK.trans gm)) d E) (fun _ Jj Ax mI qC e4=>(iq Ax mI (((bA.trans cK).trans gm).trans qC) e4 rfl))
theorem A7(R:RS g S s)(O7:op= .Add∨op= .Sub)(ha:bu g S a x)(hb:bu g S b y)(hm:j4 op a b S.H=some (c,H')):
  Runs g (X0 g) A (inplaceOp op x y) S s fun S' r=>S'.H=H'∧bu g S' c r:=by
 rcases O7 with rfl|rfl
 ·apply ints_in ha hb hm;intro _ _ _ _ hm;apply pe hm;exact Runs.cu R R.cP fun E Q k=>PySem.AutoIntOps.iadd_0 (k _ _ ⟨rfl,.int _ _⟩)
 ·apply ints_in ha hb hm;intro _ _ _ _ hm;apply pe hm;exact Runs.cu R R.cP fun E Q k=>PySem.AutoIntOps.isub_0 (k _ _ ⟨rfl,.int _ _⟩)
theorem FU(G:gj g)(f:Fd)(ho:SE g fr Lo o mo)(hv:SE g fr Lo value mv)(O7:op= .Add∨op= .Sub)(hf:f.s=name:=by rfl):
  SX g fr Lo (.AugAssign (.Attribute o name tp) op value pos) (mo.d fun v=>(aE v f).d fun old=>mv.d fun d=>(j4 op old d).d fun u=>bb v f u):=by
 intro A S s hA R F H' hm
 subst hf
 intro E
 refine wpAny_AugAssign_AttributeAny (ho.go hA R F hm E fun x bJ br v aD bA hx hm=>?_)
 refine bs hm fun old bh h2 hm=>?_
 refine bs hm fun d dg h3 hm=>?_
 refine bs hm fun u iZ h4 h5=>?_
 refine h9 (AY G aD hx h2 true E) (fun y gQ eh bf cK e2 hy=>?_)
 subst e2
 refine h9 (hv A eh gQ hA bf ((F.ext R bA).ext aD cK) d dg h3 E) (fun z iT fw dp gm e3 hz=>?_)
 subst e3
 refine h9 (A7 dp O7 (hy.ext gm) hz h4 E) (fun w Jj Ax mI qC e4 hw=>?_)
 subst e4
 exact FG (BW G mI (((hx.ext cK).ext gm).ext qC) hw h5 E) (fun _ Jk Er xG En e5=>(iq Er xG ((((bA.trans cK).trans gm).trans qC).trans En) e5 rfl))
theorem GD(R:RS g S s)(hv:bu g S v o)(hm:itemF v f S.H=some (u,H')):
  Runs g (X0 g) A (getItem o (.str f.s t)) S s fun S' r=>S'.H=H'∧bu g S' u r:=by
 refine sO (D2 hm) fun x fs cj hg hu u6=>?_
 subst cj
 apply iH u6
 apply iR hv
 intro hd
 refine aS (R.rep.obj _ _ hg) fun fe hD hF=>?_
 refine aS (hF.get hu) fun r h3 h4=>?_
 rw [←R.heap] at hD
 exact Runs.cu R R.cP fun E Q q=>wpAny_getItem_of (knd:=PySem.strKind g.prog g.w) (isStrOf_self f.s t) hD.mapOf h3 (q r _ ⟨rfl,h4⟩)
theorem Sq(f:Fd)(ho:SE g fr Lo o mo)(hv:SE g fr Lo value mv)(O7:op= .Add∨op= .Sub)(hf:f.s=x:=by rfl):
  SX g fr Lo (.AugAssign (.Subscript o (.Constant (.str x) k p) tp) op value pos) (mo.d fun v=>(itemF v f).d fun old=>mv.d fun d=>(j4 op old d).d fun u=>b0 v f u):=by
 intro A S s hA R F H' hm
 subst hf
 intro E
 refine wpAny_AugAssign_SubscriptAny (ho.go hA R F hm E fun x bJ br v aD bA hx hm=>?_)
 refine Constant_str ?_
 refine bs hm fun old bh h2 hm=>?_
 refine bs hm fun d dg h3 hm=>?_
 refine bs hm fun u iZ h4 h5=>?_
 refine h9 (GD (aD.toks _) hx h2 E) (fun y gQ eh bf cK e2 hy=>?_)
 subst e2
 refine h9 (hv A eh gQ hA bf ((F.ext R bA).ext aD cK) d dg h3 E) (fun z iT fw dp gm e3 hz=>?_)
 subst e3
 refine h9 (A7 dp O7 (hy.ext gm) hz h4 E) (fun w Jj Ax mI qC e4 hw=>?_)
 subst e4
 exact FG (Kd mI (((hx.ext cK).ext gm).ext qC) hw h5 E) (fun _ Jk Er xG En e5=>(iq Er xG ((((bA.trans cK).trans gm).trans qC).trans En) e5 rfl))
def intsOf:List V→Option (List Int)
 | []=>some []
 |v::vs=>(int? v).bind fun i=>(intsOf vs).map (i::·)
theorem IF(h:dq g S vs rs)(e:intsOf vs=some is):IntsAre rs is:=by
 induction vs generalizing rs is with
 |nil=>apply qK h;cases e;exact .nil
 |cons v vs ih=>
  apply jT h
  intro r rs a b
  revert e;refine ob fun i e1 e2=>?_
  refine aS (ba.mp e2) fun r e3 q=>?_
  subst q
  obtain rfl:=Ae e1
  apply yX a;intro t;exact .cons _ _ (ih b e3)
def FZ(a b:V):M Bool:=fun H=>match listOf H b with
 |some []=>some (false,H)
 |some vs=>(match a,intsOf vs with
  | .int k,some is=>some (is.any (· ==k),H)
  |_,_=>none)
 |none=>(match b,keyOf a with
  | .ref x,some k=>(match H.get x with
   |some (.cI es)=>some ((lJ es k).isSome,H)
   |_=>none)
  |_,_=>none)
theorem IZ{K:Type}[DecidableEq K]{knd:HeapKind prog w K}{E:Value→Shared→Prop}{s:Shared}{d a:Addr}{k:K}{xs:List (K×Addr×Value)}{Q:Value→Shared→Prop}(hu:knd.room A.in1)(mf:knd.is s.heap k a)(hd:(d==sysModules)=false)(hm:s.heap.DictOfH knd d xs)
  (h:Q (.bool (!(atKey xs k).isSome)) {s with toks:=s.toks+knd.draws k}):wpAny (model prog w) A (compareOp .NotIn (.ref a) (.ref d)) Q E s:=by
 refine NotIn_slot hm.typeIs slot_dict_contains (wpAny_call_entry slot_dict_contains hm.typeIs entry_dict_contains ?_ (args_dict_contains _ _))
 refine(?_:wpAny _ _ (dictGet d (.ref a)>>=_) _ _ s)
 refine wpAny_bind (wpAny_dictGet_heap hu mf hm ?_)
 induction hf:atKey xs k with
 |some p=>
  rw [hf] at h
  refine(?_:wpAny _ _ (ret (.bool true)) _ _ _)
  exact wpAny_pure ⟨_,rfl,wpAny_truthy_bool h⟩
 |none=>
  replace h:=(hf)▸h
  refine(?_:wpAny _ _ (Builtin.Dict.pendingKey? d (.ref a)>>=_) _ _ _)
  exact wpAny_bind (wpAny_pendingKey_other hd (wpAny_pure (dG _ rfl (wpAny_truthy_bool h))))
theorem J0(hu:A.units+20≤9000)(G:gj g)(R:RS g S s)(ha:bu g S a x)(hb:bu g S b y)(hm:FZ a b S.H=some (c,H')):
  (Runs g (X0 g) A (compareOp .In x y) S s fun S' r=>S'.H=H'∧r= .bool c)∧(Runs g (X0 g) A (compareOp .NotIn x y) S s fun S' r=>S'.H=H'∧r= .bool (!c)):=by
 unfold FZ at hm
 split at hm
 ·rename_i hl
  apply pe hm
  refine xT (m3 R hb hl) fun l items o n cj e hc hd rs=>?_
  apply iH cj
  haveI h0:items= #[]:=by
   have:=rs.length
   simp at this;exact this
  subst h0
  haveI L:s.heap.IsList l #[]:=⟨o,by refine R.heap.symm▸?_;exact e,hc,_,hd⟩
  exact⟨Runs.cu R R.cP fun E Q k=>SeqInW.in_listW (fun _=>true) (fun y hy=>by simp at hy) L (k _ s.toks ⟨rfl,by simp⟩),Runs.cu R R.cP fun E Q k=>SeqInW.notIn_listW (fun _=>true) (fun y hy=>by simp at hy) L (k _ s.toks ⟨rfl,by simp⟩)⟩
 ·rename_i vs qH hl
  split at hm
  ·rename_i k is hi
   apply pe hm
   apply yX ha;intros
   refine xT (m3 R hb hl) fun l items o n cj e hc hd rs=>?_
   apply iH cj
   haveI hI:=IF rs hi
   haveI L:s.heap.IsList l items.toList.toArray:=⟨o,by refine R.heap.symm▸?_;exact e,hc,n,by(refine hd.symm▸?_;with_reducible rfl)⟩
   exact⟨Runs.cu R R.cP fun E Q k=>in_list_ints L hI (k _ s.toks ⟨rfl,rfl⟩),Runs.cu R R.cP fun E Q k=>notin_list_ints L hI (k _ s.toks ⟨rfl,rfl⟩)⟩
  ·exact nn hm
 ·split at hm
  ·rename_i x' k' Sx hk
   split at hm
   ·rename_i es hx
    apply pe hm
    haveI jM:=tP ‹_›
    subst jM
    apply iR hb
    intro Om
    refine aS (qR ha) fun a' cj Lw=>?_
    apply iH cj
    refine aS (R.rep.obj _ _ hx) fun xs hD hT=>?_
    rw [←R.heap] at hD Lw
    haveI hr:(ug g.prog g.w).room A.in1:=show A.units+1<cLine from by refine(ah (show cLine=9900 from rfl))▸?_;lia
    haveI he:(atKey xs [some k',none]).isSome=(lJ es k').isSome:=by
     rcases hT.get k' with⟨a1,a2⟩|⟨v',a',r',a1,a2,vr⟩<;>(refine a1.symm▸?_;refine a2.symm▸?_)<;>rfl
    exact⟨Runs.cu R R.cP fun E Q k=>wpAny_in_heap hr Lw (pk G (R.rep.low _ Om).1) hD (by refine he.symm▸?_;exact k _ _ ⟨rfl,rfl⟩),Runs.cu R R.cP fun E Q k=>IZ hr Lw (pk G (R.rep.low _ Om).1) hD (by refine he.symm▸?_;exact k _ _ ⟨rfl,rfl⟩)⟩
   ·exact nn hm
  ·exact nn hm
theorem VJ(G:gj g)(hl:SE g fr Lo l ml)(hr:SE g fr Lo r mr)(Ce:behindInMarks .In r=false:=by with_unfolding_all rfl):
  SE g fr Lo (.Compare l [.In] [r] pos) (ml.d fun a=>mr.d fun b=>(FZ a b).d fun c=>pU (.bool c)):=by
 intro A S s hA R F v H' hm
 intro E
 refine wpAny_Compare1 (hl.go hA R F hm E fun x bJ br a aD bA hx hm=>?_) Ce
 refine hr.go hA aD (F.ext R bA) hm E fun y gQ eh b bf cK hy hm=>?_
 refine bs hm fun c dg h3 hm=>?_
 apply pe hm
 exact h9 ((J0 (A:=A) (by have:=hA.2.1;lia) G bf (hx.ext cK) hy h3).1 E) (fun z iT fw dp gm e3 hz=>⟨fw,dp,(bA.trans cK).trans gm,e3,by refine hz.symm▸?_;exact .bool c⟩)
theorem OZ(G:gj g)(hl:SE g fr Lo l ml)(hr:SE g fr Lo r mr)(Ce:behindInMarks .NotIn r=false:=by with_unfolding_all rfl):
  SE g fr Lo (.Compare l [.NotIn] [r] pos) (ml.d fun a=>mr.d fun b=>(FZ a b).d fun c=>pU (.bool (!c))):=by
 intro A S s hA R F v H' hm
 intro E
 refine wpAny_Compare1 (hl.go hA R F hm E fun x bJ br a aD bA hx hm=>?_) Ce
 refine hr.go hA aD (F.ext R bA) hm E fun y gQ eh b bf cK hy hm=>?_
 refine bs hm fun c dg h3 hm=>?_
 apply pe hm
 exact h9 ((J0 (A:=A) (by have:=hA.2.1;lia) G bf (hx.ext cK) hy h3).2 E) (fun z iT fw dp gm e3 hz=>⟨fw,dp,(bA.trans cK).trans gm,e3,by refine hz.symm▸?_;exact .bool _⟩)
theorem Ta(G:gj g)(hl:SE g fr Lo l ml)(hr:SE g fr Lo r mr)(Ce:behindInMarks .In r=false:=by with_unfolding_all rfl):
  SB g fr Lo (.Compare l [.In] [r] pos) (ml.d fun a=>mr.d fun b=>FZ a b):=by
 intro A S s hA R F v H' hm
 intro E
 refine wpAny_isTrue_Compare1 (hl.go hA R F hm E fun x bJ br a aD bA hx hm=>?_) Ce
 refine hr.go hA aD (F.ext R bA) hm E fun y gQ eh b bf cK hy h3=>?_
 refine h9 ((J0 (A:=A) (by have:=hA.2.1;lia) G bf (hx.ext cK) hy h3).1 E) (fun z iT fw dp gm e3 hz=>?_)
 apply iH hz
 exact wpAny_truthy_bool ⟨fw,dp,(bA.trans cK).trans gm,e3,rfl⟩
theorem OG(G:gj g)(hl:SE g fr Lo l ml)(hr:SE g fr Lo r mr)(Ce:behindInMarks .NotIn r=false:=by with_unfolding_all rfl):
  SB g fr Lo (.Compare l [.NotIn] [r] pos) (ml.d fun a=>mr.d fun b=>(FZ a b).d fun c=>pU (!c)):=by
 intro A S s hA R F v H' hm
 intro E
 refine wpAny_isTrue_Compare1 (hl.go hA R F hm E fun x bJ br a aD bA hx hm=>?_) Ce
 refine hr.go hA aD (F.ext R bA) hm E fun y gQ eh b bf cK hy hm=>?_
 refine bs hm fun c dg h3 hm=>?_
 apply pe hm
 refine h9 ((J0 (A:=A) (by have:=hA.2.1;lia) G bf (hx.ext cK) hy h3).2 E) (fun z iT fw dp gm e3 hz=>?_)
 apply iH hz
 exact wpAny_truthy_bool ⟨fw,dp,(bA.trans cK).trans gm,e3,rfl⟩
def joinM(a b:V):M V:=fun H=>match listOf H a,listOf H b with
 |some vs,some us=>if vs.length+us.length≤1000000 then some (.lst (vs++us),H) else none
 |_,_=>none
theorem Rm(hl:SE g fr Lo l ml)(hr:SE g fr Lo r mr):SE g fr Lo (.BinOp l .Add r pos) (ml.d fun a=>mr.d fun b=>joinM a b):=by
 intro A S s hA R F v H' hm
 intro E
 refine wpAny_BinOp (hl.go hA R F hm E fun x bJ br a aD bA hx hm=>?_)
 refine hr.go hA aD (F.ext R bA) hm E fun y gQ eh b bf cK hy h3=>?_
 unfold joinM at h3
 revert h3
 refine oMM fun vs us hv hu=>EX fun hlen h3=>?_
 apply pe h3
 refine xT (m3 bf (hx.ext cK) hv) fun p items cj n u6 e hc hd rs=>?_
 obtain⟨cls,dd,data,sl⟩:=cj
 apply iH u6
 refine xT (m3 bf hy hu) fun q qm cj n2 u6 e' Rw hd2 YY=>?_
 obtain⟨Zh,Zi,data2,sl2⟩:=cj
 apply iH u6
 simp only at hc hd Rw hd2
 subst hc hd Rw hd2
 haveI z1:items.size=vs.length:=by simpa using rs.length
 haveI z2:qm.size=us.length:=by simpa using YY.length
 rw [←bf.heap] at e e'
 refine concat_meets ⟨_,e,rfl⟩ (dG _ e' rfl) noFill_list_add seq_list_add PySem.F.slot_list_add PySem.F.entry_list_add (PySem.F.args_list_add_2 _ _) (list_addW p q items qm n n2 dd Zi sl sl2 (by refine sizeLine_eq.symm▸?_;lia)) ⟨e,e',?_⟩
 refine cQ (bf.push {cls:= .type "list",data:= .seq (items++qm)} gQ.toks) fun R' E'=>?_
 refine bf.heap.symm▸?_
 refine iq _ R' ((bA.trans cK).trans E') rfl (.lst (bz _ rfl) (fun q=>bf.fm (az _) q) rfl rfl ?_)
 refine kB.symm▸?_
 exact(rs.append YY).ext E'
def EV(g:Gl)(fr:zw)(Lo:Lc)(e:Expr)(r:Value):Prop:=
 ∀A S s,RS g S s→Fits g fr Lo S→∀E Q,Q r s→wpAny (Mo g) A (eval e fr.env) Q E s
theorem Lr(G:gj g)(i:Nat)(hn:fr.env.scope.names[i]? =some (n,.globalImplicit))(h1:nsIn g.K mainGlobals n=some none)(h2:bootBuiltins n=some r)(h3:n≠ "__name__"):EV g fr Lo (.Name n pos) r:=by
 intro A S s R F E Q q
 refine Name_function_global F.kind (gk F.nm.once hn) ?_ (F.nm.Mf _ (aB hn)).1
 unfold loadGlobal
 (refine F.glob.symm▸?_;refine F.blt.symm▸?_)
 refine wpAny_bind ((looks_nsIn (M:=Mo g) (R.heap▸R.In G:g.K.In s.heap) h1).here ?_)
 refine aS (G.blt) fun mb cj hb=>?_
 refine CI (cj) fun o es ep e hr=>?_
 haveI A0:s.heap.Ns builtinsNs mb:=⟨o,es,ep,by refine R.heap.symm▸?_;exact R.old _ o e (fun q hq h=>(G.stat q hq).2.1 h.symm),hr⟩
 refine wpAny_bind (wpAny_nsGet A0 ?_)
 (refine(ah (hb n h3))▸?_;refine h2.symm▸?_)
 exact wpAny_pure q
def BF(g:Gl)(id:String)(f:List V→M V):Prop:=
 ∀A S s,rn 0 A→RS g S s→∀vs rs,dq g S vs rs→∀u H',f vs S.H=some (u,H')→Runs g (X0 g) A (call (.builtin id) rs) S s fun S' r=>S'.H=H'∧bu g S' u r
theorem CK{id:Str}{f:List V→M V}(hf:EV g fr Lo (.Name id p) (.builtin i))(hc:BF g i f)(ha:SA g fr Lo args ma):
  SE g fr Lo (.Call (.Name id p) args [] pos) (ma.d f):=by
 intro A S s hA R F v H' hm
 rw [arm_eval_Call_Name']
 intro E
 refine wpAny_bind (hf A S s R F E _ ?_)
 refine bs hm fun vs aG h1 h2=>?_
 refine jg hA R F ha h1 (fun S' s' R' _=>xa) (fun S' s' rs R' E' e sQ=>?_) E
 subst e
 exact hc A S' s' (hA.le (dM _)) R' vs rs sQ _ _ h2
def E9(vs:List V):M V:=fun H=>match vs with
 | [v]=>(match listOf H v with
  |some us=>if us.length≤4000000 then some (.int us.length,H) else none
  |none=>none)
 |_=>none
theorem xI:BF g "len" E9:=by
 intro A S s hA R vs rs EU u H' hm
 unfold E9 at hm
 revert hm
 refine v1 fun v cj=>YS fun us hl=>EX fun hlen hm=>?_
 subst cj
 apply pe hm
 apply jT EU
 intro _ _ hv hn
 apply qK hn;intros
 refine xT (m3 R hv hl) fun a items o n cj e hc hd rs=>?_
 apply iH cj
 have hz:items.size=us.length:=by simpa using rs.length
 refine Runs.cu R R.cP fun E Q q=>call_len_list ⟨o,by refine R.heap.symm▸?_;exact e,hc,n,hd⟩ (by omega) (q _ _ ⟨rfl,by rw [hz];exact .int _ _⟩)
theorem max2(hh:A.handled=none)
  (h:∀h' tk,(∀c o,s.heap.get? c=some o→h'.get? c=some o)→s.heap.objs.size≤h'.objs.size→Q (if b>a then .int b u else .int a t) {s with heap:=h',toks:=tk}):
  wpAny (model prog w) A (call (.builtin "max") [.int a t,.int b u]) Q E s:=by
 haveI S7:(s.heap.push {cls:= .type "tuple",data:= .seq #[.int a t,.int b u]}).get? s.heap.objs.size=some {cls:= .type "tuple",data:= .seq #[.int a t,.int b u]}:=bz _ rfl
 haveI hT:(s.heap.push {cls:= .type "tuple",data:= .seq #[.int a t,.int b u]}).IsTuple s.heap.objs.size (intItems #[(a,t),(b,u)]):=⟨_,S7,rfl,0,by simp [intItems]⟩
 refine call_max_two (wpAny_pyIter_tuple hT ?_)
 haveI wY:(s.heap.push {cls:= .type "tuple",data:= .seq #[.int a t,.int b u]}).objs.size=s.heap.objs.size+1:=eV ..
 haveI ne:s.heap.objs.size≠(s.heap.push {cls:= .type "tuple",data:= .seq #[.int a t,.int b u]}).objs.size:=by refine wY.symm▸?_;exact(gb (aW _))
 refine⟨_, [_,s.heap.objs.size], [_],_,_,_,_,rfl,Walks.tuple (A:=A.in1) hh _ s.heap.objs.size ne (intItems #[(a,t),(b,u)]),⟨⟨_,bz _ rfl,rfl,rfl⟩,hT.push _⟩,fun c hc=>?_,by simp [intItems],
  CmpOf.ints_gt (numAt #[(a,t),(b,u)]) (fun _ _=>intItems_at),fun v h' tk hP hk=>?_⟩
 ·refine(?_:c<((s.heap.push _).push _).objs.size)
  rw [eV,wY]
  simp only [bF,jf,or_false] at hc
  rcases hc with rfl|rfl
  ·refine wY.symm▸?_;exact aW _
  ·exact j0 (aW _)
 ·haveI keep:∀c o,c<s.heap.objs.size+1→(s.heap.push {cls:= .type "tuple",data:= .seq #[.int a t,.int b u]}).get? c=some o→h'.get? c=some o:=fun c o hc e=>by
   refine hk c o (fun hm=>?_) (aJ _ e)
   rw [aA] at hm
   subst hm
   rw [wY] at hc
   exact dZ _ hc
  haveI res:=h h' tk (fun c o e=>keep c o (j0 (bk e)) (aJ _ e)) (cY (bk (keep _ _ (aW _) S7)))
  haveI z2:(intItems #[(a,t),(b,u)]).size-1=1:=by simp [intItems]
  haveI UW:(intItems #[(a,t),(b,u)])[argBest (fun i j=>decide (numAt #[(a,t),(b,u)] i>numAt #[(a,t),(b,u)] j)) 1]? =some v:=by refine(z2)▸?_;exact hP
  haveI hv:v=if b>a then Value.int b u else Value.int a t:=by
   by_cases UY:b>a
   ·rw [show argBest (fun i j=>decide (numAt #[(a,t),(b,u)] i>numAt #[(a,t),(b,u)] j)) 1=1 from by simp [argBest,numAt,UY]] at UW
    simpa [intItems,UY] using UW.symm
   ·rw [show argBest (fun i j=>decide (numAt #[(a,t),(b,u)] i>numAt #[(a,t),(b,u)] j)) 1=0 from by simp [argBest,numAt,UY]] at UW
    simpa [intItems,UY] using UW.symm
  rw [hv];exact res
def PA(vs:List V):M V:=fun H=>(two? vs).bind fun p=>(int? p.1).bind fun a=>(int? p.2).bind fun b=>some (.int (if b>a then b else a),H)
theorem LZ:BF g "max" PA:=by
 intro A S s hA R vs rs EU u H' hm
 unfold PA at hm
 revert hm;refine ob fun p h0=>ob fun a h1=>ob fun b h2 hm=>?_
 obtain rfl:vs= [.int a,.int b]:=(FL h0).trans ((Ae h1)▸(Ae h2)▸rfl)
 apply pe hm
 apply jT EU
 intro _ _ ha hn
 apply jT hn
 intro _ _ hb hn
 cases hn
 cases ha with
 |int _ t=>
  cases hb with
  |int _ u=>
   intro E
   refine max2 hA.2.2 fun h' tk hk hs=>?_
   obtain⟨R',E'⟩:=R.quiet (X:=fun _=>False) (h':=h') (fun _ _ h=>h.elim) (fun _ h=>h.elim) (fun _ h=>h.elim) (fun _ h=>h.elim) (fun c o e _=>hk c o (by refine R.heap.symm▸?_;exact e)) (by refine(R.heap)▸?_;exact hs) tk
   refine iq _ R' (E'.widen (fun _ h=>h.elim) R.cP) rfl ?_
   split<;>exact .int _ _
def BZ(v:V):M V:=fun H=>match listOf H v with
 |some vs=>if vs.length≤4000000 then some (.lst (vs.take 1),H) else none
 |none=>none
def Gv(v k:V):M V:=fun H=>match listOf H v,k with
 |some vs,.int k=>if vs.length≤4000000∧0≤k then some (.lst (vs.drop k.toNat),H) else none
 |_,_=>none
theorem KH(h:Gv v k H=some (u,H')):∃vs k',listOf H v=some vs∧k= .int k'∧vs.length≤4000000∧0≤k'∧u= .lst (vs.drop k'.toNat)∧H'=H:=by
 unfold Gv at h
 revert h;refine oVI fun vs k' h1 h2=>EX fun hh h=>?_
 apply pe h;exact Ud _ _ h1 h2 hh.1 hh.2 rfl rfl
theorem Nw(items:Array Value):slicePick items none (some 1) none=(items.toList.take 1).toArray:=by
 by_cases h:1≤items.size
 ·exact slicePick_upto items 1 h
 ·haveI h0:items.size=0:=by lia
  haveI h1:=slicePick_size_le items none (some 1) none
  haveI h2:(slicePick items none (some 1) none).size=0:=by lia
  (refine(ah (zu h2))▸?_;refine(ah (zu h0))▸?_)
  rfl
theorem pick_from(items:Array Value)(k:Int)(h0:0≤k):slicePick items (some k) none none=(items.toList.drop k.toNat).toArray:=by
 refine dh (sC h0) fun a cj=>?_
 subst cj
 by_cases h:a≤items.size
 ·exact slicePick_from items a h
 ·haveI e:sliceBounds (some (a:Int)) none none items.size=((items.size:Int),(items.size:Int),1):=by
   simp only [sliceBounds,Option.getD_none]
   haveI h1:¬((a:Int)<0):=by lia
   simp only [h1,if_false,show(1:Int)>0 by decide,if_true]
   congr 1
   lia
  unfold slicePick
  refine e.symm▸?_
  simp only [sliceRange_one]
  rw [List.drop_eq_nil_of_le (by simp;exact Nat.le_of_not_le ‹_›)]
  simp
theorem He(R:RS g S s){p:Pos}{a:Addr}{items:Array Value}{o:Obj}{n:Nat}(e:S.h.get? a=some o)(hc:o.cls= .type "list")(hd:o.data= .seq items n)
  {vl vu:Value} {lo hi:Option Int} (pl:IsPart vl lo) (pu:IsPart vu hi) {us:List V} (hz:items.size≤4000000) (h:dq g S us (slicePick items lo hi none).toList):
  Runs g (X0 g) A (subscriptTail value (.Slice lower upper none p) (.ref a) (.ref S.h.objs.size)) ⟨S.H,S.ρ,S.δ,S.h.push {cls:= .type "slice",data:= .fields #[vl,vu,.none]}⟩ {s with heap:=S.h.push {cls:= .type "slice",data:= .fields #[vl,vu,.none]}} fun S' r=>S'.H=S.H∧bu g S' (.lst us) r:=by
 haveI hl:(S.h.push {cls:= .type "slice",data:= .fields #[vl,vu,.none]}).IsList a items:=SR.push ⟨o,e,hc,n,hd⟩ _
 intro E
 refine cQ (R.push {cls:= .type "slice",data:= .fields #[vl,vu,.none]} s.toks) fun R1 E1=>?_
 refine cQ (R1.push {cls:= .type "list",data:= .seq (slicePick items lo hi none)} s.toks) fun R2 E2=>?_
 refine tail_any (SR.typeIs (s:={s with heap:=S.h.push {cls:= .type "slice",data:= .fields #[vl,vu,.none]}}) hl) list_getitem_lookup (wpAny_getItem_list_slice hl (Heap.IsSliceOf.new ..) pl pu .none (by simp) ?_ (by refine sizeLine_eq.symm▸?_;exact ai ‹_› (by decide))) rfl
 exact iq _ R2 E2 rfl (.lst (bz _ rfl) (fun q=>R1.fm (az _) q) rfl rfl ((h.ext E1).ext E2))
theorem JN(ho:SE g fr Lo o mo):SE g fr Lo (.Subscript o (.Slice none (some (.Constant (.int 1) k q)) none p) pos) (mo.d BZ):=by
 intro A S s hA R F v' H' hm
 intro E
 refine Subscript_ (ho.go hA R F hm E fun x bJ br v aD bA hx h2=>?_)
 unfold BZ at h2
 revert h2
 refine YS fun vs hl=>EX fun hlen h2=>?_
 apply pe h2
 refine xT (m3 aD hx hl) fun a items ob n cj e hc hd rs=>?_
 apply iH cj
 have hz:items.size=vs.length:=by simpa using rs.length
 refine wpAny_Slice ?_
 rw [evalPart_none,evalPart_some]
 refine wpAny_pure (wpAny_Constant_int (wpAny_pure ?_))
 refine(?_:wpAny _ _ (subscriptTail _ _ _ (.ref bJ.heap.objs.size)) _ _ _)
 have Qc:=aD.toks (bJ.toks+1)
 rw [aD.heap]
 refine h9 (He (us:=vs.take 1) Qc e hc hd .none (.int 1 _) (by lia) (by rw [Nw];exact rs.take 1) E) (fun r gQ eh bf cK e2 hr=>(iq eh bf (bA.trans ((Qc.push {cls:= .type "slice",data:= .fields #[.none,.int 1 bJ.toks,.none]} bJ.toks).2.trans cK)) e2 hr))
theorem Rj(ho:SE g fr Lo o mo)(hi:SE g fr Lo i mi):SE g fr Lo (.Subscript o (.Slice (some i) none none p) pos) (mo.d fun v=>mi.d fun k=>Gv v k):=by
 intro A S s hA R F v' H' hm
 intro E
 refine Subscript_ (ho.go hA R F hm E fun x bJ br v aD bA hx hm=>?_)
 refine wpAny_Slice ?_
 rw [evalPart_some,evalPart_none]
 refine hi.go hA aD (F.ext R bA) hm E fun y gQ eh k bf cK hy h3=>?_
 refine wpAny_pure (wpAny_pure ?_)
 refine Rc (KH h3) fun vs k' hl cj hlen h0 u6 Xd=>?_
 subst cj
 apply iH u6
 apply iH Xd
 apply yX hy
 intro t
 refine xT (m3 bf (hx.ext cK) hl) fun a items ob n cj e hc hd rs=>?_
 apply iH cj
 have hz:items.size=vs.length:=by simpa using rs.length
 refine(?_:wpAny _ _ (subscriptTail _ _ _ (.ref gQ.heap.objs.size)) _ _ _)
 refine bf.heap.symm▸?_
 refine h9 (He (us:=vs.drop k'.toNat) bf e hc hd (.int k' t) .none (by lia) (by refine(ah (pick_from _ _ h0))▸?_;exact rs.drop _) E) (fun r iT fw dp gm e3 hr=>(iq fw dp ((bA.trans cK).trans ((bf.push {cls:= .type "slice",data:= .fields #[.int k' t,.none,.none]} gQ.toks).2.trans gm)) e3 hr))
inductive QY(g:Gl)(fr:zw)(Lo:Lc):List (Option Expr)→List Expr→List (Fd×M V)→Prop
 |nil:QY g fr Lo [] [] []
 |cons {f:Fd} {x:Str} {k:Nat} {p:Pos} {ks:List (Option Expr)} {e:Expr} {es:List Expr} {m:M V} {ps:List (Fd×M V)} (hf:f.s=x) (h:SE g fr Lo e m):QY g fr Lo ks es ps→QY g fr Lo (some (.Constant (.str x) k p)::ks) (e::es) ((f,m)::ps)
def pn:List (Fd×M V)→M (List (Fd×V))
 | []=>pU []
 |(f,m)::ps=>m.d fun v=>(pn ps).d fun vs=>pU ((f,v)::vs)
theorem Nt(hA:rn fr.k A)(h:QY g fr Lo ks es ps):∀{S:Rp} {s:Shared} (R:RS g S s) (F:Fits g fr Lo S) {fs:List (Fd×V)} {H':Hp},pn ps S.H=some (fs,H')→
  Runs g (X0 g) A (evalPairs (pairTrees ks es fr.env pos)) S s fun S' vs=>S'.H=H'∧∃fe,Carries (PySem.strKind g.prog g.w) vs fe∧gn g S' fs fe:=by
 induction h with
 |nil=>intro S s R F fs H' hm;apply pe hm;exact fun E=>pairTrees_nil_walk ⟨S,R,Ext.refl S R.cP,rfl, [],trivial,.nil⟩
 | @cons f x k p ks e es m ps hf h _ ih=>
  intro S s R F fs H' hm
  subst hf
  refine bs hm fun v aG h1 hm=>?_
  refine bs hm fun vs bh h2 hm=>?_
  apply pe hm
  intro E
  refine pairTrees_cons_walk (Constant_str ?_)
  refine wpAny_mono (h A S _ hA (R.toks _) F v aG h1 E) (fun r bJ z52=>wO z52 fun br aD bA e1 hr=>?_) fun _ _ x=>x
  subst e1
  refine wpAny_mono (ih aD (F.ext R bA) h2 E) (fun rs gQ ⟨eh,bf,cK,e2,fe,hc,hF⟩=>?_) fun _ _ x=>x
  exact⟨eh,bf,bA.trans cK,e2,(f.s,r)::fe,(fM (isStrOf_self f.s s.toks) rfl hc),.cons (hr.ext cK) hF⟩
theorem QY.len(h:QY g fr Lo ks es ps):ks.all (·.isSome)=true∧ks.length=es.length∧ks.length=ps.length:=by
 induction h with
 |nil=>exact fM rfl rfl rfl
 |cons _ _ _ ih=>exact fM (by simpa using ih.1) (by simp [ih.2.1]) (by simp [ih.2.2])
theorem Ip(x:M VA)(hx:∀H y H',x H=some (y,H')→H'=H)(h:QY g fr Lo ks es ps)(h0:ps≠ [])(hl:ps.length≤15):
  SE g fr Lo (.Dict ks es pos) ((pn ps).d fun fs=>x.d fun x=>u5 x (.aU (i8 [] fs))):=by
 intro A S s hA R F v H' hm
 refine bs hm fun fs aG h1 hm=>?_
 refine bs hm fun y bh h2 hm=>?_
 cases hx _ _ _ h2
 refine fC (h.len) fun l1 l2 l3=>?_
 intro E
 refine wpAny_Dict_walk (knd:=PySem.strKind g.prog g.w) l1 l2 (fun e=>h0 (je.mp (by(refine(l3)▸?_;refine e.symm▸?_);rfl))) (by lia) ?_
 haveI big:=R.big
 refine cQ (R.push {cls:= .type "dict",data:= .dict #[]} s.toks) fun R0 E0=>?_
 refine R.heap.symm▸?_
 refine wpAny_mono (Nt (fs:=fs) (H':=aG) hA h R0 (F.ext R E0) h1 E) (fun vs bJ ⟨br,aD,bA,e1,fe,hc,hF⟩=>?_) fun _ _ x=>x
 replace hm:=e1▸hm
 haveI S7:(S.h.push {cls:= .type "dict",data:= .dict #[]}).get? S.h.objs.size=some {cls:= .type "dict",data:= .dict #[]}:=bz _ rfl
 haveI YL:¬(Rp.mk S.H S.ρ S.δ (S.h.push {cls:= .type "dict",data:= .dict #[]})).foot S.h.objs.size:=fun q=>R.fm (az _) q
 have W3:¬X0 g S.h.objs.size:=fun q=>absurd (R.vC q) (cg.mpr big)
 have VB:br.h.get? S.h.objs.size=some {cls:= .type "dict",data:= .dict #[]}:=bA.keep _ _ S7 YL W3
 haveI YM:=bA.jI S7 YL W3
 refine jc fe hc (by refine aD.heap.symm▸?_;exact tL VB) (fun h' JP rk=>?_)
 unfold u5 at hm
 split at hm
 ·rename_i hy
  apply pe hm
  haveI Yl:bU S.h.objs.size br.h h':=aD.heap▸rk
  haveI YE:S.h.objs.size<br.h.objs.size:=bk VB
  have hX:∀b o,(X0 g b∨b=S.h.objs.size)→br.h.get? b=some o→¬Calm o:=by
   rintro b o (hb|rfl) e
   ·exact aD.cP b o hb e
   ·replace e:=(VB)▸e;apply so e
    rintro (⟨xs,n,h⟩|⟨f,h⟩|⟨vs,x,t,h,_⟩)<;>exact aj (by cases h)
  obtain⟨Rq,Eq⟩:=aD.quiet (X:=fun b=>b=S.h.objs.size) (h':=h') (fun b o hb=>hX b o (.inr hb)) (fun a ha=>by subst ha;exact YM) (fun a ha=>by subst ha;exact big) (fun a ha hx=>by subst ha;exact W3 hx) (fun b o e hb=>(Yl.2 b hb).trans e) (fZ Yl.1.symm) (bJ.toks+vs.length)
  haveI YN:¬(Rp.mk br.H br.ρ br.δ h').foot S.h.objs.size:=YM
  refine KL (id JP) fun oD esD epD US cD dD rD=>?_
  haveI ZL:∀b o,(X0 g b∨b=S.h.objs.size)→h'.get? b=some o→¬Calm o:=by
   rintro b o (hb|rfl) e
   ·exact Rq.cP b o hb e
   ·replace e:=(US)▸e;apply so e
    rintro (⟨xs,n,h⟩|⟨f,h⟩|⟨vs,x,t,h,_⟩)<;>rw [h] at dD<;>exact aj (by cases dD)
  obtain⟨R2,E2⟩:=Rq.Q4 (X:=fun b=>X0 g b∨b=S.h.objs.size) ZL (fun _=> .inl) (x:=y) (o':= .aU (i8 [] fs)) (a:=S.h.objs.size) (d:=S.h.objs.size) (h':=h') hy (fun b o e=>e)
   ⟨.inr ⟨.inr rfl,big,YN⟩,bk US⟩ ⟨.inr ⟨.inr rfl,big,YN⟩,bk US⟩ (az _)
   (fun q hq ps _ c oc vs' t y' _ e ZR _=>by
    have:c≠S.h.objs.size:=by
     rintro rfl
     haveI e:h'.get? S.h.objs.size=some oc:=e
     replace e:=(US)▸e;cases e
     replace dD:=(ZR)▸dD;cases dD
    exact iN this this)
   (fun E'=>⟨merged [] fe,by show Ar _ h' (fP br.ρ y _ y) _;rw [da];exact JP,(gn.merged hF .nil).ext (Eq.widen (fun _=> .inr) hX|>.trans E')⟩) (bJ.toks+vs.length)
  refine iq _ R2 ?_ rfl (bu.Ed (wN _ _ _ _ _) (da ..))
  haveI W:Ext S _ (fun b=>X0 g b∨b=S.h.objs.size):=((E0.trans bA).widen (fun _=> .inl) (fun b o hb e=>by
   rcases hb with hb|rfl
   ·exact R.cP b o hb e
   ·exact absurd (bk e) (dZ _))).trans ((Eq.widen (fun _=> .inr) hX).trans E2)
  exact W.narrow (fun b hb=>hb.imp_right fun e=>by rw [e];exact az _) R.cP
 ·exact nn hm
theorem AP(R:RS g S s)(ho:∀S':Rp,S'.h.get? (S'.ρ x)=some emptyDict→zy g S' x o)(hm:u5 x o S.H=some (v,H')):
  Runs g (X0 g) A (eval (.Dict [] [] pos) fr.env) S s fun S' r=>S'.H=H'∧bu g S' v r:=by
 intro E
 refine wpAny_Dict_empty ?_
 unfold u5 at hm
 split at hm
 ·rename_i hx
  apply pe hm
  refine R.heap.symm▸?_
  obtain⟨R',E'⟩:=R.L1 (x:=x) (o':=o) (a:=S.h.objs.size) (d:=S.h.objs.size) (h':=S.h.push emptyDict) hx (fun b o e=>aJ _ e)
   ⟨az _,uD _ _⟩ ⟨az _,uD _ _⟩ (cY (uD _ _))
   (fun E'=>ho _ (by refine(?_:(S.h.push _).get? (fP S.ρ x _ x)=_);rw [da];exact bz _ rfl)) s.toks
  exact iq _ R' E' rfl (bu.Ed (wN _ _ _ _ _) (da ..))
 ·exact nn hm
theorem JK(x:M VA)(hx:∀H y H',x H=some (y,H')→H'=H):SE g fr Lo (.Dict [] [] pos) (x.d fun x=>u5 x (.aU [])):=by
 intro A S s hA R F v H' hm
 refine bs hm fun y bh h2 hm=>?_
 cases hx _ _ _ h2
 exact AP (x:=y) (o:= .aU []) R (fun S' e=>(dG ([]) (tL e) .nil)) hm
theorem OY(x:M VA)(hx:∀H y H',x H=some (y,H')→H'=H):SE g fr Lo (.Dict [] [] pos) (x.d fun x=>u5 x (.cI [])):=by
 intro A S s hA R F v H' hm
 refine bs hm fun y bh h2 hm=>?_
 cases hx _ _ _ h2
 exact AP (x:=y) (o:= .cI []) R (fun S' e=>(dG ([]) ⟨_, #[],0,e,⟨rfl,rfl,rfl⟩,rfl,rfl,fun _ hx=>by simp at hx,ej⟩ .nil)) hm
theorem JJ(x:M VA)(hx:∀H y H',x H=some (y,H')→H'=H):SE g fr Lo (.Dict [] [] pos) (x.d fun x=>u5 x (.et [])):=by
 intro A S s hA R F v H' hm
 refine bs hm fun y bh h2 hm=>?_
 cases hx _ _ _ h2
 exact AP (x:=y) (o:= .et []) R (fun S' e=>(dG ([]) ⟨_, #[],0,e,⟨rfl,rfl,rfl⟩,rfl,fun _ he=>by simp at he,Pairs.nil,ej⟩ .nil)) hm
noncomputable def dB(t:Nat):M VA:=fun H=>some (⟨t,H.next⟩,H)
theorem cO(t:Nat):∀H y H',dB t H=some (y,H')→H'=H:=fun H y H' h=>by apply pe h;rfl
noncomputable def F6(a:Addr)(h h':Heap):Prop:=(∀b o,b≠a→h.get? b=some o→h'.get? b=some o)∧h.objs.size≤h'.objs.size
theorem wU(hs:bU a h h')(o p:Obj):F6 a h ((h'.push o).push p):=
 ⟨fun b ob hb e=>aJ _ (aJ _ ((hs.2 b hb).trans e)),by rw [eV,eV,hs.1];exact fV _ 2⟩
section
variable {prog:Program}{w:World}{A:Around}{E:Value→Shared→Prop}{s:Shared}
theorem uK(hh:A.handled=none)
  (hE:∀e s',s'.TypeIs e "StopIteration"→(∃o p,s'.heap=(s.heap.push o).push p∧s'={s with heap:=(s.heap.push o).push p})→E' e s'):
  wpAny (model prog w) A (newExc (.type "StopIteration") []>>=fun x=>(raiseNew x:Sem α)) P E' s:=by
 refine wpAny_bind ?_
 simp only [newExc,newTuple]
 refine wpAny_bind (wpAny_newObj_type ?_ (by size_fits))
 refine wpAny_bind (m:=firstArgMember _ _) (wpAny_of_eq (a:=Value.none) (by first|rfl|(simp only [firstArgMember];rfl)) ?_)
 refine wpAny_newObj_type ?_ (by size_fits)
 unfold raiseNew
 refine wpAny_bind (wpAny_handled ?_)
 refine hh.symm▸?_
 exact wpAny_bind (wpAny_pure (wpAny_throw (hE (.ref _) _ ⟨_,bz _ rfl,rfl⟩ (ie _ _ rfl rfl))))
theorem K8(hh:A.handled=none)(hit:s.heap.IsListIter it l i)(hl:s.heap.IsList l items)(hx:items[i]? =none)
  (hQ:∀h',F6 it s.heap h'→Q none {s with heap:=h'}):wpAny (model prog w) A (pyNext (.ref it)) Q E s:=by
 refine j9 (id hit) fun o ho hc hd=>?_
 obtain⟨ol,Wo,_,nl,V0⟩:=hl
 unfold pyNext
 refine wpAny_bind (wpAny_attempt (wpAny_callSpecial?_slot (name:=Str.ofString "__next__") hit.typeIs slot_listiter_next (wpAny_call_entry slot_listiter_next hit.typeIs entry_listiter_next ?_ (args_listiter_next _))))
 refine(?_:wpAny _ _ (field (.ref it) 0>>=_) _ _ s)
 refine wpAny_bind (wpAny_field ho hd (x:= .ref l) rfl ?_)
 refine(?_:wpAny _ _ (if(Value.ref l==Value.none)=true then _ else _) _ _ s)
 refine(ah (if_neg (show¬((Value.ref l==Value.none)=true) from aw)))▸?_
 refine(?_:wpAny _ _ (field (.ref it) 1>>=_) _ _ s)
 refine wpAny_bind (wpAny_field ho hd (x:= .int i 0) rfl ?_)
 refine(?_:wpAny _ _ (seqItems? (.ref l)>>=_) _ _ s)
 refine wpAny_bind (wpAny_seqItems Wo V0 ?_)
 simp only [jZ,hx]
 refine wpAny_bind (wpAny_rule (wpAny_bind (wpAny_setField ho hd (by simp) (uK (A:=A.in1) hh fun e s' hT z63=>eY z63 fun o p e1 e2=>?_))))
 refine wpAny_bind (wpAny_isInstance (T:= "StopIteration") (b:=true) hT isSubtype_stop ?_)
 rw [e2]
 exact wpAny_pure (hQ _ (wU (bU.update ..) _ _))
theorem B6(hh:A.handled=none)(hit:s.heap.IsTupleIter it l i)(hl:s.heap.IsTuple l items)(hx:items[i]? =none)
  (hQ:∀h',F6 it s.heap h'→Q none {s with heap:=h'}):wpAny (model prog w) A (pyNext (.ref it)) Q E s:=by
 refine j9 (id hit) fun o ho hc hd=>?_
 obtain⟨ol,Wo,_,nl,V0⟩:=hl
 unfold pyNext
 refine wpAny_bind (wpAny_attempt (wpAny_callSpecial?_slot (name:=Str.ofString "__next__") hit.typeIs PySem.F.slot_tuple_iterator_next (wpAny_call_entry PySem.F.slot_tuple_iterator_next hit.typeIs PySem.F.entry_tuple_iterator_next ?_ (PySem.F.args_tuple_iterator_next_1 _))))
 refine(?_:wpAny _ _ (field (.ref it) 0>>=_) _ _ s)
 refine wpAny_bind (wpAny_field ho hd (x:= .ref l) rfl ?_)
 refine(?_:wpAny _ _ (if(Value.ref l==Value.none)=true then _ else _) _ _ s)
 refine(ah (if_neg (show¬((Value.ref l==Value.none)=true) from aw)))▸?_
 refine(?_:wpAny _ _ (field (.ref it) 1>>=_) _ _ s)
 refine wpAny_bind (wpAny_field ho hd (x:= .int i 0) rfl ?_)
 refine(?_:wpAny _ _ (seqItems? (.ref l)>>=_) _ _ s)
 refine wpAny_bind (wpAny_seqItems Wo V0 ?_)
 simp only [jZ,hx]
 refine wpAny_bind (wpAny_rule (wpAny_bind (wpAny_setField ho hd (by simp) (uK (A:=A.in1) hh fun e s' hT Xv=>eY Xv fun o p e1 e2=>?_))))
 refine wpAny_bind (wpAny_isInstance (T:= "StopIteration") (b:=true) hT isSubtype_stop ?_)
 rw [e2]
 exact wpAny_pure (hQ _ (wU (bU.update ..) _ _))
structure ro(h:Heap)(d:Addr)(es:Array DictEntry)(ep:Nat):Prop where
 at_:∃o,h.get? d=some o∧o.cls= .type "dict"∧o.data= .dict es ep
theorem ro.typeIs(x:ro s.heap d es ep):s.TypeIs (.ref d) "dict":=let⟨o,h,c,_⟩:=x.at_;(dG o h c)
theorem IK(hd:(d==sysModules)=false)(hm:ro s.heap d es ep)
  (hQ:Q (.ref s.heap.objs.size) {s with heap:=s.heap.push {cls:= .type "dict_keyiterator",data:= .fields #[.ref d,.int 0 0,.int es.size 0,.int ep 0]}}):wpAny (model prog w) A (pyIter (.ref d)) Q E s:=by
 refine j9 (hm.at_) fun o ho hc TF=>?_
 haveI hT:=hm.typeIs
 refine wpAny_pyIter_slot hT PySem.F.slot_dict_iter (wpAny_call_entry PySem.F.slot_dict_iter hT PySem.F.entry_dict_iter ?_ (PySem.F.args_dict_iter_1 _))
 unfold Builtin.«dict.__iter__»
 refine wpAny_bind ?_
 unfold Builtin.Dict.dictSlotNone
 refine wpAny_bind (wpAny_notOrdered_dict hT ?_)
 refine(?_:wpAny _ _ (pure (Value.ref d)) _ _ s)
 refine wpAny_pure ?_
 refine(?_:wpAny _ _ (Builtin.Dict.showsAll d>>=_) _ _ s)
 unfold Builtin.Dict.showsAll
 rw [if_neg (by rw [hd];exact aw)]
 refine wpAny_bind (wpAny_pure (wpAny_bind (wpAny_dictEntries ho TF (wpAny_bind (wpAny_dictEpoch ho TF ?_)))))
 refine wpAny_bind (wpAny_newObj_type (wpAny_pure ⟨_,rfl, "dict_keyiterator",_,⟨_,bz _ rfl,rfl⟩,PySem.F.slot_dict_keyiterator_next.lookup,?_⟩))
 simpa [rawInt] using hQ
theorem K2(hit:s.heap.IsKeyIter it d i es.size ep)(hm:ro s.heap d es ep)(hx:es[i]? =some en)
  (hQ:∀h',h'.IsKeyIter it d (i+1) es.size ep→bU it s.heap h'→Q (some en.key) {s with heap:=h'}):wpAny (model prog w) A (pyNext (.ref it)) Q E s:=by
 refine j9 (id hit) fun o ho hc hd=>?_
 refine j9 (hm.at_) fun od JW KU zE=>?_
 unfold pyNext
 refine wpAny_bind (wpAny_attempt (wpAny_callSpecial?_slot (name:=Str.ofString "__next__") hit.typeIs PySem.F.slot_dict_keyiterator_next
  (wpAny_call_entry PySem.F.slot_dict_keyiterator_next hit.typeIs PySem.F.entry_dict_keyiterator_next ?_ (PySem.F.args_dict_keyiterator_next_1 _))))
 refine wpAny_bind (wpAny_pure ?_)
 refine wpAny_bind ?_
 refine wpAny_bind ?_
 first|refine wpAny_bind (wpAny_typeNameOfWhole_keyiter hit.typeIs (wpAny_pure ?_))|refine wpAny_bind (wpAny_typeNameOf_keyiter hit.typeIs (wpAny_pure ?_))
 refine wpAny_bind (wpAny_fieldsOf ho hd ?_)
 haveI RD:Builtin.Dict_items.ownsTuple "dict_keyiterator"=false:=by decide
 rw [RD,if_neg aw]
 refine(?_:wpAny _ _ (if(Value.ref d==Value.none)=true then _ else _) _ _ s)
 rw [if_neg (show¬((Value.ref d==Value.none)=true) from aw)]
 refine wpAny_bind (wpAny_pure (wpAny_bind (wpAny_dictEntries JW zE ?_)))
 rw [if_neg (by simp)]
 refine wpAny_bind (wpAny_pure (wpAny_bind (wpAny_dictEpoch JW zE ?_)))
 rw [if_neg (by simp)]
 refine wpAny_pure ?_
 simp only [show¬((i:Int)<0) from by lia,if_false,jZ,hx]
 refine wpAny_bind ?_
 first|refine wpAny_bind (wpAny_typeNameOfWhole_keyiter hit.typeIs (wpAny_pure ?_))|refine wpAny_bind (wpAny_typeNameOf_keyiter hit.typeIs (wpAny_pure ?_))
 refine wpAny_bind (wpAny_isOneOf_keyiter hit.typeIs ?_)
 refine(?_:wpAny _ _ (setField (.ref it) 1 (rawInt ((i:Int)+1))>>=_) _ _ s)
 refine wpAny_bind (wpAny_setField ho hd (by simp) ?_)
 haveI TO:(s.heap.update it (Obj.mapFields (·.setIfInBounds 1 (rawInt ((i:Int)+1))))).IsKeyIter it d (i+1) es.size ep:=
  ⟨_,jL _ ho (Obj.isFreed_of_fields (Obj.data_mapFields hd _)),(Obj.cls_mapFields ..).trans hc,by rw [Obj.data_mapFields hd];simp [rawInt]⟩
 refine wpAny_bind (wpAny_holding ?_)
 refine wpAny_bind (wpAny_isOneOf_keyiter (s:={s with heap:=s.heap.update it (Obj.mapFields (·.setIfInBounds 1 (rawInt ((i:Int)+1))))}) TO.typeIs ?_)
 refine(?_:wpAny _ _ (pure en.key) _ _ _)
 exact wpAny_pure (wpAny_pure (dG _ rfl (wpAny_pure (hQ _ TO (bU.update ..)))))
theorem K3(hh:A.handled=none)(hit:s.heap.IsKeyIter it d i es.size ep)(hm:ro s.heap d es ep)(hx:es[i]? =none)
  (hQ:∀h',F6 it s.heap h'→Q none {s with heap:=h'}):wpAny (model prog w) A (pyNext (.ref it)) Q E s:=by
 refine j9 (id hit) fun o ho hc hd=>?_
 refine j9 (hm.at_) fun od JW KU zE=>?_
 unfold pyNext
 refine wpAny_bind (wpAny_attempt (wpAny_callSpecial?_slot (name:=Str.ofString "__next__") hit.typeIs PySem.F.slot_dict_keyiterator_next
  (wpAny_call_entry PySem.F.slot_dict_keyiterator_next hit.typeIs PySem.F.entry_dict_keyiterator_next ?_ (PySem.F.args_dict_keyiterator_next_1 _))))
 refine wpAny_bind (wpAny_pure ?_)
 refine wpAny_bind ?_
 refine wpAny_bind ?_
 first|refine wpAny_bind (wpAny_typeNameOfWhole_keyiter hit.typeIs (wpAny_pure ?_))|refine wpAny_bind (wpAny_typeNameOf_keyiter hit.typeIs (wpAny_pure ?_))
 refine wpAny_bind (wpAny_fieldsOf ho hd ?_)
 haveI RD:Builtin.Dict_items.ownsTuple "dict_keyiterator"=false:=by decide
 rw [RD,if_neg aw]
 refine(?_:wpAny _ _ (if(Value.ref d==Value.none)=true then _ else _) _ _ s)
 rw [if_neg (show¬((Value.ref d==Value.none)=true) from aw)]
 refine wpAny_bind (wpAny_pure (wpAny_bind (wpAny_dictEntries JW zE ?_)))
 rw [if_neg (by simp)]
 refine wpAny_bind (wpAny_pure (wpAny_bind (wpAny_dictEpoch JW zE ?_)))
 rw [if_neg (by simp)]
 refine wpAny_pure ?_
 simp only [show¬((i:Int)<0) from by lia,if_false,jZ,hx]
 refine wpAny_bind ?_
 first|refine wpAny_bind (wpAny_typeNameOfWhole_keyiter hit.typeIs (wpAny_pure ?_))|refine wpAny_bind (wpAny_typeNameOf_keyiter hit.typeIs (wpAny_pure ?_))
 refine(?_:wpAny _ _ (setField (.ref it) 0 .none>>=_) _ _ s)
 refine wpAny_bind (wpAny_setField ho hd (by simp) (uK (A:=A.in1) hh fun e s' hT z30=>eY z30 fun o p e1 e2=>?_))
 refine wpAny_bind (wpAny_isInstance (T:= "StopIteration") (b:=true) hT isSubtype_stop ?_)
 rw [e2]
 exact wpAny_pure (hQ _ (wU (bU.update ..) _ _))
end
noncomputable def itemAt(H:Hp)(src:V)(i:Nat):Option (Option V):=match src with
 | .ref x=>(match H.get x with
  |some (.list vs)=>some vs[i]?
  |_=>none)
 | .lst vs=>some vs[i]?
 | .tup vs=>some vs[i]?
 |_=>none
noncomputable def V.isTup:V→Bool
 | .tup _=>true
 |_=>false
def MM(src:V):String:=bif src.isTup then "tuple_iterator" else "list_iterator"
def Aw(g:Gl)(S:Rp)(I:Addr)(src:V)(i:Nat):Prop:=¬S.foot I∧g.fb.objs.size≤I∧∃a o,bu g S src (.ref a)∧S.h.get? I=some o∧o.cls= .type (MM src)∧o.data= .fields #[.ref a,.int i 0]
theorem Aw.at_(h:Aw g S I src i):∃o,S.h.get? I=some o∧¬Calm o:=by
 exact sO h.2.2 fun a o _ e _ d=>dG o e (BN d rfl)
theorem Aw.ext(h:Aw g S I src i)(E:Ext S S' X)(hX:¬X I):Aw g S' I src i:=
 sO h.2.2 fun a o r e c d=>fM (E.jI e h.1 hX) h.2.1 (zG a o (r.ext E) (E.keep I o e h.1 hX) c d)
theorem NF(R:RS g S s)(hv:bu g S src r)(h:itemAt S.H src i=some q):
  ∃a vs xs,r= .ref a∧vs[i]? =q∧dq g S vs xs.toList∧(bif src.isTup then S.h.IsTuple a xs else S.h.IsList a xs):=by
 unfold itemAt at h
 induction src using V.casesOn with
 |ref x=>
  revert h;refine oL fun vs hx h=>?_
  apply iR hv;intro hd
  exact aS (R.rep.obj x _ hx) fun items q rs=>dh q fun n e=>⟨_,vs,items,rfl,Option.some.inj h,rs,_,e,rfl,n,rfl⟩
 |lst=>
  apply JY hv
  intro a o xs n e _ hc hd rs
  exact⟨_,_,xs,rfl,Option.some.inj h,rs,o,e,hc,n,hd⟩
 |tup=>
  apply JZ hv
  intro a o xs n e _ hc hd rs
  exact⟨_,_,xs,rfl,Option.some.inj h,rs,o,e,hc,n,hd⟩
 |_=>exact nn h
theorem yx(R:RS g S s)(hv:bu g S src r)(h:itemAt S.H src 0≠none):
  Runs g (X0 g) A (pyIter r) S s fun S' it=>S'.H=S.H∧it= .ref S.h.objs.size∧Aw g S' S.h.objs.size src 0:=by
 intro E
 refine dh (Option.ne_none_iff_exists'.mp h) fun q h=>KL (NF R hv h) fun a vs xs e _ _ hs=>?_
 haveI hv:bu g S src (.ref a):=e▸hv
 apply iH e
 haveI fin:∀{cls},cls= .type (MM src)→∃S',RS g S' (((s.heap.push {cls:=cls,data:= .fields #[.ref a,.int 0 0]}:Heap)|>fun h=>{s with heap:=h}))∧Ext S S' (X0 g)∧S'.H=S.H∧Value.ref s.heap.objs.size= .ref S.h.objs.size∧Aw g S' S.h.objs.size src 0:=fun {cls} hc=>by
  refine R.heap.symm▸?_
  refine cQ (R.push {cls:=cls,data:= .fields #[.ref a,.int 0 0]} s.toks) fun R' E'=>?_
  exact IE _ R' E' rfl rfl ⟨fun q=>R.fm (az _) q,R.big,zG a _ (hv.ext E') (bz _ rfl) hc rfl⟩
 induction hb:src.isTup with
 |true=>
  replace hs:=(hb)▸hs
  exact wpAny_pyIter_tuple (R.heap▸hs) (fin (by unfold MM;refine hb.symm▸?_;rfl))
 |false=>
  replace hs:=(hb)▸hs
  exact wpAny_pyIter_list (R.heap▸hs) (fin (by unfold MM;refine hb.symm▸?_;rfl))
theorem quietAt(R:RS g S s)(hn:∀o,S.h.get? I=some o→¬Calm o)(hf:¬S.foot I)(hb:g.fb.objs.size≤I)(G:F6 I S.h h')(t:Nat):
  RS g ⟨S.H,S.ρ,S.δ,h'⟩ {s with heap:=h',toks:=t}∧Ext S ⟨S.H,S.ρ,S.δ,h'⟩ (fun a=>a=I):=
 R.quiet (X:=fun a=>a=I) (fun b o e=>by apply iH e;exact hn o) (fun a e=>by apply iH e;exact hf) (fun a e=>by apply iH e;exact hb) (fun a e x=>by subst e;exact absurd (R.vC x) (cg.mpr hb)) (fun b o e hb=>G.1 b o hb e) G.2 t
theorem SameBut.Mx(hs:bU a h h'):F6 a h h':=⟨fun b o hb e=>(hs.2 b hb).trans e,fZ hs.1.symm⟩
noncomputable def JB(g:Gl)(L:Rp→Prop)(S':Rp):Option V→Option Value→Prop
 |some v,some y=>bu g S' v y∧L S'
 |none,none=>True
 |_,_=>False
theorem BE(hh:A.handled=none)(R:RS g S s)(L:Aw g S I src i)(h:itemAt S.H src i=some q):
  Runs g (fun a=>a=I) A (pyNext (.ref I)) S s fun S' r=>S'.H=S.H∧JB g (fun S'=>Aw g S' I src (i+1)) S' q r:=by
 intro E
 haveI Lx:∀o,S.h.get? I=some o→¬Calm o:=fun o' e'=>aS L.at_ fun o e hn=>(Option.some.inj (e.symm.trans e'))▸hn
 refine fC L fun h1 h2 h3=>sO h3 fun a o hv e hc hd=>KL (NF R hv h) fun a' vs xs ea hq rs hs=>?_
 haveI ea:a=a':=Value.ref.inj ea
 haveI hs:(bif src.isTup then S.h.IsTuple a xs else S.h.IsList a xs):=ea▸hs
 haveI over:xs[i]? =none→q=none:=fun hx=>by
  rw [←hq,iI,←rs.length,gv]
  exact Ci.mp hx
 haveI item:∀{y},xs[i]? =some y→∃v,q=some v∧bu g S v y:=fun {y} hy=>by
  have hl:i<vs.length:=by(refine(rs.length)▸?_;refine gv.symm▸?_);exact(j2.mp hy).1
  refine aS (rs.get (bj hl)) fun r hr hv=>⟨_,hq.symm.trans (bj hl),?_⟩
  (replace hr:=(eU)▸hr;replace hr:=(hy)▸hr)
  exact(Option.some.inj hr)▸hv
 haveI Tt:xs[i]? =none→∀h',F6 I s.heap h'→∃S',RS g S' {s with heap:=h'}∧Ext S S' (fun a=>a=I)∧S'.H=S.H∧JB g (fun S'=>Aw g S' I src (i+1)) S' q none:=fun hx h' hg=>
  cQ (quietAt R Lx h1 h2 (R.heap▸hg) s.toks) fun R' E'=>iq _ R' E' rfl (over hx▸trivial)
 have O0:∀{y},xs[i]? =some y→∀h',(∃o,h'.get? I=some o∧o.cls= .type (MM src)∧o.data= .fields #[.ref a,.int (i+1:Nat) 0])→bU I s.heap h'→∃S',RS g S' {s with heap:=h'}∧Ext S S' (fun a=>a=I)∧S'.H=S.H∧JB g (fun S'=>Aw g S' I src (i+1)) S' q (some y):=fun hy h' hi hg=>
  cQ (quietAt R Lx h1 h2 (SameBut.Mx (R.heap▸hg)) s.toks) fun R' E'=>aS (item hy) fun v e hr=>iq _ R' E' rfl (e▸(qI (hr.ext E') h1 h2 (j9 hi fun o x y z=>⟨a,o,hv.ext E',x,y,z⟩)))
 induction hb:src.isTup with
 |true=>
  have hN:MM src= "tuple_iterator":=by unfold MM;refine hb.symm▸?_;rfl
  replace hs:=(hb)▸hs
  rw [hN] at hc O0
  induction hx:xs[i]? with
  |none=>exact B6 hh (R.heap▸(jc o e hc hd)) (R.heap▸hs) hx (Tt hx)
  |some y=>exact wpAny_pyNext_tuple_item (R.heap▸(jc o e hc hd)) (R.heap▸hs) hx (O0 hx)
 |false=>
  have hN:MM src= "list_iterator":=by unfold MM;refine hb.symm▸?_;rfl
  replace hs:=(hb)▸hs
  rw [hN] at hc O0
  induction hx:xs[i]? with
  |none=>exact K8 hh (R.heap▸(jc o e hc hd)) (R.heap▸hs) hx (Tt hx)
  |some y=>exact wpAny_pyNext_list_item (R.heap▸(jc o e hc hd)) (R.heap▸hs) hx (O0 hx)
def Off(g:Gl)(fr:zw)(I:Addr):Prop:=fr.env.locals≠I∧¬X0 g I∧∀i n k c,fr.env.scope.names[i]? =some (n,k)→uR k→fr.sh.lookup i=none→fr.env.cells.lookup n=some c→c≠I
theorem Off.not(h:Off g fr I):¬Xf g fr I:=by
 rintro (x|x|⟨i,n,a,b,c⟩)
 ·exact h.2.1 x
 ·exact h.1 x.symm
 ·exact h.2.2 i n _ I a (.inl rfl) c b rfl
theorem Fits.off(F:Fits g fr Lo S)(R:RS g S s)(h:S.h.objs.size≤I):Off g fr I:=by
 refine fM ?_ (fun x=>absurd (R.vC x) (cg.mpr (ai R.big h))) (fun i n k c a b d e=>?_)
 ·rintro rfl
  refine aS (F.ns) fun mm cj _=>?_
  refine CI (cj) fun o es ep e _=>?_
  exact absurd (bk e) (cg.mpr h)
 ·rintro rfl
  refine fC (F.cellAt a b d e) fun _ cj _=>?_
  refine eY (cj) fun v o e' _=>?_
  exact absurd (bk e') (cg.mpr h)
theorem Fits.q7(F:Fits g fr Lo S)(E:Ext S S' (fun a=>a=I))(hO:Off g fr I):Fits g fr Lo S':=F.move E hO.1 fun a b c d=>hO.2.2 _ _ _ _ a b c d
theorem Sj(R:RS g S s)(F:Fits g fr Lo S)(hn:fr.env.scope.names[i]? =some (x,k))(hk:k= .local∨(k= .cell∧fr.sh.lookup i=none))(hv:bu g S v r):
  Runs g (Xf g fr) A (storeName fr.env x r) S s fun S' _=>S'.H=S.H∧Fits g fr ((i,v)::Lo) S':=by
 rcases hk with rfl|⟨rfl,hs⟩
 ·exact(jW R F hn hv).widen (fun _ h=>h.imp_right .inl) (F.calm R)
 ·exact BY R F hn hs hv
def Qd(g:Gl)(fr:zw)(A:Around)(rest:List Stmt)(fin:List V→Lc)(v:Fl)(H':Hp)(S S':Rp)(f:Flow):Prop:=match f with
 | .next=>∀Fu,RS g S' Fu→Ext S S' (Xf g fr)→Runs g (Xf g fr) A (execs rest fr.env) S' Fu fun S' r=>S'.H=H'∧qD g fr fin S' v r
 |f=>S'.H=H'∧qD g fr fin S' v f
theorem qD.then(hA:rn fr.k A){kk:List V→M Fl}(hr:∀st,SS g fr (inv st) rest fin (kk st)){f:Flow}{bh H':Hp}{S S':Rp}
  (z:qD g fr inv S' w f) (e:S'.H=bh) (q:(match w with| .ret v=>pU (Fl.ret v)| .next vs=>kk vs) bh=some (v,H')):Qd g fr A rest fin v H' S S' f:=by
 subst e
 induction w with
 |ret u=>induction f<;>first|exact z.elim|(apply pe q;exact⟨rfl,z⟩)
 |next vs=>induction f<;>first|exact z.elim|exact fun Fu Ko _=>hr vs A S' Fu hA Ko z v H' q
def sP(item:Hp→Nat→Option (Option V))(mb:V→List V→M Fl):Nat→Nat→List V→M Fl
 |0,_,_=>fL
 |n+1,i,st=>fun H=>match item H i with
  |none=>none
  |some none=>some (.next st,H)
  |some (some v)=>match mb v st H with
   |none=>none
   |some (.ret u,H')=>some (.ret u,H')
   |some (.next uk,H')=>sP item mb n (i+1) uk H'
theorem DT{st:List V}{v:Fl}{C:Prop}(hm:sP item mb n i st H=some (v,H'))(k0:item H i=some none→v= .next st→H=H'→C)
  (k1:∀m u fl dg,n=m+1→item H i=some (some u)→mb u st H=some (fl,dg)→(match fl with| .ret w=>pU (Fl.ret w)| .next uk=>sP item mb m (i+1) uk) dg=some (v,H')→C):C:=by
 induction n with
 |zero=>exact nn hm
 |succ n=>
  unfold sP at hm
  induction hq:item H i with
  |none=>rw [hq] at hm;exact nn hm
  |some q=>
   rw [hq] at hm
   induction q with
   |none=>exact k0 hq (QF hm).symm (Lk hm)
   |some u=>
    dsimp only at hm
    induction hb:mb u st H with
    |none=>rw [hb] at hm;exact nn hm
    |some p=>
     rw [hb] at hm
     obtain⟨fl,dg⟩:=p
     exact k1 n u fl dg rfl hq hb (by induction fl<;>exact hm)
theorem rI(h:Q .next s):wpAny (Mo g) A (execs [] env) Q E s:=wpAny_pure h
structure Iter(g:Gl)(I:Addr)(item:Hp→Nat→Option (Option V))(It:Rp→Nat→Prop):Prop where
 at_:∀{S i},It S i→∃o,S.h.get? I=some o∧¬Calm o
 ext:∀{S S' i X},It S i→Ext S S' X→¬X I→It S' i
 next:∀{A S s i q},A.handled=none→RS g S s→It S i→item S.H i=some q→Runs g (fun a=>a=I) A (pyNext (.ref I)) S s fun S' r=>S'.H=S.H∧JB g (fun S'=>It S' (i+1)) S' q r
theorem Iter.calm(T:Iter g I item It)(R:RS g S s)(F:Fits g fr Lo S)(L:It S i):∀b o,(Xf g fr b∨b=I)→S.h.get? b=some o→¬Calm o:=fun b o hb e=>by
 rcases hb with hb|hb
 ·exact F.calm R b o hb e
 ·exact aS (T.at_ L) fun o' e' hn=>(Option.some.inj (e'.symm.trans (hb▸e)))▸hn
section
variable {A:Around}{x:Str}{px:Pos}{body rest:List Stmt}{fin inv:List V→Lc}{ix:Nat}{k:NameKind}{mb:V→List V→M Fl}{kk:List V→M Fl}{I:Addr}{item:Hp→Nat→Option (Option V)}{It:Rp→Nat→Prop}
theorem Rr(hA:rn fr.k A)(hn:fr.env.scope.names[ix]? =some (x,k))(hk:k= .local∨(k= .cell∧fr.sh.lookup ix=none))(hb:∀v st,SS g fr ((ix,v)::inv st) body inv (mb v st))(T:Iter g I item It)(R₀:RS g nv iS)(hO:Off g fr I)
  {st:List V} (LI:Fits g fr (inv st) nv) (LL:It nv i) {H':Hp} (hm:sP item mb n i st nv.H=some (v,H')) {R':Result→Shared→Prop}
  (hR:∀S' s' f,RS g S' s'→Ext nv S' (fun a=>Xf g fr a∨a=I)→S'.H=H'→qD g fr inv S' v f→R' (.ok f) s'):
  codeAny (Mo g) A (.forLoop (.Name x px) (.ref I) body [] fr.env) R' iS:=by
 refine codeAny_forLoop (I:=fun n s=>∃S i st,RS g S s∧Ext nv S (fun a=>Xf g fr a∨a=I)∧Fits g fr (inv st) S∧It S i∧sP item mb n i st S.H=some (v,H')) (fun n s z=>OT z fun S i st R E F L hm=>?_) n (Pd nv i st R₀ (Ext.refl nv (T.calm R₀ LI LL)) LI LL hm)
 have E1:∀{br},Ext S br (fun a=>a=I)→Ext nv br (fun a=>Xf g fr a∨a=I):=fun bA=>E.trans (bA.widen (fun a h=> .inr h) (T.calm R F L))
 refine DT hm (fun hq e1 e2=>?_) fun m u fl dg en hq VV hm=>?_
 ·refine h9 (T.next hA.2.2 R L hq _) fun r bJ br aD bA e hN=>?_
  induction r with
  |some _=>exact hN.elim
  |none=>exact rI (hR br bJ .next aD (E1 bA) (e.trans e2) (e1▸F.q7 bA hO))
 ·refine h9 (T.next hA.2.2 R L hq _) fun r bJ br aD bA e hN=>?_
  induction r with
  |none=>exact hN.elim
  |some y=>
   refine wpAny_assign_Name (h9 (Sj aD (F.q7 bA hO) hn hk hN.1 _) fun _ gQ eh bf cK e2 j3=>?_)
   have tm:=T.ext hN.2 cK hO.not
   haveI E2:=(E1 bA).trans (cK.widen (fun a h=> .inl h) (T.calm aD (F.q7 bA hO) hN.2))
   refine h9 (hb u st A eh gQ hA bf j3 fl dg ((e2.trans e).symm▸VV) _) fun f iT fw dp gm e3 hf=>?_
   have E3:=E2.trans (gm.widen (fun a h=> .inl h) (T.calm bf j3 tm))
   induction fl with
   |ret w=>induction f<;>first|exact hf.elim|exact hR fw iT _ dp E3 (e3.trans (Lk hm)) ((QF hm)▸hf)
   |next uk=>induction f<;>first|exact hf.elim|exact dG m (en▸aW m) (Pd fw (i+1) uk dp E3 hf (T.ext tm gm hO.not) (e3▸hm))
theorem EK{st:List V}(hA:rn fr.k A)(hn:fr.env.scope.names[ix]? =some (x,k))(hk:k= .local∨(k= .cell∧fr.sh.lookup ix=none))(hb:∀v st,SS g fr ((ix,v)::inv st) body inv (mb v st))(hr:∀st,SS g fr (inv st) rest fin (kk st))(T:Iter g br.h.objs.size item It)
  (h0:Sub (inv st) Lo) (R:RS g S iS) (F:Fits g fr Lo S) (aD:RS g br bJ) (bA:Ext S br (X0 g)) (bf:RS g eh gQ) (cK:Ext br eh (X0 g)) (tm:It eh i) {v:Fl} {H':Hp} (hm:((sP item mb n i st).cy kk) eh.H=some (v,H')) {R':Result→Shared→Prop}
  (hR:∀S' s' f,RS g S' s'→Ext S S' (Xf g fr)→Qd g fr A rest fin v H' S S' f→R' (.ok f) s'):
  codeAny (Mo g) A (.forLoop (.Name x px) (.ref br.h.objs.size) body [] fr.env) R' gQ:=by
 haveI nP:=(F.ext R bA).weak h0
 haveI ZJ:∀b o,(Xf g fr b∨b=br.h.objs.size)→br.h.get? b=some o→¬Calm o:=fun b o hb e=>by
  rcases hb with hb|hb
  ·exact nP.calm aD b o hb e
  ·exact absurd (bk e) (hb▸dZ _)
 refine bs hm fun w bh p q=>Rr hA hn hk hb T bf (nP.off aD (az _)) (nP.ext aD cK) tm p fun S' s' f R3 E' e' z=>hR S' s' f R3 ?_ (z.then hA hr e' q)
 exact(bA.widen (Y:=Xf g fr) (fun _=> .inl) (F.calm R)).trans (((cK.widen (Y:=fun a=>Xf g fr a∨a=br.h.objs.size) (fun _ h=> .inl (.inl h)) ZJ).trans E').narrow (fun a ha=>ha.imp_right fun e=>fZ e.symm) (nP.calm aD))
end
theorem GV:Iter g I (fun H i=>itemAt H src i) (fun S i=>Aw g S I src i):=⟨fun h=>h.at_,fun h E hX=>h.ext E hX,fun hh R L h=>BE hh R L h⟩
def forL(src:V)(mb:V→List V→M Fl)(st:List V):M Fl:=sP (fun H i=>itemAt H src i) mb 10000000 0 st
theorem og{iter:Expr}{k:NameKind}{mi:M V}{mb:V→List V→M Fl}{kk:List V→M Fl}(ix:Nat)(inv:List V→Lc)(st:List V)(hn:fr.env.scope.names[ix]? =some (x,k))(hk:k= .local∨(k= .cell∧fr.sh.lookup ix=none))
  (hi:SE g fr Lo iter mi) (h0:Sub (inv st) Lo) (hb:∀v st,SS g fr ((ix,v)::inv st) body inv (mb v st)) (hr:∀st,SS g fr (inv st) rest fin (kk st))
  (hs:∀x,foldedSetIterable iter fr.env x=pure x:=by intro _;rfl):SS g fr Lo (.For (.Name x px) iter body [] pos::rest) fin (mi.d fun src=>(forL src mb st).cy kk):=by
 intro A S s hA R F v H' hm
 refine Runs.cons fun E=>wpAny_For (hi.go hA R F hm E fun r bJ br src aD bA tM hm=>?_) hs
 haveI qH:itemAt br.H src 0≠none:=fun e=>bs hm fun w bh p _=>DT p (fun h _ _=>nn (e.symm.trans h)) fun _ _ _ _ _ h _ _=>nn (e.symm.trans h)
 refine Sk (yx aD tM qH E) (fun it gQ eh bf cK e2 hit tm=>?_)
 apply iH hit
 exact EK hA hn hk hb hr GV h0 R F aD bA bf cK tm (e2.symm▸hm) fun S' s' f R' E' z=>jc S' R' E' z
def uu(mt:List V→M Bool)(mb:List V→M Fl):Nat→List V→M Fl
 |0,_=>fL
 |n+1,st=>fun H=>match mt st H with
  |none=>none
  |some (false,aG)=>some (.next st,aG)
  |some (true,aG)=>match mb st aG with
   |none=>none
   |some (.ret u,H')=>some (.ret u,H')
   |some (.next uk,H')=>uu mt mb n uk H'
def qy(mt:List V→M Bool)(mb:List V→M Fl)(st:List V):M Fl:=uu mt mb 10000000 st
theorem Jt{mt:List V→M Bool}{st:List V}{v:Fl}{C:Prop}(hm:uu mt mb n st H=some (v,H'))
  (k:∀m c aG,n=m+1→mt st H=some (c,aG)→(match c with|false=>some (Fl.next st,aG)=some (v,H')|true=>∃fl dg,mb st aG=some (fl,dg)∧(match fl with| .ret w=>pU (Fl.ret w)| .next uk=>uu mt mb m uk) dg=some (v,H'))→C):C:=by
 induction n with
 |zero=>exact nn hm
 |succ n=>
  unfold uu at hm
  induction hq:mt st H with
  |none=>rw [hq] at hm;exact nn hm
  |some p=>
   rw [hq] at hm
   obtain⟨c,aG⟩:=p
   refine k n c aG rfl hq ?_
   induction c with
   |false=>exact hm
   |true=>
    dsimp only at hm
    induction hb:mb st aG with
    |none=>rw [hb] at hm;exact nn hm
    |some p=>
     rw [hb] at hm
     obtain⟨fl,dg⟩:=p
     exact ie fl dg rfl (by induction fl<;>exact hm)
theorem rY{mt:List V→M Bool}{mb kk:List V→M Fl}(inv:List V→Lc)(st:List V)(h0:Sub (inv st) Lo)(ht:∀st,SB g fr (inv st) test (mt st))(hb:∀st,SS g fr (inv st) body inv (mb st))(hr:∀st,SS g fr (inv st) rest fin (kk st)):
  SS g fr Lo (.While test body [] pos::rest) fin ((qy mt mb st).cy kk):=by
 intro A S s hA R F v H' hm
 refine Runs.cons fun E=>wpAny_While ?_
 refine bs hm fun w bh p q=>?_
 refine codeAny_whileLoop (I:=fun n s=>∃S' st,RS g S' s∧Ext S S' (Xf g fr)∧Fits g fr (inv st) S'∧uu mt mb n st S'.H=some (w,bh)) (fun n bJ z=>sO z fun br st aD bA nP hw=>?_) _ (zG S st R (Ext.refl S (F.calm R)) (F.weak h0) p)
 refine Jt hw fun m c dg en hq hw=>?_
 refine h9 (ht st A br bJ hA aD nP c dg hq _) fun c' gQ eh bf cK e2 hc=>?_
 haveI j3:=nP.ext aD cK
 have Vn:=bA.trans (cK.widen (fun _=> .inl) (nP.calm aD))
 apply iH hc
 induction c with
 |false=>exact rI (jc eh bf Vn (qD.then (f:= .next) hA hr (w:=w) ((QF hw)▸j3) (e2.trans (Lk hw)) q))
 |true=>
  refine eY hw fun fl iZ VV hw=>?_
  refine h9 (hb st A eh gQ hA bf j3 fl iZ (e2.symm▸VV) _) fun f iT fw dp gm e3 hf=>?_
  induction fl with
  |ret u=>induction f<;>first|exact hf.elim|exact jc fw dp (Vn.trans gm) (qD.then (S:=S) (f:= .ret _) hA hr (w:=w) ((QF hw)▸hf) (e3.trans (Lk hw)) q)
  |next uk=>induction f<;>first|exact hf.elim|exact dG m (en▸aW m) (zG fw uk dp (Vn.trans gm) hf (e3▸hw))
noncomputable def wA(cells:List (Str×Addr)):List (Str×NameKind)→List (Str×Addr)→List (Str×Addr)
 | [],acc=>acc
 |p::r,acc=>wA cells r (if p.2== .free then(p.1,(cells.lookup p.1).getD 0)::acc else acc)
theorem DU{f:Str×NameKind→List (Str×Addr)→Sem (ForInStep (List (Str×Addr)))}:∀{names:List (Str×NameKind)} {acc:List (Str×Addr)},(∀p∈names,∀acc,f p acc=pure (.yield (if p.2== .free then(p.1,(cells.lookup p.1).getD 0)::acc else acc)))→forIn names acc f=pure (wA cells names acc)
 | [],acc,_=>rfl
 |p::r,acc,h=>by
  rw [Cc,h p pD]
  simp only [pure_bind]
  rw [DU fun q hq=>h q (ku _ hq)]
  rfl
theorem oY(h:∀p∈scope.names,p.2= .free→(env.cells.lookup p.1).isSome=true):closureFor scope env=pure (wA env.cells scope.names []):=by
 simp only [closureFor]
 rw [DU (cells:=env.cells) fun p hp acc=>?_]
 ·rfl
 ·obtain⟨n,k⟩:=p
  by_cases hk:k= .free
  ·subst hk
   refine dh (qz.mp (h _ hp rfl)) fun c hc=>?_
   simp [cellOf,hc]
  ·have:(k==NameKind.free)=false:=by simpa using hk
   simp [this]
theorem Az:∀{names:List (Str×NameKind)} {acc:List (Str×Addr)} {n:Str} {c:Addr},(n,c)∈wA cells names acc→(n,c)∈acc∨((n,NameKind.free)∈names∧c=(cells.lookup n).getD 0)
 | [],_,_,_,h=> .inl h
 |p::r,acc,n,c,h=>by
  have h:(n,c)∈wA cells r (if p.2== .free then(p.1,(cells.lookup p.1).getD 0)::acc else acc):=h
  rcases Az (names:=r) h with h|⟨h,e⟩
  ·split at h
   ·rename_i hk
    rcases bF.mp h with e|h
    ·cases e
     have:p.2= .free:=by simpa using hk
     exact .inr ⟨by refine(this)▸?_;exact pD,rfl⟩
    ·exact .inl h
   ·exact .inl h
  ·exact .inr ⟨ku _ h,e⟩
theorem Gh:∀{names:List (Str×NameKind)} {acc:List (Str×Addr)} {q:Str×Addr},q∈acc→q∈wA cells names acc
 | [],_,_,h=>h
 |p::r,acc,q,h=>by
  refine Gh (names:=r) ?_
  split
  ·exact ku _ h
  ·exact h
theorem JG:∀{names:List (Str×NameKind)} {acc:List (Str×Addr)} {n:Str},(n,NameKind.free)∈names→(n,(cells.lookup n).getD 0)∈wA cells names acc
 |p::r,acc,n,h=>by
  rcases bF.mp h with e|h
  ·cases e
   exact Gh (names:=r) (by simp)
  ·exact JG (names:=r) h
theorem GX{l:List (Str×Addr)}(h:(n,c)∈l)(u:∀d,(n,d)∈l→d=c):l.lookup n=some c:=by
 induction l with
 |nil=>exact aj (by cases h)
 |cons p r ih=>
  obtain⟨m,d⟩:=p
  rw [b7]
  induction hb:n==m with
  |true=>
   have:=beq_iff_eq.mp hb
   subst this
   (refine(ah (u d pD))▸?_;with_reducible rfl)
  |false=>
   rcases bF.mp h with e|h
   ·cases e;simp at hb
   ·exact ih h fun d hd=>u d (ku _ hd)
theorem Gi(h:(n,NameKind.free)∈names)(hc:cells.lookup n=some c):(wA cells names []).lookup n=some c:=by
 refine GX (by have:=JG (cells:=cells) (acc:= []) h;rw [hc] at this;exact this) fun d hd=>?_
 rcases Az hd with h|⟨_,e⟩
 ·exact aj (by cases h)
 ·rw [e,hc];rfl
theorem DM(h:(wA cells names []).lookup n=some c):(n,NameKind.free)∈names∧c=(cells.lookup n).getD 0:=by
 rcases Az (mem_of_lookup h) with h|h
 ·exact aj (by cases h)
 ·exact h
noncomputable def yF(env:Env)(n:Str)(k:NameKind):NameKind:=if(k== .free&&env.scope.kind== .function&&env.kindOf n==some .cell) then .cell else k
theorem dO{i:Nat}(h:cs.names[i]? =some (n,k)):(relabel cs env).names[i]? =some (n,yF env n k):=by
 refine(?_:(cs.names.map _)[i]? =_)
 rw [aC,h]
 simp only [LG,yF]
 split<;>rfl
theorem aI{i:Nat}(h:cs.names[i]? =some (n,k))(hk:k≠ .free):(relabel cs env).names[i]? =some (n,k):=by
 rw [dO h,yF]
 have:(k==NameKind.free)=false:=by simpa using hk
 refine this.symm▸?_;rfl
theorem Ja{i:Nat}(h:(relabel cs env).names[i]? =some (n,k)):∃k',cs.names[i]? =some (n,k')∧k=yF env n k':=by
 haveI h:(cs.names.map _)[i]? =some (n,k):=h
 rw [aC] at h
 refine aS (ba.mp h) fun cj a b=>?_
 obtain⟨m,k'⟩:=cj
 dsimp only at b
 by_cases hq:(k'==NameKind.free&&env.scope.kind== .function&&env.kindOf m==some .cell)=true
 ·rw [if_pos hq] at b;apply po b;exact dG _ a (by unfold yF;(refine(ah (if_pos hq))▸?_;with_reducible rfl))
 ·rw [if_neg hq] at b;apply po b;exact dG _ a (by unfold yF;(refine(ah (if_neg hq))▸?_;with_reducible rfl))
theorem Ee(cs:Scope)(env:Env):(relabel cs env).names.map (·.1)=cs.names.map (·.1):=by
 refine(?_:(cs.names.map _).map _=_)
 rw [eW]
 refine eS fun p _=>?_
 obtain⟨n,k⟩:=p
 simp only [Function.comp]
 split<;>rfl
def yP(fr:zw)(cs:Scope)(C:Addr):zw:=⟨compEnvC cs (wA fr.env.cells cs.names []) C fr.env,fr.k, []⟩
noncomputable def oU(uw:List (Nat×Nat))(sh:List (Nat×VA))(outer:List (Str×NameKind)):Nat→List (Str×NameKind)→Bool
 |_, []=>true
 |i,(n,k)::r=>(match k with
  | .free=>(match uw.lookup i with
   |some j=>(match outer[j]? with
    |some (m,q)=>decide (m=n)&&(q== .cell||q== .free)&&(sh.lookup j).isNone
    |none=>false)
   |none=>false)
  | .cell=>false
  |_=>true)&&oU uw sh outer (i+1) r
theorem ux:∀{names:List (Str×NameKind)} {wa i:Nat} {n:Str} {k:NameKind},oU uw sh outer wa names=true→names[i]? =some (n,k)→
  k≠ .cell∧(k= .free→∃j q,uw.lookup (wa+i)=some j∧outer[j]? =some (n,q)∧uR q∧sh.lookup j=none)
 | [],_,_,_,_,_,h=>by simp at h
 |(m,q)::r,wa,i,n,k,hc,h=>by
  simp only [oU,cV] at hc
  cases i with
  |zero=>
   simp at h
   obtain⟨rfl,rfl⟩:=h
   refine iN ?_ ?_
   ·rintro rfl;simp at hc
   ·rintro rfl
    haveI h1:=hc.1
    simp only at h1
    split at h1
    ·rename_i j hj
     split at h1
     ·rename_i m' q' ho
      simp only [cV,decide_eq_true_eq,Ov,beq_iff_eq,Option.isNone_iff_eq_none] at h1
      obtain⟨⟨rfl,h2⟩,h3⟩:=h1
      exact zG j q' (by simpa using hj) ho h2 h3
     ·exact ft h1
    ·exact ft h1
  |succ i=>
   simp at h
   refine cQ (ux (wa:=wa+1) hc.2 h) fun a b=>?_
   exact iN a (fun e=>by refine(ah (show wa+(i+1)=wa+1+i from by lia))▸?_;exact b e)
def Ck(uw:List (Nat×Nat))(names:List (Str×NameKind)):Lc→Lc→Prop
 | [],_=>True
 |(i,v)::r,Lo=>(∃n,names[i]? =some (n,.free))∧(∃j,uw.lookup i=some j∧Lo.lookup j=some v)∧Ck uw names r Lo
theorem Ck.look(h:Ck uw names LC Lo)(e:LC.lookup i=some v):(∃n,names[i]? =some (n,.free))∧∃j,uw.lookup i=some j∧Lo.lookup j=some v:=by
 induction LC with
 |nil=>exact nn e
 |cons p r ih=>
  obtain⟨m,u⟩:=p
  rw [b7] at e
  induction hb:i==m with
  |true=>rw [hb] at e;apply so e;refine(ah (beq_iff_eq.mp hb))▸?_;exact⟨h.1,h.2.1⟩
  |false=>rw [hb] at e;exact ih h.2.2 e
theorem Fits.comp(F:Fits g fr Lo S)(R:RS g S s)(hk:cs.kind= .function)(nm:namesOk cs.names=true)(hc:oU uw fr.sh fr.env.scope.names 0 cs.names=true)(hL:Ck uw cs.names LC Lo)
  (hC:S.h.objs.size≤C) (VQ:¬S'.foot C) (A0:S'.h.Ns C mm) (keep:∀b o,S.h.get? b=some o→S'.h.get? b=some o) (hf:∀a,S'.foot a→S.foot a∨S.h.objs.size≤a) (E:∀v r,bu g S v r→bu g S' v r):Fits g (yP fr cs C) LC S':=by
 haveI NM:=pj nm
 have at_:∀{i:Nat} {n:Str} {k:NameKind},(relabel cs fr.env).names[i]? =some (n,k)→uR k→∃j q c,uw.lookup i=some j∧fr.env.scope.names[j]? =some (n,q)∧uR q∧fr.sh.lookup j=none∧(n,NameKind.free)∈cs.names∧fr.env.cells.lookup n=some c∧(wA fr.env.cells cs.names []).lookup n=some c:=fun {i n k} h Ad=>by
  refine aS (Ja h) fun k' a b=>?_
  refine cQ (ux hc a) fun c1 c2=>?_
  haveI Z2:k'= .free:=by
   induction k'<;>first|rfl|skip
   all_goals (first|exact(c1 rfl).elim|(exfalso;replace Ad:=(b)▸Ad;rcases Ad with h|h<;>simp [yF] at h))
  subst Z2
  refine sO (c2 rfl) fun j q d1 d2 d3 d4=>?_
  refine j9 (F.Oh j n q d2 d3) fun c e1 e2 e3=>?_
  rw [H2] at d1
  exact⟨j,q,c,d1,d2,d3,d4,aB a,e1,Gi (aB a) e1⟩
 haveI L7:∀{c:Addr},¬S.foot c→(∃v,S.h.IsCell c v)→¬S'.foot c:=fun {c} h ⟨v,o,e,_⟩ V2=>by
  rcases hf c V2 with h'|h'
  ·exact h h'
  ·exact absurd (bk e) (cg.mpr h')
 refine Fits.mk hk F.glob F.blt ⟨by rw [show(yP fr cs C).env.scope.names=(relabel cs fr.env).names from rfl,Ee];exact NM.once,fun p hp=>?_⟩ ⟨mm,A0,fun i v n hi hn=>?_⟩ (fun i v hi=>?_) (fun i x h=>by exact nn h) (iN VQ (ai R.big hC)) (fun i n k hi Ad=>?_) (fun n n' c h1 h2=>?_)
 ·have:p.1∈(relabel cs fr.env).names.map (·.1):=aP.mpr (dG p hp rfl)
  rw [Ee] at this
  refine aS (aP.mp this) fun q hq e=>?_
  refine(e)▸?_;exact NM.Mf q hq
 ·(first|refine cQ (hL.look hi) fun Ny _=>?_|refine dh (hL.look hi) fun Ny _=>?_);(first|refine cQ (Ny) fun m hm=>?_|refine dh (Ny) fun m hm=>?_)
  have:=dO (env:=fr.env) hm
  haveI hn:(relabel cs fr.env).names[i]? =some (n,.local):=hn
  replace hn:=(this)▸hn
  simp only [Option.some.injEq,Prod.mk.injEq,yF] at hn
  refine cQ (hn) fun _ h=>?_
  split at h<;>exact aj (by cases h)
 ·obtain⟨⟨n,hn⟩,j,hj,hv⟩:=hL.look hi
  haveI hr:=dO (env:=fr.env) hn
  refine ie n (yF fr.env n .free) hr (.inr ?_)
  have Ad:uR (yF fr.env n .free):=by unfold yF uR;split<;>simp
  refine OU (at_ hr Ad) fun j' q c d1 d2 d3 d4 d5 d6 d7=>?_
  replace d1:=(hj)▸d1;cases d1
  refine eY (F.Ie j v hv) fun n2 k2 e1 e2=>?_
  replace e1:=(d2)▸e1;cases e1
  rcases e2 with rfl|⟨_,_,c2,r,f1,⟨o,f2,f3⟩,f4⟩
  ·rcases d3 with h|h<;>cases h
  ·replace f1:=(d6)▸f1;cases f1
   exact⟨Ad,rfl,c,r,d7,⟨o,keep _ _ f2,f3⟩,E _ _ f4⟩
 ·refine OU (at_ hi Ad) fun j q c d1 d2 d3 d4 d5 d6 d7=>?_
  refine ou (F.cellAt d2 d3 d4 d6) fun h1 cj h3 h4=>?_
  refine eY (cj) fun v o e e'=>?_
  refine jc c d7 ?_ (fun _=>⟨⟨v,o,keep _ _ e,e'⟩,L7 h3 ⟨v,o,e,e'⟩,h4⟩)
  rintro rfl
  exact absurd (bk e) (cg.mpr hC)
 ·refine cQ (DM h1) fun a1 cj=>?_;subst cj
  refine cQ (DM h2) fun a2 e2=>?_
  refine dh (aQ.mp a1) fun i hi=>?_
  refine dh (aQ.mp a2) fun i' Lv=>?_
  have Ad:∀n,uR (yF fr.env n .free):=fun n=>by unfold yF uR;split<;>simp
  refine OU (at_ (dO (env:=fr.env) hi) (Ad n)) fun _ _ c1 _ _ _ _ _ d6 _=>?_
  refine OU (at_ (dO (env:=fr.env) Lv) (Ad n')) fun _ _ c2 _ _ _ _ _ XH _=>?_
  (replace e2:=(d6)▸e2;replace e2:=(XH)▸e2)
  haveI e2:c1=c2:=e2
  subst e2
  exact F.inj n n' c1 d6 XH
end
section
open PySem.Builtin PySem.Builtin.ObjectAttr
variable {g:Gl}{fr:zw}{Lo:Lc}
theorem NW{ifs:List Expr}(h:Q false s):wpAny (Mo g) A (forIn ifs false fun c r=>if r=true then do let ok←isTrue c env (eval c env);pure (ForInStep.yield ok) else pure (ForInStep.yield r)) Q E s:=by
 induction ifs with
 |nil=>exact wpAny_pure h
 |cons c cs ih=>
  rw [Cc]
  exact wpAny_bind (wpAny_pure ih)
theorem Hj(hA:rn fr.k A)(h:SBL g fr Lo ifs ms):∀{S:Rp} {s:Shared} (R:RS g S s) (F:Fits g fr Lo S) {b:Bool} {H':Hp},testM .And ms S.H=some (b,H')→
  Runs g (X0 g) A (forIn ifs true fun c r=>if r=true then do let ok←isTrue c fr.env (eval c fr.env);pure (ForInStep.yield ok) else pure (ForInStep.yield r)) S s fun S' r=>S'.H=H'∧r=b:=by
 induction h with
 |nil=>intro S s R F b H' hm E;exact wpAny_pure (iq S R (Ext.refl S R.cP) (Lk hm) (QF hm))
 | @cons e m es ms he TJ ih=>
  intro S s R F b H' hm E
  rw [Cc]
  refine wpAny_bind (wpAny_bind (he.go hA R F hm E fun t bJ br aD bA hm=>wpAny_pure ?_))
  induction t with
  |true=>exact FG (ih aD (F.ext R bA) hm E) fun _ _ eh bf cK p=>jc eh bf (bA.trans cK) p
  |false=>exact NW (iq br aD bA (Lk hm) (QF hm))
theorem Fits.QB(F:Fits g fr Lo S)(R:RS g S s)(L:Aw g S I src i):Off g fr I:=by
 refine sO L.2.2 fun l o _ e _ hd=>fM (fun q=>?_) (fun x=>absurd (R.vC x) (cg.mpr L.2.1)) fun i n k c a b d e' q=>?_
 ·exact aS F.ns fun mm h _=>Gw h fun o' es ep e2 h2 _=>nN (hd.symm.trans ((congrArg Obj.data (Option.some.inj (e.symm.trans (q▸e2)))).trans h2))
 ·exact fC (F.cellAt a b d e') fun _ h _=>dh h fun v h=>aS h fun o' e2 h2=>nN (hd.symm.trans ((congrArg Obj.data (Option.some.inj (e.symm.trans (q▸e2)))).trans h2))
def i7(src:V)(mb:V→M Unit):Nat→Nat→M Unit
 |0,_=>fL
 |n+1,i=>fun H=>match itemAt H src i with
  |none=>none
  |some none=>some ((),H)
  |some (some v)=>match mb v H with
   |none=>none
   |some (_,aG)=>i7 src mb n (i+1) aG
theorem IT{C:Prop}(hm:i7 src mb n i H=some ((),H'))(k0:itemAt H src i=some none→H=H'→C)
  (k1:∀m u aG,n=m+1→itemAt H src i=some (some u)→mb u H=some ((),aG)→i7 src mb m (i+1) aG=some ((),H')→C):C:=by
 induction n with
 |zero=>exact nn hm
 |succ n=>
  unfold i7 at hm
  induction hq:itemAt H src i with
  |none=>rw [hq] at hm;exact nn hm
  |some q=>
   rw [hq] at hm
   induction q with
   |none=>exact k0 hq (Lk hm)
   |some u=>
    dsimp only at hm
    induction hb:mb u H with
    |none=>rw [hb] at hm;exact nn hm
    |some p=>rw [hb] at hm;exact k1 n u p.2 rfl hq hb hm
def vz(mc:V→M Bool)(me:V→M V)(acc:VA)(v:V):M Unit:=(mc v).d fun c=>bif c then(me v).d fun u=>(fQ (.ref acc) [u]).d fun _=>pU () else pU ()
def hasItems(src:V):M Unit:=fun H=>match itemAt H src 0 with
 |none=>none
 |some _=>some ((),H)
def fW(tg:Nat)(src:V)(mc:V→M Bool)(me:V→M V):M V:=(hasItems src).d fun _=>(dB tg).d fun x=>(lL x []).d fun r=>(i7 src (vz mc me x) 10000000 0).d fun _=>pU r
variable {tg:Nat}
theorem GW(R:RS g S s)(L:Aw g S I src i)(h:Q (.ref I) s):wpAny (Mo g) A (pyIter (.ref I)) Q E s:=by
 refine sO L.2.2 fun a o _ e c d=>?_
 unfold MM at c
 induction hb:src.isTup with
 |true=>replace c:=(hb)▸c;exact wpAny_pyIter_tupleiter (R.heap▸((jc o e c d):S.h.IsTupleIter I a i)) h
 |false=>replace c:=(hb)▸c;exact wpAny_pyIter_listiter (R.heap▸((jc o e c d):S.h.IsListIter I a i)) h
theorem Fits.drop(F:Fits g fr ((i,v)::Lo) S)(h:Lo.lookup i=none):Fits g fr Lo S:=by
 have k:∀j w,Lo.lookup j=some w→((i,v)::Lo).lookup j=some w:=fun j w e=>by
  rw [b7]
  induction hb:j==i with
  |true=>rw [beq_iff_eq.mp hb,h] at e;exact nn e
  |false=>exact e
 refine⟨F.kind,F.glob,F.blt,F.nm,?_,fun n w e=>F.Ie n w (k n w e),F.QE,F.J8,F.Oh,F.inj⟩
 refine aS (F.ns) fun mm a b=>?_
 exact dG mm a (fun j w n e q=>b j w n (k j w e) q)
noncomputable def zq(target:Expr)(ifs:List Expr)(it:Value)(env:Env)(tail:Sem Unit)(v:Value):Sem Unit:=letOwnedTupleGo target it v>>=fun _=>assign target env v>>=fun _=>
 (forIn ifs true fun c r=>if r=true then do let ok←isTrue c env (eval c env);pure (ForInStep.yield ok) else pure (ForInStep.yield r))>>=fun ok=>if ok=true then tail else pure ()
def Es(e:Expr)(d:Nat)(target iter:Expr)(ifs:List Expr)(it acc:Value)(env:Env)(tail:Sem Unit):Prop:=compTurn e d it acc env=(do
   standAt iter.pos
   match←pyNext it with
   |none=>pure (.done .next)
   |some v=>
    letOwnedTupleGo target it v
    assign target env v
    let mut ok:=true
    for c in ifs do
     if ok then ok←isTrue c env (eval c env)
    if ok then tail
    again (.compLoop e d it acc env))
theorem PV{elt target iter:Expr}{pos:Pos}{it acc:Value}{env:Env}{tail:Sem Unit}{A:Around}{R:Result→Shared→Prop}(hT:Es (.ListComp elt gens scope pos) d target iter ifs it acc env tail)(I:Nat→Shared→Prop)
  (turn:∀n s,I n s→∀E,wpAny (Mo g) A (pyNext it) (fun r bJ=>match r with
   |none=>R (.ok .next) bJ
   |some v=>∀E,wpAny (Mo g) A (zq target ifs it env tail v) (fun _ gQ=>∃m,m<n∧I m gQ) E bJ) E s) (n:Nat) {s:Shared} (h:I n s):codeAny (Mo g) A (.compLoop (.ListComp elt gens scope pos) d it acc env) R s:=by
 refine codeAny_loop rfl I (fun n s hI=>?_) n h
 show wpAny _ A ((compTurn (.ListComp elt gens scope pos) d it acc env).onRaise (fun x=>do noteFrame x env;theTreesLotGoes x)) _ _ s
 refine wpAny_noted ?_
 refine(ah (show compTurn (.ListComp elt gens scope pos) d it acc env=_ from hT))▸?_
 refine wpAny_bind (wpAny_standAt (wpAny_bind (wpAny_mono (turn n s hI _) (fun r bJ fb=>?_) fun _ _ h'=>h')))
 induction r with
 |none=>exact wpAny_pure fb
 |some v=>
  haveI e:∀c:Code,(zq target ifs it env tail v>>=fun _=>again c)=(do
    letOwnedTupleGo target it v
    assign target env v
    let mut ok:=true
    for c in ifs do
     if ok then ok←isTrue c env (eval c env)
    if ok then tail
    again c):=fun c=>by
   unfold zq
   simp only [bind_assoc]
   congr;funext _;congr;funext _;congr;funext ok
   induction ok<;>simp
  show wpAny _ _ (do
    letOwnedTupleGo target it v
    assign target env v
    let mut ok:=true
    for c in ifs do
     if ok then ok←isTrue c env (eval c env)
    if ok then tail
    again _) _ _ _
  rw [←e]
  exact wpAny_bind (wpAny_mono (fb _) (fun _ gQ IB=>wpAny_pure ⟨rfl,IB⟩) fun _ _ x=>x)
theorem xM(hA:A.handled=none){elt target iter:Expr}{ifs:List Expr}{scope:Scope}{pos:Pos}{tail:Sem Unit}{LC:Lc}{src:V}{I aa:Addr}{acc:VA}{mb:V→M Unit}
  (hT:Es (.ListComp elt gens scope pos) d target iter ifs (.ref I) (.ref aa) cf.env tail) (hO:Off g cf I)
  (hb:∀v y i S s H',RS g S s→Fits g cf LC S→Aw g S I src i→bu g S v y→bu g S (.ref acc) (.ref aa)→mb v S.H=some ((),H')→Runs g (fun a=>X0 g a∨a=cf.env.locals) A (zq target ifs (.ref I) cf.env tail y) S s fun S' _=>S'.H=H'∧Fits g cf LC S')
  {nv:Rp} {iS:Shared} (R₀:RS g nv iS) {n i:Nat} (LI:Fits g cf LC nv) (LL:Aw g nv I src i) (ha:bu g nv (.ref acc) (.ref aa)) {H':Hp} (hm:i7 src mb n i nv.H=some ((),H')) {R':Result→Shared→Prop}
  (hR:∀S' s',RS g S' s'→Ext nv S' (fun a=>X0 g a∨a=cf.env.locals∨a=I)→S'.H=H'→Fits g cf LC S'→R' (.ok .next) s'):
  codeAny (Mo g) A (.compLoop (.ListComp elt gens scope pos) d (.ref I) (.ref aa) cf.env) R' iS:=by
 have UX:∀{S:Rp} {s:Shared} {i:Nat},RS g S s→Fits g cf LC S→Aw g S I src i→∀b o,(X0 g b∨b=cf.env.locals∨b=I)→S.h.get? b=some o→¬Calm o:=fun R F L b o hb=>(GV (src:=src)).calm R F L b o (hb.elim (fun h=> .inl (.inl h)) fun h=>h.imp_left fun h=> .inr (.inl h))
 have ZE:¬(X0 g I∨I=cf.env.locals):=fun h=>h.elim hO.2.1 fun e=>hO.1 e.symm
 refine PV hT (fun n s=>∃S i,RS g S s∧Ext nv S (fun a=>X0 g a∨a=cf.env.locals∨a=I)∧Fits g cf LC S∧Aw g S I src i∧i7 src mb n i S.H=some ((),H')) (fun n s z=>qj z fun S i R E F L hm E'=>?_) n (Pa nv i R₀ (Ext.refl nv (UX R₀ LI LL)) LI LL hm)
 refine IT hm (fun hq e=>h9 (BE hA R L hq E') fun r bJ br aD bA e1 hN=>?_) fun m u aG en hq VU hm=>h9 (BE hA R L hq E') fun r bJ br aD bA e1 hN=>?_
 ·induction r with
  |some _=>exact hN.elim
  |none=>exact hR br bJ aD (E.trans (bA.widen (fun a h=> .inr (.inr h)) (UX R F L))) (e1.trans e) (F.q7 bA hO)
 ·induction r with
  |none=>exact hN.elim
  |some y=>
   haveI nP:=F.q7 bA hO
   haveI XB:=E.trans (bA.widen (fun a h=> .inr (.inr h)) (UX R F L))
   exact fun SY=>h9 (hb u y (i+1) br bJ aG aD nP hN.2 hN.1 (ha.ext XB) (e1.symm▸VU) SY) fun _ gQ eh bf cK e2 j3=>
    (dG m (en▸aW m) (Pa eh (i+1) bf (XB.trans (cK.widen (fun a h=>h.imp_right .inl) (UX aD nP hN.2))) j3 (hN.2.ext cK ZE) (e2.symm▸hm)))
theorem Lq(hh:A.handled=none)(ht:s.heap.IsTuple t items)
  (hQ:∀h',(∀b o,s.heap.get? b=some o→h'.get? b=some o)→s.heap.objs.size≤h'.objs.size→Q items.toList {s with heap:=h'}):wpAny (Mo g) A (unpackItems (.ref t) items.size none) Q E s:=by
 have lt:t≠s.heap.objs.size:=by refine aS (ht) fun o e _=>?_;exact gb (bk e)
 unfold unpackItems
 refine wpAny_bind ?_
 unfold notIterableAtAll
 refine wpAny_bind (wpAny_specialOf ht.typeIs PySem.F.slot_tuple_iter.lookup (wpAny_pure ?_))
 simp only [lM,if_false]
 refine wpAny_bind (wpAny_holding (wpAny_pyIter_tuple ht (wpAny_bind (wpAny_holding (wpAny_draw_tuple lt items.size 0 _ _ ⟨_,bz _ rfl,rfl,rfl⟩ (ht.push _) (by lia) fun fb WU bJ=>?_)))))
 rw [List.drop_zero,show items.toList.take items.size=items.toList from List.take_of_length_le (by simp),if_neg (by simp)]
 refine wpAny_bind (wpAny_holding (B6 hh WU ((ht.push _).extBut bJ.extBut lt) (by simp) fun IB xW=>?_))
 simp only [Option.isSome_none,lM,if_false]
 refine wpAny_pure (hQ IB (fun b o e=>xW.1 b o (gb (bk e)) (bJ.extBut b o (gb (bk e)) (aJ _ e))) (ai ?_ xW.2))
 rw [bJ.1,eV];exact eJ _
theorem Gd(hh:A.handled=none)(R:RS g S s)(F:Fits g fr Lo S)(hx:fr.env.scope.names[ix]? =some (x,.local))(hy:fr.env.scope.names[iy]? =some (y,.local))(hv:bu g S (.tup [a,b]) r):
  Runs g (fun a=>X0 g a∨a=fr.env.locals) A (assign (.Tuple [.Name x px,.Name y py] k pt) fr.env r) S s fun S' _=>S'.H=S.H∧Fits g fr ((iy,b)::(ix,a)::Lo) S':=by
 apply JZ hv
 intro t o xs n e hf hc hd hr
 obtain⟨xs⟩:=xs
 replace hr:dq g S [a,b] xs:=hr
 revert hd
 apply jT hr;intro ra _ ha hr
 apply jT hr;intro rb _ hb hr
 apply qK hr;intro hd
 intro E
 rw [arm_assign_Tuple]
 refine wpAny_bind (wpAny_standAt ?_)
 refine(?_:wpAny _ _ (holding [.ref t] (unpackItems (.ref t) (#[ra,rb]:Array Value).size none)>>=fun vs=>assignInOrder [assign (.Name x px) fr.env,assign (.Name y py) fr.env] vs) _ _ _)
 refine wpAny_bind (wpAny_holding (Lq hh ⟨o,by rw [R.heap];exact e,hc,n,hd⟩ fun h' hk hs=>?_))
 rw [R.heap] at hk hs
 refine cQ (R.quiet (X:=fun _=>False) (h':=h') (fun _ _ h=>h.elim) (fun _ h=>h.elim) (fun _ h=>h.elim) (fun _ h=>h.elim) (fun c o e _=>hk c o e) hs s.toks) fun aD bA=>?_
 have bA:=bA.widen (Y:=X0 g) (fun _ h=>h.elim) R.cP
 refine assignInOrder_cons (wpAny_assign_Name (wpAny_mono (jW aD (F.ext R bA) hx (ha.ext bA) E) (fun _ gQ z77=>wO z77 fun eh bf cK e2 j3=>?_) fun _ _ x=>x))
 refine assignInOrder_cons (wpAny_assign_Name (wpAny_mono (jW bf j3 hy ((hb.ext bA).ext cK) E) (fun _ iT z43=>wO z43 fun fw dp gm e3 wq=>assignInOrder_nil ⟨fw,dp,?_,e3.trans e2,wq⟩) fun _ _ x=>x))
 exact(bA.widen (fun _=> .inl) fun b o hb=>F.calm R b o (hb.imp_right .inl)).trans (cK.trans gm)
theorem K9(R:RS g S s)(L:Aw g S I src i)(h:Q () s):wpAny (Mo g) A (letOwnedTupleGo (.Tuple es k p) (.ref I) v) Q E s:=by
 haveI key:∀(T:String) (vs:Array Value) o,S.h.get? I=some o→o.cls= .type T→o.data= .fields vs→(["enumerate", "zip", "dict_itemiterator", "dict_reverseitemiterator", "odict_iterator", "itertools.zip_longest", "itertools.pairwise"].contains T)=false→wpAny (Mo g) A (letOwnedTupleGo (.Tuple es k p) (.ref I) v) Q E s:=fun T vs o e hc hd hT=>by
  unfold letOwnedTupleGo
  induction v<;>try exact wpAny_pure h
  refine wpAny_bind (wpAny_load (R.heap▸e) ?_)
  (refine hc.symm▸?_;refine hd.symm▸?_)
  refine(?_:wpAny _ _ (if(_&&_)=true then _ else _) _ _ _)
  rw [hT,Bool.false_and,if_neg aw]
  exact wpAny_pure h
 exact sO L.2.2 fun a o _ e c d=>key _ _ o e c d (by unfold MM;induction src.isTup<;>decide+kernel)
theorem Fits.zi(F:Fits g fr Lo S)(R:RS g S s):∀b o,(X0 g b∨b=fr.env.locals)→S.h.get? b=some o→¬Calm o:=fun b o hb=>F.calm R b o (hb.imp_right .inl)
theorem Ea(hA:rn cf.k A){ifs:List Expr}{ix:Nat}{LC:Lc}{ms:V→List (M Bool)}{me:V→M V}(hn:cf.env.scope.names[ix]? =some (x,.local))(JU:LC.lookup ix=none)
  (hc:∀v,SBL g cf ((ix,v)::LC) ifs (ms v)) (he:∀v,SE g cf ((ix,v)::LC) elt (me v)) {it y:Value} {acc:VA} {aa:Addr} {v:V} {S:Rp} {s:Shared} {H':Hp} (R:RS g S s) (F:Fits g cf LC S) (hy:bu g S v y) (ha:bu g S (.ref acc) (.ref aa)) (hm:vz (fun v=>testM .And (ms v)) me acc v S.H=some ((),H')):
  Runs g (fun a=>X0 g a∨a=cf.env.locals) A (zq (.Name x px) ifs it cf.env (do let _←call (.builtin "list.append") [.ref aa,←eval elt cf.env]) y) S s fun S' _=>S'.H=H'∧Fits g cf LC S':=by
 intro E
 refine bs hm fun b dg Qn hm=>?_
 unfold zq
 refine wpAny_bind (wpAny_of_eq (a:=()) rfl (wpAny_bind (wpAny_assign_Name (h9 (jW R F hn hy E) fun _ gQ eh bf cK e2 j3=>?_))))
 refine wpAny_bind (h9 (Hj (b:=b) (H':=dg) hA (hc v) bf j3 (e2.symm▸Qn) E) fun b' iT fw dp gm e3 hb=>?_)
 have S0:=cK.trans (gm.widen (fun a h=> .inl h) (j3.zi bf))
 have wq:=j3.ext bf gm
 apply iH hb
 induction b with
 |false=>exact wpAny_pure (iq fw dp S0 (e3.trans (Lk hm)) (wq.drop JU))
 |true=>
  replace hm:=e3▸hm
  refine wpAny_bind ((he v).go hA dp wq hm E fun z Jj Ax w mI qC hz hm=>?_)
  refine bs hm fun u' gZ ZO hm=>?_
  haveI S1:=S0.trans (qC.widen (fun a h=> .inl h) (wq.zi dp))
  haveI F5:=wq.ext dp qC
  exact wpAny_bind (h9 (DJ A Ax Jj (by have:=hA.2.1;lia) mI (.ref acc) [w] _ [z] (ha.ext S1) (.cons hz .nil) u' gZ ZO E) fun _ Jk Er xG En e5 _=>wpAny_pure (iq Er xG (S1.trans (En.widen (fun a h=> .inl h) (F5.zi mI))) (e5.trans (Lk hm)) ((F5.ext mI En).drop JU)))
def H5(g:Gl)(fr:zw)(scope:Scope)(A:Around)(e:Expr)(LC:Lc)(cm:V→VA→M Unit):Prop:=∀C src I aa (nv:Rp) acc iS H',RS g nv iS→Off g (yP fr scope C) I→Fits g (yP fr scope C) LC nv→Aw g nv I src 0→bu g nv (.ref acc) (.ref aa)→cm src acc nv.H=some ((),H')→
 ∀{R':Result→Shared→Prop},(∀S' s',RS g S' s'→Ext nv S' (fun a=>X0 g a∨a=C∨a=I)→S'.H=H'→Fits g (yP fr scope C) LC S'→R' (.ok .next) s')→codeAny (Mo g) A (.compLoop e 0 (.ref I) (.ref aa) (yP fr scope C).env) R' iS
def Me(tg:Nat)(cm:V→VA→M Unit)(src:V):M V:=(hasItems src).d fun _=>(dB tg).d fun x=>(lL x []).d fun r=>(cm src x).d fun _=>pU r
theorem Il{C:Prop}(hm:Me tg cm src H=some (v,H'))(k:∀bh,itemAt H src 0≠none→lL ⟨tg,H.next⟩ [] H=some (.ref ⟨tg,H.next⟩,bh)→cm src ⟨tg,H.next⟩ bh=some ((),H')→v= .ref ⟨tg,H.next⟩→C):C:=by
 refine bs hm fun _ kX h0 hm=>?_
 unfold hasItems at h0
 induction hq:itemAt H src 0 with
 |none=>rw [hq] at h0;exact nn h0
 |some q=>
  rw [hq] at h0
  haveI hm:((lL ⟨tg,H.next⟩ []).d fun r=>(cm src ⟨tg,H.next⟩).d fun _=>pU r) H=some (v,H'):=(Lk h0).symm▸hm
  refine bs hm fun r bh h3 hm=>bs hm fun _ dg h4 hm=>?_
  haveI hr:r= .ref ⟨tg,H.next⟩:=by
   unfold lL u5 at h3
   split at h3
   ·split at h3
    ·exact(QF h3).symm
    ·exact nn h3
   ·exact nn h3
  refine k bh (fun e=>nn (e.symm.trans hq)) (hr▸h3) ((Lk hm)▸h4) ((QF hm).symm.trans hr)
theorem AE(hA:rn fr.k A)(R:RS g S s)(F:Fits g fr Lo S){elt target iter:Expr}{gs:List Comprehension}{scope:Scope}{pos:Pos}{uw:List (Nat×Nat)}{LC:Lc}{mi:M V}{cm:V→VA→M Unit}
  (hi:SE g fr Lo iter mi) (hk:scope.kind= .function) (nm:namesOk scope.names=true) (uQ:oU uw fr.sh fr.env.scope.names 0 scope.names=true) (hL:Ck uw scope.names LC Lo) (lp:H5 g fr scope A (.ListComp elt (⟨target,iter,ifs,0⟩::gs) scope pos) LC cm)
  {v:V} {H':Hp} (hm:(mi.d fun src=>Me tg cm src) S.H=some (v,H')) {E:Value→Shared→Prop} {RR:Value→Addr→Result→Shared→Prop}
  (ZH:∀S' s' acc C,RS g S' s'→Ext S S' (X0 g)→S'.H=H'→bu g S' v acc→Off g fr C→¬S'.foot C→S.h.objs.size≤C→(∃m,S'.h.Ns C m)→RR acc C (.ok .next) s'):
  wpAny (Mo g) A (eval iter fr.env) (fun UP bJ=>wpAny (Mo g) A (pyIter UP) (fun it gQ=>wpAny (Mo g) A (newList []) (fun acc iT=>wpAny (Mo g) A (newFunctionEnv scope fr.env.globals (wA fr.env.cells scope.names []) [] fr.env.qual none .none (some fr.env)) (fun Tc Jj=>
   codeAny (Mo g) A (.compStart (.ListComp elt (⟨target,iter,ifs,0⟩::gs) scope pos) 0 it acc {Tc with scope:=relabel scope fr.env}) (RR acc Tc.locals) Jj) E iT) E gQ) E bJ) E s:=by
 refine hi.go hA R F hm E fun UP bJ br src aD bA tM hm=>Il hm fun bh qH h3 h4 O9=>?_
 haveI nP:=F.ext R bA
 refine Sk (yx aD tM qH E) fun it gQ eh bf cK e2 hit tm=>?_
 apply iH hit
 have j3:=nP.ext aD cK
 refine h9 (GU (x:=⟨tg,br.H.next⟩) (v:= .ref ⟨tg,br.H.next⟩) (H':=bh) bf (vs:= []) (rs:= []) .nil (e2.symm▸h3) E) fun acc iT fw dp gm e3 VS=>?_
 apply iR VS
 intro hd
 haveI wq:=j3.ext bf gm
 haveI OB:=tm.ext gm fun h=>absurd (bf.vC h) (cg.mpr tm.2.1)
 haveI NM:=pj nm
 haveI n0:∀y∈scope.names,y.2≠ .cell:=fun y hy=>by
  refine dh (aQ.mp hy) fun j hj=>?_
  exact(ux (k:=y.2) (n:=y.1) uQ hj).1
 refine wpAny_newFunctionEnv n0 (by intro y hy;simp at hy) (fun fb A0 Ym=>?_) hk
 haveI Qr:=dp.heap
 haveI keep:∀b o,fw.h.get? b=some o→fb.get? b=some o:=fun b o e=>by
  haveI hb:b≠iT.heap.objs.size:=by refine Qr.symm▸?_;exact gb (bk e)
  exact(Ym.2 b hb).trans (by refine Qr.symm▸?_;exact aJ _ e)
 haveI wY:fw.h.objs.size≤fb.objs.size:=by
  rw [Ym.1,eV,Qr];exact eJ _
 refine cQ (dp.quiet (X:=fun _=>False) (h':=fb) (fun _ _ h=>h.elim) (fun _ h=>h.elim) (fun _ h=>h.elim) (fun _ h=>h.elim) (fun b o e _=>keep b o e) wY (iT.toks+([]:List (Str×Value)).length)) fun mI qC=>?_
 haveI VQ:¬(Rp.mk fw.H fw.ρ fw.δ fb).foot iT.heap.objs.size:=fun q=>dp.fm (by refine Qr.symm▸?_;exact az _) q
 haveI F5:Fits g (yP fr scope iT.heap.objs.size) LC ⟨fw.H,fw.ρ,fw.δ,fb⟩:=wq.comp dp hk nm uQ hL (by refine Qr.symm▸?_;exact az _) VQ A0 keep (fun a h=> .inl h) (fun v r h=>h.ext qC)
 haveI QV:Aw g ⟨fw.H,fw.ρ,fw.δ,fb⟩ br.h.objs.size src 0:=OB.ext qC fun h=>h
 haveI hO:Off g (yP fr scope iT.heap.objs.size) br.h.objs.size:=F5.QB mI QV
 haveI ZG:Off g fr iT.heap.objs.size:=wq.off dp (by refine Qr.symm▸?_;exact az _)
 haveI loop:∀Jk:Shared,Jk={iT with heap:=fb,toks:=iT.toks+([]:List (Str×Value)).length}→codeAny (Mo g) A (.compLoop (.ListComp elt (⟨target,iter,ifs,0⟩::gs) scope pos) 0 (.ref br.h.objs.size) (.ref (fw.ρ ⟨tg,br.H.next⟩)) (yP fr scope iT.heap.objs.size).env)
   (RR (.ref (fw.ρ ⟨tg,br.H.next⟩)) iT.heap.objs.size) Jk:=by
  rintro Jk rfl
  refine lp iT.heap.objs.size src br.h.objs.size _ _ ⟨tg,br.H.next⟩ _ _ mI hO F5 QV (bu.Ed (qC.kz _ hd).1 (qC.kz _ hd).2.1) (by refine(?_:cm _ _ fw.H=_);rw [e3];exact h4) fun S' s' R' E' e' F'=>?_
  haveI lt2:br.h.objs.size<eh.h.objs.size:=by refine aS (tm.at_) fun o e _=>?_;exact bk e
  haveI Tx:eh.h.objs.size≤iT.heap.objs.size:=by refine Qr.symm▸?_;exact gm.size
  haveI hX:∀{T:Rp} {t:Shared},RS g T t→(∀o,T.h.get? br.h.objs.size=some o→¬Calm o)→T.h.objs.size≤iT.heap.objs.size→∀b o,(X0 g b∨b=iT.heap.objs.size∨b=br.h.objs.size)→T.h.get? b=some o→¬Calm o:=fun {T t} RT hI hC b o hb e=>by
   rcases hb with hb|rfl|rfl
   ·exact RT.cP b o hb e
   ·exact absurd (bk e) (cg.mpr hC)
   ·exact hI o e
  haveI nI:∀{T:Rp},T.h.objs.size≤br.h.objs.size→∀o,T.h.get? br.h.objs.size=some o→¬Calm o:=fun h o e=>absurd (bk e) (cg.mpr h)
  haveI nL:∀{T:Rp} {i:Nat},Aw g T br.h.objs.size src i→∀o,T.h.get? br.h.objs.size=some o→¬Calm o:=fun L o e=>by
   refine aS (L.at_) fun o' e' Lx=>?_;rw [e'] at e;apply so e;exact Lx
  haveI Pt:br.h.objs.size≤iT.heap.objs.size:=ai (cY lt2) Tx
  haveI EE:=(((bA.widen (Y:=fun b=>X0 g b∨b=iT.heap.objs.size∨b=br.h.objs.size) (fun _=> .inl) (hX R (nI bA.size) (ai bA.size Pt))).trans
   (cK.widen (fun _=> .inl) (hX aD (nI (az _)) Pt))).trans (gm.widen (fun _=> .inl) (hX bf (nL tm) Tx))).trans
   ((qC.widen (fun _ h=>h.elim) (hX dp (nL OB) (by refine Qr.symm▸?_;exact az _))).trans E')
  haveI ES:S.h.objs.size≤br.h.objs.size:=bA.size
  refine ZH S' s' _ _ R' (EE.narrow (fun a ha=>?_) R.cP) e' ?_ ZG F'.J8.1 (ai ES Pt) ?_
  ·rcases ha with h|rfl|rfl
   ·exact .inl h
   ·exact .inr (ai ES Pt)
   ·exact .inr ES
  ·refine fC (qC.kz _ hd) fun d1 d2 _=>?_
   refine fC (E'.kz _ d1) fun d3 d4 _=>?_
   exact O9▸bu.Ed d3 (d4.trans d2)
  ·refine aS (F'.ns) fun mm h _=>?_
   exact mK mm h
 exact codeAny_compStart_list (loop _ rfl) (GW mI QV (loop _ rfl))
theorem DV(F:Fits g fr Lo S){scope:Scope}(uQ:oU uw fr.sh fr.env.scope.names 0 scope.names=true):∀p∈scope.names,p.2= .free→(fr.env.cells.lookup p.1).isSome=true:=fun p hp hf=>by
 refine dh (aQ.mp hp) fun i hi=>?_
 refine sO ((ux (n:=p.1) (k:=p.2) uQ hi).2 hf) fun j q d1 d2 d3 d4=>?_
 refine aS (F.Oh j p.1 q d2 d3) fun c e1 _=>?_
 refine e1.symm▸?_;rfl
theorem BG{scope:Scope}(nm:namesOk scope.names=true):∀x∈scope.names,x.2= .local→scope.names.lookup x.1=some .local:=fun x hx hl=>by
 refine dh (aQ.mp hx) fun i hi=>?_
 exact gk (pj nm).once (i:=i) (by(refine hi.symm▸?_;refine(hl)▸?_;with_reducible rfl))
theorem xR(d:o.data= .dict es ep):¬Calm o:=by
 rintro (⟨xs,n,e⟩|⟨f,e⟩|⟨ws,x,t,e,_⟩)<;>exact nN (e.symm.trans d)
theorem D5(hA:rn fr.k A){elt iter:Expr}{scope:Scope}{pos:Pos}{LC:Lc}{ms:V→List (M Bool)}{me:V→M V}{ix:Nat}(hx:scope.names[ix]? =some (x,.local))(JU:LC.lookup ix=none)
  (hc:∀C v,SBL g (yP fr scope C) ((ix,v)::LC) ifs (ms v)) (he:∀C v,SE g (yP fr scope C) ((ix,v)::LC) elt (me v)):H5 g fr scope A (.ListComp elt [⟨.Name x px,iter,ifs,0⟩] scope pos) LC fun src acc=>i7 src (vz (fun v=>testM .And (ms v)) me acc) 10000000 0:=
 fun C _ _ aa _ _ _ _ R hO F L ha hm _ z=>xM (cf:=yP fr scope C) (tail:=do let _←call (.builtin "list.append") [.ref aa,←eval elt (yP fr scope C).env]) hA.2.2 (compTurn_list ..) hO (fun _ _ _ _ _ _ R F _ hy ha hm=>Ea (cf:=yP fr scope C) hA (aI hx (by simp)) JU (hc C) (he C) R F hy ha hm) R F L ha hm z
theorem JI{elt target iter:Expr}{mi:M V}{cm:V→VA→M Unit}(uw:List (Nat×Nat))(LC:Lc)
  (hi:SE g fr Lo iter mi) (hk:scope.kind= .function) (nm:namesOk scope.names=true) (uQ:oU uw fr.sh fr.env.scope.names 0 scope.names=true) (hL:Ck uw scope.names LC Lo) (lp:∀A,rn fr.k A→H5 g fr scope A (.ListComp elt (⟨target,iter,ifs,0⟩::gs) scope pos) LC cm)
  (hs:∀x,foldedSetIterable iter fr.env x=pure x):SE g fr Lo (.ListComp elt (⟨target,iter,ifs,0⟩::gs) scope pos) (mi.d fun src=>Me tg cm src):=by
 intro A S s hA R F v H' hm
 intro E
 rw [eval_ListComp]
 refine wpAny_comprehension_free rfl hs (oY (DV F uQ)) hk (BG nm) ?_
 refine AE hA R F hi hk nm uQ hL (lp A hA) hm fun S' s' acc C R' E' e' hv hO hC ES z94=>dh z94 fun m A0=>?_
 refine dG m (by refine R'.heap.symm▸?_;exact A0) (fun h' rk=>?_)
 have rk:bU C S'.h h':=R'.heap▸rk
 refine Gw (id A0) fun o es ep e hd _=>?_
 obtain⟨R2,E2⟩:=quietAt R' (I:=C) (h':=h') (fun o' e2=>by
  rw [e] at e2;apply so e2;exact xR hd) hC (ai R.big ES) (SameBut.Mx rk) s'.toks
 have hX:∀b o,(X0 g b∨b=C)→S'.h.get? b=some o→¬Calm o:=by
  rintro b o' (hb|rfl) e2
  ·exact R'.cP b o' hb e2
  ·rw [e] at e2;apply so e2;exact xR hd
 haveI W:=(E'.widen (Y:=fun b=>X0 g b∨b=C) (fun _=> .inl) (by
  rintro b o' (hb|rfl) e2
  ·exact R.cP b o' hb e2
  ·exact absurd (bk e2) (cg.mpr ES))).trans (E2.widen (fun _=> .inr) hX)
 exact iq _ R2 (W.narrow (fun a ha=>ha.imp_right fun h=>by refine h.symm▸?_;exact ES) R.cP) e' (hv.ext E2)
theorem md{elt iter:Expr}{pos:Pos}{mi:M V}{ms:V→List (M Bool)}{me:V→M V}(ix:Nat)(uw:List (Nat×Nat))(LC:Lc)
  (hi:SE g fr Lo iter mi) (hk:scope.kind= .function) (nm:namesOk scope.names=true) (uQ:oU uw fr.sh fr.env.scope.names 0 scope.names=true) (hL:Ck uw scope.names LC Lo) (hx:scope.names[ix]? =some (x,.local)) (JU:LC.lookup ix=none)
  (hc:∀C v,SBL g (yP fr scope C) ((ix,v)::LC) ifs (ms v)) (he:∀C v,SE g (yP fr scope C) ((ix,v)::LC) elt (me v))
  (hs:∀x,foldedSetIterable iter fr.env x=pure x:=by intro _;rfl):
  SE g fr Lo (.ListComp elt [⟨.Name x px,iter,ifs,0⟩] scope pos) (mi.d fun src=>fW tg src (fun v=>testM .And (ms v)) me):=JI uw LC hi hk nm uQ hL (fun _ hA=>D5 hA hx JU hc he) hs
theorem Fv{elt iter:Expr}{pos apos:Pos}{rest:List Stmt}{fin:List V→Lc}{k:V→M Fl}{mi:M V}{ms:V→List (M Bool)}{me:V→M V}(it:Nat)(ix:Nat)(uw:List (Nat×Nat))(LC:Lc)
  (ht:fr.env.scope.names[it]? =some (t,.local)) (hi:SE g fr Lo iter mi) (hk:scope.kind= .function) (nm:namesOk scope.names=true) (uQ:oU uw fr.sh fr.env.scope.names 0 scope.names=true) (hL:Ck uw scope.names LC Lo) (hx:scope.names[ix]? =some (x,.local)) (JU:LC.lookup ix=none)
  (hc:∀C v,SBL g (yP fr scope C) ((ix,v)::LC) ifs (ms v)) (he:∀C v,SE g (yP fr scope C) ((ix,v)::LC) elt (me v)) (hr:∀v,SS g fr ((it,v)::Lo) rest fin (k v))
  (WD:swapsWith (.ListComp elt [⟨.Name x px,iter,ifs,0⟩] scope pos) (some (.Name t pt)) apos.line fr.env=pure true)
  (hs:∀x,foldedSetIterable iter fr.env x=pure x:=by intro _;rfl):
  SS g fr Lo (.Assign [.Name t pt] (.ListComp elt [⟨.Name x px,iter,ifs,0⟩] scope pos) apos::rest) fin ((mi.d fun src=>fW tg src (fun v=>testM .And (ms v)) me).d k):=by
 intro A S s hA R F v H' hm
 refine bs hm fun u aG a b=>?_
 refine Runs.cons fun E=>?_
 refine(ah (exec_Assign_Name_used _ _ _ _ WD))▸?_
 refine wpAny_bind (wpAny_standAt (wpAny_bind ?_))
 rw [arm_evalThenUse_ListComp]
 refine wpAny_bind (wpAny_comprehension_free rfl hs (oY (DV F uQ)) hk (BG nm) ?_)
 refine AE hA R F hi hk nm uQ hL (D5 hA hx JU hc he) a fun S' s' acc C R' E' e' hv hO hC ES z58=>dh z58 fun m A0=>?_
 haveI F':=F.ext R E'
 subst e'
 refine wpAny_assign_Name (wpAny_mono (jW R' F' ht hv E) (fun _ gQ z20=>wO z20 fun eh bf cK e2 j3=>?_) fun _ _ x=>x)
 refine Gw (id A0) fun o es ep e hd Wy=>?_
 have XX:¬(X0 g C∨C=fr.env.locals):=fun h=>h.elim hO.2.1 fun q=>hO.1 q.symm
 have VI:eh.h.get? C=some o:=cK.keep C o e hC XX
 have Zz:=cK.jI e hC XX
 refine dG m ⟨o,es,ep,by refine bf.heap.symm▸?_;exact VI,hd,Wy⟩ (fun h' rk=>?_)
 haveI rk:bU C eh.h h':=bf.heap▸rk
 have L5:∀{T:Rp},T.h.get? C=some o→∀o',T.h.get? C=some o'→¬Calm o':=fun {T} q o' q2=>by
  rw [q] at q2;apply so q2;exact xR hd
 refine cQ (quietAt bf (I:=C) (h':=h') (L5 VI) Zz (ai R.big ES) (SameBut.Mx rk) gQ.toks) fun R3 E3=>?_
 haveI F3:=j3.q7 E3 hO
 haveI hX:∀{T:Rp} {tt:Shared} {L:Lc},RS g T tt→Fits g fr L T→(∀o',T.h.get? C=some o'→¬Calm o')→∀b o',(Xf g fr b∨b=C)→T.h.get? b=some o'→¬Calm o':=fun {T tt L} RT FT hq b o' hb q=>by
  rcases hb with hb|rfl
  ·exact FT.calm RT b o' hb q
  ·exact hq o' q
 haveI W:=((E'.widen (Y:=fun b=>Xf g fr b∨b=C) (fun _ h=> .inl (.inl h)) (hX R F fun o' q=>absurd (bk q) (cg.mpr ES))).trans (cK.widen (fun _ h=> .inl (h.imp_right .inl)) (hX R' F' (L5 e)))).trans (E3.widen (fun _=> .inr) (hX bf j3 (L5 VI)))
 refine wpAny_pure (wpAny_pure ⟨_,R3,W.narrow (fun a ha=>ha.imp_right fun h=>by refine h.symm▸?_;exact ES) (F.calm R),fun Fu Ko _=>hr u A _ Fu hA Ko F3 v H' (by refine(?_:k u eh.H=_);refine e2.symm▸?_;exact b)⟩)
end
section
open PySem.Builtin PySem.Builtin.ObjectAttr
variable {g:Gl}{fr:zw}{Lo:Lc}
noncomputable def keysOf(H:Hp)(src:V):Option (VA×List V):=match src with
 | .ref x=>(match H.get x with
  |some (.cI es)=>some (x,es.map fun p=> .tup [.str p.1,.none])
  |some (.aU [])=>some (x, [])
  |_=>none)
 |_=>none
def GB(src:V)(mb:V→List V→M Fl)(st:List V):M Fl:=fun H=>match keysOf H src with
 |some (x,ks)=>sP (fun H' i=>if H'.pv x=H.pv x then some ks[i]? else none) mb (ks.length+1) 0 st H
 |none=>none
theorem iQ.keys(h:iQ g S es xs):dq g S (es.map fun p=> .tup [.str p.1,.none]) (xs.map fun x=> .ref x.2.1):=by
 induction h with
 |nil=>exact .nil
 |cons a _ _ ih=>exact .cons a ih
theorem K1(R:RS g S s)(hv:bu g S src r)(h:keysOf S.H src=some (x,ks)):
  S.kz x∧r= .ref (S.ρ x)∧∃es ep,ro S.h (S.ρ x) es ep∧dq g S ks (es.toList.map (·.key)):=by
 unfold keysOf at h
 revert h;refine DE fun y cj h=>?_
 subst cj
 generalize hx:S.H.get y=o at h
 induction o using j1 with
 |none=>exact nn h
 |some o=>induction o using ib.casesOn with
  |cI es=>
   apply pe h
   apply iR hv
   intro hd
   refine aS (R.rep.obj _ _ hx) fun xs q hT=>OT q fun o Tr ep e hc zE he _=>⟨hd,rfl,Tr,ep,⟨o,e,hc.1,zE⟩,?_⟩
   rw [he,eW]
   exact hT.keys
  |aU es=>induction es using ky with
   |nil=>
    apply pe h
    apply iR hv
    intro hd
    refine aS (R.rep.obj _ _ hx) fun fe q hF=>CJ q fun o Tr ep e hc zE _ hp _=>⟨hd,rfl,Tr,ep,⟨o,e,hc.1,zE⟩,?_⟩
    cases hF
    exact(je.mp hp.length).symm▸ .nil
   |cons=>exact nn h
  |_=>exact nn h
theorem tQ{h:Heap}(x:h.IsKeyIter I d i n ep):∃o,h.get? I=some o∧¬Calm o:=j9 x fun o e _ hd=>dG o e (BN hd rfl)
def Vr(g:Gl)(I:Addr)(y:VA)(a:Addr)(es:Array DictEntry)(ep B9:Nat)(ks:List V)(S:Rp)(i:Nat):Prop:=
 (¬S.foot I∧S.h.IsKeyIter I a i es.size ep)∧(S.kz y∧S.ρ y=a)∧B9≤S.H.pv y∧(S.H.pv y=B9→ro S.h a es ep)∧dq g S ks (es.toList.map (·.key))
theorem Nd(hb:g.fb.objs.size≤I):Iter g I (fun H i=>if H.pv y=B9 then some ks[i]? else none) (Vr g I y a es ep B9 ks):=by
 have ext:∀{S S' i j X},Vr g I y a es ep B9 ks S i→Ext S S' X→(¬S'.foot I∧S'.h.IsKeyIter I a j es.size ep)→Vr g I y a es ep B9 ks S' j:=fun {S S' i j X} L E h=>KI L fun _ d v r k=>by
  refine ID h ((E.kz y d.1).imp_right fun z=>z.1.trans d.2) (ai v (E.mono y)) (fun e=>?_) (k.ext E)
  have e0:S.H.pv y=B9:=Cj (e▸E.mono y) v
  exact j9 (r e0).at_ fun o e1 c d1=>⟨o,d.2▸E.same y d.1 (e.trans e0.symm) o (d.2.symm▸e1),c,d1⟩
 refine⟨fun L=>tQ L.1.2,fun L E hX=>ext L E (aS L.1.2 fun o e r=>⟨E.jI e L.1.1 hX,o,E.keep I o e L.1.1 hX,r⟩),fun {A S s i q} hh R L h=>?_⟩
 intro E
 have hq:S.H.pv y=B9∧ks[i]? =q:=by
  by_cases hv:S.H.pv y=B9
  ·rw [if_pos hv] at h;exact⟨hv,Option.some.inj h⟩
  ·rw [if_neg hv] at h;exact nn h
 have Lx:∀o,S.h.get? I=some o→¬Calm o:=fun o' e'=>aS (tQ L.1.2) fun o e hn=>(Option.some.inj (e.symm.trans e'))▸hn
 have raw:=L.2.2.2.1 hq.1
 have rs:=L.2.2.2.2
 induction hx:es[i]? with
 |none=>
  refine K3 hh (R.heap▸L.1.2) (R.heap▸raw) hx fun h' hg=>?_
  haveI hn:q=none:=by
   rw [←hq.2,iI,←rs.length,aq,gv]
   exact Ci.mp hx
  exact cQ (quietAt R Lx L.1.1 hb (R.heap▸hg) s.toks) fun R' E'=>iq _ R' E' rfl (hn▸trivial)
 |some en=>
  refine K2 (R.heap▸L.1.2) (R.heap▸raw) hx fun h' hi hs=>?_
  have hl:i<ks.length:=by rw [←rs.length,aq,gv];exact(j2.mp hx).1
  refine aS (rs.get (bj hl)) fun r hr hv=>?_
  rw [aC,eU,hx] at hr
  haveI hv:bu g S ks[i] en.key:=(show en.key=r from Option.some.inj hr).symm▸hv
  exact cQ (quietAt R Lx L.1.1 hb (SameBut.Mx (R.heap▸hs)) s.toks) fun R' E'=>iq _ R' E' rfl (hq.2▸(bj hl)▸⟨hv.ext E',ext L E' ⟨L.1.1,hi⟩⟩)
theorem Jd{iter:Expr}{k:NameKind}{mi:M V}{mb:V→List V→M Fl}{kk:List V→M Fl}(G:gj g)(ix:Nat)(inv:List V→Lc)(st:List V)(hn:fr.env.scope.names[ix]? =some (x,k))(hk:k= .local∨(k= .cell∧fr.sh.lookup ix=none))
  (hi:SE g fr Lo iter mi) (h0:Sub (inv st) Lo) (hb:∀v st,SS g fr ((ix,v)::inv st) body inv (mb v st)) (hr:∀st,SS g fr (inv st) rest fin (kk st))
  (hs:∀x,foldedSetIterable iter fr.env x=pure x:=by intro _;rfl):SS g fr Lo (.For (.Name x px) iter body [] pos::rest) fin (mi.d fun src=>(GB src mb st).cy kk):=by
 intro A S s hA R F v H' hm
 refine Runs.cons fun E=>wpAny_For (hi.go hA R F hm E fun r bJ br src aD bA tM hm=>?_) hs
 haveI Wg:∃y ks,keysOf br.H src=some (y,ks)∧((sP (fun H' i=>if H'.pv y=br.H.pv y then some ks[i]? else none) mb (ks.length+1) 0 st).cy kk) br.H=some (v,H'):=by
  replace hm:M.cy (fun _=>GB src mb st br.H) kk br.H=some (v,H'):=hm
  unfold GB at hm
  induction hq:keysOf br.H src with
  |some p=>replace hm:=(hq)▸hm;exact ie p.1 p.2 rfl hm
  |none=>replace hm:=(hq)▸hm;exact nn hm
 refine eY Wg fun y ks Wg hm=>?_
 refine fC (K1 aD tM Wg) fun hd er q=>eY q fun es ep raw yW=>?_
 apply iH er
 have WX:=aD.rep.low y hd
 refine IK (pk G WX.1) (aD.heap▸raw) ?_
 refine aD.heap.symm▸?_
 refine cQ (aD.push {cls:= .type "dict_keyiterator",data:= .fields #[.ref (br.ρ y),.int 0 0,.int es.size 0,.int ep 0]} bJ.toks) fun bf cK=>?_
 refine EK hA hn hk hb hr (Nd (y:=y) (a:=br.ρ y) (es:=es) (ep:=ep) (B9:=br.H.pv y) (ks:=ks) aD.big) h0 R F aD bA bf cK ?_ hm fun S' s' f R' E' z=>jc S' R' E' z
 exact ID ⟨fun q=>aD.fm (az _) q,_,bz _ rfl,rfl,rfl⟩ ⟨hd,rfl⟩ (az _) (fun _=>aS raw.at_ fun o e r=>⟨o,aJ _ e,r⟩) (yW.ext cK)
structure Em(D:vE)(n:Nat)(xU:List Nat):Prop where
 par:∀cl doc pm c ct (r:Nat→Value),bindArgs (fnX D.name D.qual D.params D.body D.scope cl .none .none doc pm none (.ref c) ct) ⟨(aR n).map r, []⟩=pure (((D.scope.names.take n).map (·.1)).zip ((aR n).map r))
 len:(D.scope.names.take n).length=n
 nm:namesOk D.scope.names=true
 kinds:(D.scope.names.take n).all (fun p=>p.2== .local)=true
 cells:D.scope.names.all (fun p=>p.2 != .cell)=true
 kind:D.scope.kind= .function
 co:D.scope.isCoroutine=false
 gen:D.scope.isGenerator=false
 frees:(xU.map fun i=>D.scope.names[i]?)=D.frees.map fun n=>some (n,NameKind.free)
 all:∀i n,D.scope.names[i]? =some (n,.free)→i∈xU
 once:xU.Nodup
 Qj:D.frees.Nodup
noncomputable def Ac(D:vE)(cl:List (Str×Addr))(doc pm ct:Value)(c:Addr)(L a:Addr):Env:=callEnv (fnX D.name D.qual D.params D.body D.scope cl .none .none doc pm none (.ref c) ct) L a
theorem wc[BEq α][LawfulBEq α]:∀{l:List α} {r:List β} {x:α} {y:β},(l.zip r).lookup x=some y→∃j:Nat,l[j]? =some x∧r[j]? =some y
 | [],_,_,_,h=>by simp at h
 |_::_, [],_,_,h=>by simp at h
 |a::l,b::r,x,y,h=>by
  rw [xE,b7] at h
  cases hb:x==a with
  |true=>rw [hb] at h;cases h;exact⟨0,by simp [eq_of_beq hb],by simp⟩
  |false=>rw [hb] at h;obtain⟨j,p,q⟩:=wc h;exact⟨j+1,by simpa using p,by simpa using q⟩
theorem xB[BEq α][LawfulBEq α]:∀{l:List α} {r:List β} {j:Nat} {x:α} {y:β},l.Nodup→l[j]? =some x→r[j]? =some y→(l.zip r).lookup x=some y
 | [],_,_,_,_,_,h,_=>by simp at h
 |_::_, [],_,_,_,_,_,h=>by simp at h
 |a::l,b::r,j,x,y,hn,h1,h2=>by
  rw [eI] at hn
  rw [xE,b7]
  cases j with
  |zero=>simp at h1 h2;subst h1 h2;simp
  |succ j=>
   simp at h1 h2
   have:(x==a)=false:=by
    induction hb:x==a with
    |false=>rfl
    |true=>exact(hn.1 (eq_of_beq hb▸aB h1)).elim
   refine this.symm▸?_;exact xB hn.2 h1 h2
theorem IS{l:List (Str×β)}(h:(n,c)∈l)(hn:(l.map (·.1)).Nodup):l.lookup n=some c:=by
 induction l with
 |nil=>exact aj (by cases h)
 |cons p r ih=>
  obtain⟨m,d⟩:=p
  rw [bw,eI] at hn
  rw [b7]
  rcases bF.mp h with e|h
  ·apply po e;simp
  ·have:(n==m)=false:=by
    induction hb:n==m with
    |false=>rfl
    |true=>exact(hn.1 (eq_of_beq hb▸aP.mpr (dG (n,c) h rfl))).elim
   refine this.symm▸?_;exact ih h hn.2
def AD(n:Nat)(m:List VA→List V→M Fl)(cs:List VA)(vs:List V):M V:=fun H=>if cs.Nodup then jh n (m cs) vs H else none
theorem rp(G:gj g)(hD:g.l0 d=D)(O:Em D n xU)
  (h:∀cl doc pm ct c L a cs vs,cs.length=D.frees.length→vs.length=n→SS g ⟨Ac D cl doc pm ct c L a,k,xU.zip cs⟩ ((aR n).zip vs) D.body (fun _=> []) (m cs vs)):
  CC g (k+1) d (AD n m):=by
 intro A S s hA R cs vs f rs hf hv v H' hm E
 subst hD
 unfold AD at hm
 by_cases TC:cs.Nodup
 ·rw [if_pos TC] at hm
  refine cQ (AX hm) fun hlen q=>aS q fun fl O6 Wr=>?_
  haveI NM:=pj O.nm
  apply RF hf
  intro a c o oc pm doc ct vsc t e hfo hc Om hd hl e2 Ry hd2 hq
  haveI Vb:=hv.length
  haveI ME:(((g.l0 d).scope.names.take n).map (·.1)).length=n:=by rw [aq];exact O.len
  haveI U9:(((g.l0 d).scope.names.take n).map (·.1)).Nodup:=iP.nodup (iP.map _ (yN ..)) NM.once
  haveI hb:bindArgs (fnX (g.l0 d).name (g.l0 d).qual (g.l0 d).params (g.l0 d).body (g.l0 d).scope ((g.l0 d).frees.zip (cs.map S.ρ)) .none .none doc pm none (.ref c) ct) ⟨rs, []⟩=pure ((((g.l0 d).scope.names.take n).map (·.1)).zip rs):=G9 (Vb.trans hlen)▸O.par _ doc pm c ct _
  haveI Sy:s.heap.NoLimit:=by
   refine aS (G.nolimit) fun mc cj q=>?_
   refine CI (cj) fun o es ep e r=>?_
   exact dG mc ⟨o,es,ep,R.heap▸R.old _ o e (fun q hq h=>(G.stat q hq).1 h.symm),r⟩ q
  haveI UZ:((((g.l0 d).scope.names.take n).map (·.1)).zip rs).map (·.1)=((g.l0 d).scope.names.take n).map (·.1):=Of (fZ (ME.trans (Vb.trans hlen).symm))
  haveI idx:∀x r,(x,r)∈(((g.l0 d).scope.names.take n).map (·.1)).zip rs→∃i:Nat,(g.l0 d).scope.names[i]? =some (x,.local)∧rs[i]? =some r:=fun x r hx=>by
   refine dh (aQ.mp hx) fun i hi=>?_
   rw [fJ] at hi
   refine cQ (hi) fun h1 h2=>?_
   replace h1:=(aC)▸h1
   refine aS (ba.mp h1) fun p hp cj=>?_
   subst cj
   haveI hk:=du.mp O.kinds p (aB hp)
   replace hp:=(ig)▸hp
   split at hp
   ·haveI hk:p.2= .local:=by simpa using hk
    exact dG i (by(refine hp.symm▸?_;refine(hk)▸?_;with_reducible rfl)) h2
   ·exact nn hp
  refine wpAny_call (codeAny_call_straight (a:=a) hA.room (by refine R.heap.symm▸?_;exact e) hd Sy ⟨c,oc,vsc,t,rfl,by refine R.heap.symm▸?_;exact e2,hd2,hq⟩ rfl hb ?_ ?_ ?_ O.co O.gen O.kind)
  ·intro x hx
   have:=du.mp O.cells x hx
   simpa using this
  ·intro x hx
   refine aS (idx x.1 x.2 hx) fun i h1 _=>?_
   exact gk NM.once h1
  ·intro bJ IC
   obtain⟨⟨fb,tk,rfl⟩,A0,keep,_⟩:=IC
   haveI A0:fb.Ns s.heap.objs.size _:=A0
   haveI keep:∀b o,S.h.get? b=some o→fb.get? b=some o:=fun b o e=>keep b o (by refine R.heap.symm▸?_;exact e)
   have wY:S.h.objs.size≤fb.objs.size:=by refine(R.heap)▸?_;exact cY A0.lt
   refine cQ (R.quiet (X:=fun _=>False) (h':=fb) (fun _ _ h=>h.elim) (fun _ h=>h.elim) (fun _ h=>h.elim) (fun _ h=>h.elim) (fun b o e _=>keep b o e) wY tk) fun aD bA=>?_
   haveI UU:¬(Rp.mk S.H S.ρ S.δ fb).foot s.heap.objs.size:=fun hf=>R.fm (by refine R.heap.symm▸?_;exact az _) hf
   haveI big:g.fb.objs.size≤s.heap.objs.size:=by refine R.heap.symm▸?_;exact R.big
   have XK:∀(j i:Nat),xU[j]? =some i→∃x,(g.l0 d).scope.names[i]? =some (x,.free)∧(g.l0 d).frees[j]? =some x:=fun j i hj=>by
    haveI h1:(xU.map fun i=>(g.l0 d).scope.names[i]?)[j]? =some ((g.l0 d).scope.names[i]?):=by(refine(ah (aC))▸?_;refine hj.symm▸?_);rfl
    (replace h1:=(O.frees)▸h1;replace h1:=(aC)▸h1)
    refine aS (ba.mp h1) fun x a b=>?_
    exact dG x b.symm a
   have cell:∀{x:Str} {c:Addr},((g.l0 d).frees.zip (cs.map S.ρ)).lookup x=some c→∃j y,(g.l0 d).frees[j]? =some x∧cs[j]? =some y∧c=S.ρ y:=fun {x c} hx=>by
    refine aS (wc hx) fun j a b=>?_
    replace b:=(aC)▸b
    refine aS (ba.mp b) fun y hy cj=>?_
    subst cj
    exact zF j y a hy rfl
   have F:Fits g ⟨Ac (g.l0 d) ((g.l0 d).frees.zip (cs.map S.ρ)) doc pm ct c s.heap.objs.size a,k,xU.zip cs⟩ ((aR n).zip vs) ⟨S.H,S.ρ,S.δ,fb⟩:=by
    refine Fits.mk O.kind rfl rfl NM ⟨_,A0,fun i v x hi hx=>?_⟩ (fun i v hi=>?_) (fun i x hx=>?_) ⟨UU,big⟩ (fun i x q hx hq=>?_) (fun x y c hx hy=>?_)
    ·have hx:(g.l0 d).scope.names[i]? =some (x,.local):=hx
     refine aS (hv.get (nf hlen hi)) fun r hr O9=>?_
     haveI GF:i<n:=hlen▸(aF.mp (nf hlen hi)).1
     refine dG r (IS (Og.mpr (aQ.mpr ⟨i,?_⟩)) (by(refine List.map_reverse.symm▸?_;refine UZ.symm▸?_);exact(List.Perm.nodup_iff (List.reverse_perm _)).mpr U9)) (O9.ext bA)
     rw [fJ]
     exact iN (by(refine(ah (aC))▸?_;refine(ah (ig))▸?_;refine(ah (if_pos GF))▸?_;refine hx.symm▸?_);rfl) hr
    ·haveI GF:i<n:=hlen▸(aF.mp (nf hlen hi)).1
     have V8:i<(g.l0 d).scope.names.length:=aT GF (ai (fZ O.len.symm) (va _ _))
     obtain⟨⟨x,q⟩,hx⟩:∃p,(g.l0 d).scope.names[i]? =some p:=⟨_,bj V8⟩
     haveI hk:=du.mp O.kinds (x,q) (aQ.mpr ⟨i,by(refine(ah (ig))▸?_;refine(ah (if_pos GF))▸?_);exact hx⟩)
     haveI hk:q= .local:=by simpa using hk
     exact ie x q hx (.inl hk)
    ·refine aS (wc hx) fun j a1 a2=>?_
     refine aS (XK j i a1) fun y b1 b2=>?_
     exact zG y _ b1 (.inr rfl) (Om x (aB a2)) (xB O.Qj b2 (by(refine(ah (aC))▸?_;refine a2.symm▸?_);rfl))
    ·haveI hx:(g.l0 d).scope.names[i]? =some (x,q):=hx
     haveI su:q= .free:=by
      rcases hq with h|h
      ·have:=du.mp O.cells (x,q) (aB hx)
       subst h;simp at this
      ·exact h
     subst su
     refine dh (aQ.mp (O.all i x hx)) fun j hj=>?_
     refine aS (XK j i hj) fun y b1 b2=>?_
     replace b1:=(hx)▸b1;cases b1
     haveI TR:j<cs.length:=by refine(hl)▸?_;exact(aF.mp b2).1
     obtain⟨z,hz⟩:∃z,cs[j]? =some z:=⟨_,bj TR⟩
     refine jc (S.ρ z) (xB O.Qj b2 (by(refine(ah (aC))▸?_;refine hz.symm▸?_);rfl)) ?_ (fun hs=>?_)
     ·have:=(R.rep.lt z (Om z (aB hz))).1
      replace this:=R.heap.symm▸this
      exact gb this
     ·replace hs:=(xB O.once hj hz)▸hs;cases hs
    ·refine sN (cell hx) fun j y1 a1 a2 cj=>?_
     subst cj
     refine sN (cell hy) fun j' y2 b1 b2 e=>?_
     have Zw:y1=y2:=by
      by_cases hy:y1=y2
      ·exact hy
      ·exact((R.rep.apart y1 y2 (Om _ (aB a2)) (Om _ (aB b2)) hy).1 e).elim
     subst Zw
     have hj:j=j':=(jN (aF.mp a2).1 TC).mp (a2.trans b2.symm)
     subst hj
     replace b1:=(a1)▸b1;apply so b1;rfl
   have W:∀{S':Rp},Ext ⟨S.H,S.ρ,S.δ,fb⟩ S' (Xf g ⟨Ac (g.l0 d) ((g.l0 d).frees.zip (cs.map S.ρ)) doc pm ct c s.heap.objs.size a,k,xU.zip cs⟩)→Ext S S' (X0 g):=fun {S'} E'=>
    ((bA.widen (Y:=Xf g ⟨Ac (g.l0 d) ((g.l0 d).frees.zip (cs.map S.ρ)) doc pm ct c s.heap.objs.size a,k,xU.zip cs⟩) (fun _ h=>h.elim) (fun a o hx e=>F.calm aD a o hx (keep a o e))).trans E').narrow (fun a hx=>by
     rcases hx with h|rfl|⟨i,x,hi,_,_⟩
     ·exact .inl h
     ·exact .inr (by refine(R.heap)▸?_;exact az _)
     ·have:=du.mp O.cells (x,.cell) (aB hi)
      simp at this) R.cP
   exact h9 (h _ doc pm ct c s.heap.objs.size a cs vs hl.symm hlen _ _ _ hA.down aD F _ _ O6 _) fun f s' S' R' E' e z=>iq S' R' (W E') e (Wr▸z.out)
 ·rw [if_neg TC] at hm;exact nn hm
def r0(v:V):M VA:=(dB 8).d fun x=>(u5 x (.cell v)).d fun _=>pU x
noncomputable def oF(m:M Fl):M Fl:=fun H=>match m H with
 |some (.ret v,H')=>some (.ret v,H')
 |_=>none
theorem G8(h:oF m H=some (v,H')):∃u,v= .ret u∧m H=some (.ret u,H'):=by
 unfold oF at h
 generalize hx:m H=o at h
 induction o using j1 with
 |none=>exact nn h
 |some p=>induction p with
  |mk f aG=>induction f with
   |ret u=>apply pe h;exact dG _ rfl rfl
   |next=>exact nn h
theorem Jh(h:r0 v H=some (x,H')):H.get x=none∧H'=H.set x (.cell v):=by
 refine bs h fun y aG h1 h=>?_
 cases h1
 refine bs h fun r bh h2 h=>?_
 apply pe h
 unfold u5 at h2
 split at h2
 ·apply pe h2;exact⟨by assumption,rfl⟩
 ·exact nn h2
theorem An{st:List Stmt}{mr:VA→M Fl}(i:Nat)(L':Lc)(hn:fr.env.scope.names[i]? =some (n,.cell))(Oo:fr.sh.lookup i=none)(hv:Lo.lookup i=some v)(hL:Sub L' Lo)(ZF:L'.lookup i=none)
  (h:∀x,SS g ⟨fr.env,fr.k,(i,x)::fr.sh⟩ L' st (fun _=> []) (mr x)):SS g fr Lo st fin ((r0 v).d fun x=>oF (mr x)):=by
 intro A S s hA R F w H' hm
 refine bs hm fun x aG h1 hm=>?_
 refine cQ (Jh h1) fun hx cj=>?_;replace hm:=cj▸hm
 refine aS (G8 hm) fun u cj TY=>?_
 apply iH cj
 refine eY (F.Ie i v hv) fun n' k' e1 e2=>?_
 replace e1:=(hn)▸e1;cases e1
 rcases e2 with h0|⟨_,_,c,r,hc,n0,O9⟩
 ·cases h0
 refine ou (F.cellAt hn (.inl rfl) Oo hc) fun nL cj Ad Qm=>?_
 refine eY (cj) fun _ oc VK dc=>?_
 have nc:∀o,S.h.get? c=some o→¬Calm o:=fun o e=>F.calm R c o (.inr (.inr ⟨i,n,hn,hc,Oo⟩)) e
 obtain⟨R',E'⟩:=R.Q4 (X:=fun a=>X0 g a∨a=c) (fun b o hb e=>hb.elim (fun q=>R.cP b o q e) fun q=>by subst q;exact nc o e) (fun _=> .inl) (x:=x) (o':= .cell v) (a:=c) (d:=c) (h':=S.h) hx (fun b o e=>e)
  ⟨.inr ⟨.inr rfl,Qm,Ad⟩,bk VK⟩ ⟨.inr ⟨.inr rfl,Qm,Ad⟩,bk VK⟩ (az _)
  (fun q hq ps _ c' oc' vs t y _ e hd _=>by
   have:c'≠c:=by
    rintro rfl
    haveI e:S.h.get? c'=some oc':=e
    replace e:=(VK)▸e;cases e
    replace dc:=(hd)▸dc;cases dc
   exact iN this this)
  (fun E'=>⟨r,by refine(?_:Heap.IsCell S.h (fP S.ρ x c x) _);rw [da];exact n0,O9.ext E'⟩) s.toks
 haveI hs:s={s with heap:=S.h,toks:=s.toks}:=by(refine(R.heap)▸?_;with_reducible rfl)
 replace R':=hs.symm▸R'
 generalize Sw:(Rp.mk (S.H.set x (.cell v)) (fP S.ρ x c) (fP S.δ x c) S.h)=S' at R' E'
 haveI hH:S'.H=S.H.set x (.cell v):=by(refine(Sw)▸?_;with_reducible rfl)
 haveI hh:S'.h=S.h:=by(refine(Sw)▸?_;with_reducible rfl)
 haveI WK:S'.ρ x=c:=by refine(Sw)▸?_;exact da ..
 haveI ZS:S'.kz x:=by refine(Sw)▸?_;exact wN _ _ _ _ _
 have Qk:∀a,S'.foot a→S.foot a∨a=c:=by
  rintro a ⟨y,dy,hy⟩
  by_cases Yz:y=x
  ·subst Yz
   replace hy:=Sw.symm▸hy
   haveI hy:a=fP S.ρ y c y∨a=fP S.δ y c y:=hy
   rw [da,da] at hy
   exact .inr (hy.elim id id)
  ·have XI:S.kz y:=by
    replace dy:=Sw.symm▸dy
    haveI dy:(if y=x then some (ib.cell v) else S.H.get y)≠none:=dy
    rwa [if_neg Yz] at dy
   refine fC (E'.kz y XI) fun _ p q=>?_
   (replace hy:=(p)▸hy;replace hy:=(q)▸hy)
   exact .inl ⟨y,XI,hy⟩
 have lk:∀j,j≠i→((i,x)::fr.sh).lookup j=fr.sh.lookup j:=fun j hj=>by
  rw [b7]
  have:(j==i)=false:=by simpa using hj
  (refine this.symm▸?_;with_reducible rfl)
 have F':Fits g ⟨fr.env,fr.k,(i,x)::fr.sh⟩ L' S':=by
  refine⟨F.kind,F.glob,F.blt,F.nm,?_,fun j w e=>?_,fun j y e=>?_,?_,fun j m k e hk=>?_,F.inj⟩
  ·refine aS (F.ns) fun mm A0 O6=>?_
   exact dG mm (by refine hh.symm▸?_;exact A0) (fun j w m a b=>let⟨r,p,q⟩:=O6 j w m (hL.look a) b;⟨r,p,q.ext E'⟩)
  ·have hM:j≠i:=by rintro rfl;replace e:=(ZF)▸e;cases e
   refine eY (F.Ie j w (hL.look e)) fun m k a b=>?_
   exact ie m k a (b.imp_right fun⟨b1,b2,c',r',d,h2,q⟩=>⟨b1,(lk j hM).trans b2,c',r',d,by refine hh.symm▸?_;exact h2,q.ext E'⟩)
  ·by_cases hM:j=i
   ·subst hM
    have:((j,x)::fr.sh).lookup j=some x:=by simp
    haveI e:((j,x)::fr.sh).lookup j=some y:=e
    replace e:=(this)▸e;cases e
    exact zG n .cell hn (.inl rfl) ZS (by refine WK.symm▸?_;exact hc)
   ·haveI e:((i,x)::fr.sh).lookup j=some y:=e
    replace e:=(lk j hM)▸e
    refine sO (F.QE j y e) fun m k a b d1 d2=>?_
    exact zG m k a b ((E'.kz y d1).1) (by refine(ah ((E'.kz y d1).2.1))▸?_;exact d2)
  ·exact iN (fun q=>(Qk _ q).elim F.J8.1 fun e=>nL e.symm) F.J8.2
  ·refine j9 (F.Oh j m k e hk) fun c' a b d=>?_
   refine jc c' a b (fun hs=>?_)
   have hM:j≠i:=by
    rintro rfl
    have:((j,x)::fr.sh).lookup j=some x:=by simp
    haveI hs:((j,x)::fr.sh).lookup j=none:=hs
    replace hs:=(this)▸hs;cases hs
   refine fC (d ((lk j hM).symm.trans hs)) fun cj p q=>?_
   refine dh (cj) fun w h2=>?_
   refine fM ⟨w,by refine hh.symm▸?_;exact h2⟩ (fun z=>(Qk _ z).elim p fun ec=>?_) q
   subst ec
   have:=F.inj m n c' a hc
   subst this
   exact hM (EW F.nm.once e hn)
 have WC:∀a,Xf g ⟨fr.env,fr.k,(i,x)::fr.sh⟩ a→Xf g fr a:=by
  rintro a (q|q|⟨j,m,p1,p2,p3⟩)
  ·exact .inl q
  ·exact .inr (.inl q)
  ·have hM:j≠i:=by
    rintro rfl
    have:((j,x)::fr.sh).lookup j=some x:=by simp
    haveI p3:((j,x)::fr.sh).lookup j=none:=p3
    replace p3:=(this)▸p3;cases p3
   exact .inr (.inr ⟨j,m,p1,p2,(lk j hM).symm.trans p3⟩)
 have W:=E'.widen (Y:=Xf g fr) (fun a ha=>ha.elim .inl fun q=>by apply iH q;exact .inr (.inr ⟨i,n,hn,hc,Oo⟩)) (F.calm R)
 intro E
 refine wpAny_mono (h x A S' s hA R' F' (.ret u) H' (by refine hH.symm▸?_;exact TY) E) (fun f gQ z14=>wO z14 fun eh bf cK e2 z=>?_) fun _ _ q=>q
 induction f<;>first|exact z.elim|skip
 refine iq eh bf (W.trans (cK.widen WC fun a o ha e=>?_)) e2 z
 replace e:=(hh)▸e
 exact F.calm R a o ha e
theorem Kp.ok(h:Kp l):TriplesOk l:=by
 induction h with
 |nil=>trivial
 |cons _ _ _ _ _ _ _ ih=>exact ih
theorem Kp.snoc{p:Pos}(h:Kp l):Kp (l++ [rawInt p.line,rawInt p.col,c]):=by
 induction h with
 |nil=>exact .cons _ _ _ _ _ _ .nil
 |cons a t b u x r _ ih=>exact .cons a t b u x _ ih
theorem Kp.any{p q:Pos}(h:Kp l):codeAmong q (l++ [rawInt p.line,rawInt p.col,c])=some cv→codeAmong q l=some cv∨(q.line=p.line∧q.col=p.col∧cv=c):=by
 induction h with
 |nil=>
  intro h
  have h:(if((p.line:Int)==(q.line:Int)&&(p.col:Int)==(q.col:Int))=true then some c else none)=some cv:=h
  split at h
  ·rename_i hc
   rw [cV,beq_iff_eq,beq_iff_eq] at hc
   exact .inr ⟨(Su.mp hc.1).symm,(Su.mp hc.2).symm,(Option.some.inj h).symm⟩
  ·exact nn h
 |cons a t b u x r _ ih=>
  intro h
  have h:(if(a==(q.line:Int)&&b==(q.col:Int))=true then some x else codeAmong q (r++ [rawInt p.line,rawInt p.col,c]))=some cv:=h
  refine(?_:(if(a==(q.line:Int)&&b==(q.col:Int))=true then some x else codeAmong q r)=some cv∨_)
  split at h
  ·rename_i hc;rw [if_pos hc];exact .inl h
  ·rename_i hc;rw [if_neg hc];exact ih h
theorem Kp.snd{p:Pos}(h:Kp l)(hn:∀x t,l[1]? ≠some (Value.str x t)):∀x t,(l++ [rawInt p.line,rawInt p.col,c])[1]? ≠some (Value.str x t):=by
 induction h with
 |nil=>exact fun x t h=>Value.noConfusion (Option.some.inj h)
 |cons a t b u x r _ _=>exact fun y t h=>hn y t h
structure QS(g:Gl):Prop where
 mg:∃mg,g.fb.Ns mainGlobals mg∧∀q∈g.tabs,g.fb.BuiltinsAt mg q.2.1
 code:∀q∈g.tabs,CodeHd g.fb q.1 q.2.1∧∀p∈g.tabs,q.1≠p.2.1
 one:∀q∈g.tabs,∀p∈g.tabs,q.2.1=p.2.1→q.2.2.1.line=p.2.2.1.line→q.2.2.1.col=p.2.2.1.col→q.2.2.2=p.2.2.2
theorem RS.grown(G:gj g)(D:QS g)(R:RS g S s)(hq:q∈g.tabs)(hP:S.h.get? q.2.1=some (tabObj ps))
  (hx:Heap.ExtBut q.2.1 S.h h') (ES:S.h.objs.size≤c') (Iz:c'<h'.objs.size) (O8:h'.CodeRec (.ref c') q.2.2.2) (WE:h'.get? q.2.1=some (tabObj (ps++ #[rawInt q.2.2.1.line,rawInt q.2.2.1.col,.ref c']))) (t:Nat):
  RS g ⟨S.H,S.ρ,S.δ,h'.push fo⟩ {s with heap:=h'.push fo,toks:=t}∧Ext S ⟨S.H,S.ρ,S.δ,h'.push fo⟩ (X0 g):=by
 have wY:S.h.objs.size≤(h'.push fo).objs.size:=by rw [eV];exact ai (cY (bN ES Iz)) (eJ _)
 have keep:∀b o,b≠q.2.1→S.h.get? b=some o→(h'.push fo).get? b=some o:=fun b o hb e=>aJ _ (hx b o hb e)
 have low:∀x,S.kz x→S.ρ x≠q.2.1∧S.δ x≠q.2.1:=fun x d=>by
  haveI l:=R.rep.low x d
  haveI tl:=R.Hl q hq
  exact iN (mO (aT tl l.1)) (mO (aT tl l.2))
 have E:Ext S ⟨S.H,S.ρ,S.δ,h'.push fo⟩ (X0 g):=⟨fun x d=>⟨d,rfl,rfl⟩,fun x a b=>(a b).elim,fun a o e _ Uc=>keep a o (fun eq=>Uc ⟨q,hq,eq⟩) e,R.cP,wY,fun _=>az _,fun x d _ o e=>keep _ o (low x d).1 e⟩
 refine iN ⟨rfl,⟨fun x o e=>?_,R.rep.apart,R.rep.low,fun x d=>⟨aT (R.rep.lt x d).1 wY,aT (R.rep.lt x d).2 wY⟩⟩,fun a o e hn=>keep a o (hn q hq) (R.old a o e hn),fun p hp=>?_,R.gens,R.os,R.Hl,ai R.big wY⟩ E
 ·have d:S.kz x:=by intro hn;replace hn:=(show S.H.get x=some o from e)▸hn;exact G2 hn
  exact zy.frame E d (fun o e=>keep _ o (low x d).1 e) (fun o e=>keep _ o (low x d).2 e) (R.rep.obj x o e)
 ·refine wO (R.tabs p hp) fun YW a1 a2 a3 a4=>?_
  have Gn:∀{c oc vs x tt},S.h.get? c=some oc→oc.data= .fields vs→vs[1]? =some (Value.str x tt)→(h'.push fo).get? c=some oc:=fun {c oc vs x tt} e hd h1=>keep c oc (fun eq=>R.cP c oc ⟨q,hq,eq⟩ e (.inr (.inr ⟨_,_,_,hd,h1⟩))) e
  by_cases Va:p.2.1=q.2.1
  ·(replace a1:=(Va)▸a1;replace a1:=(hP)▸a1)
   haveI e:ps=YW:=by cases a1;rfl
   subst e
   refine iq _ (by rw [Va];exact aJ _ WE) ?_ ?_ (fun cv Lu=>?_)
   ·rw [kB];exact a2.snoc
   ·intro x t
    rw [←eU,kB]
    exact a2.snd (fun x t=>by rw [eU];exact a3 x t) x t
   ·replace Lu:=(kB)▸Lu
    rcases a2.any Lu with h|⟨h1,h2,rfl⟩
    ·refine xT (a4 cv h) fun c oc vs t b1 b2 b3 b4 b5=>?_
     exact GL c oc vs t b1 (Gn b2 b4 b5) b3 b4 b5
    ·refine Ti (O8) fun c2 oc vs t e2 T3 hd hv=>?_
     cases e2
     exact GL c' oc vs t rfl (aJ _ T3) (fun z=>R.fm ES z) hd (by rw [D.one p hp q hq Va h1 h2];exact hv)
  ·refine iq YW (keep _ _ Va a1) a2 a3 (fun cv Lu=>?_)
   refine xT (a4 cv Lu) fun c oc vs t b1 b2 b3 b4 b5=>?_
   exact GL c oc vs t b1 (Gn b2 b4 b5) b3 b4 b5
theorem JF(cells:List (Str×Addr)):∀(names:List (Str×NameKind)) (acc:List (Str×Addr)),wA cells names acc=((names.filter (·.2== .free)).reverse.map fun p=>(p.1,(cells.lookup p.1).getD 0))++acc
 | [],acc=>rfl
 |p::r,acc=>by
  rw [wA,JF cells r,jd]
  split<;>simp
theorem Oa{cells:List (Str×Addr)}:∀{frees:List Str} {cs:List VA},frees.length=cs.length→(∀(j:Nat) (n:Str) (x:VA),frees[j]? =some n→cs[j]? =some x→cells.lookup n=some (ρ x))→(frees.map fun n=>(n,(cells.lookup n).getD 0))=frees.zip (cs.map ρ)
 | [], [],_,_=>rfl
 |n::fs,x::cs,hl,h=>by
  have h0:=h 0 n x (by simp) (by simp)
  simp only [bw,xE]
  (refine h0.symm▸?_;refine(ah (Oa (by simpa using hl) fun j m y a b=>h (j+1) m y (by simpa using a) (by simpa using b)))▸?_)
  rfl
theorem ND{rest:List Stmt}{fin:List V→Lc}{k:M Fl}{frees:List Str}(G:gj g)(D:QS g)(q:Addr×Addr×Pos×Str)(hq:q∈g.tabs)(JS:fr.env.code= .ref q.1)(Wu:q.2.2.1=pos)(T6:qualnameIn fr.env name name=q.2.2.2)
  (d:Nat) (hD:g.l0 d=⟨name,q.2.2.2,params,body,scope,frees⟩) (it:Nat) (ht:fr.env.scope.names[it]? =some (name,.local)) (cs:List VA) (Qp:(scope.names.filter (·.2== .free)).reverse.map (·.1)=frees) (hlen:frees.length=cs.length)
  (TC:∀(j:Nat) (n:Str) (x:VA),frees[j]? =some n→cs[j]? =some x→∃i kk,fr.env.scope.names[i]? =some (n,kk)∧fr.sh.lookup i=some x) (ZQ:params.defaults= []) (Sx:params.kw_defaults= []) (ha:annTrees params none fr.env= [])
  (hr:SS g fr ((it,.iC d cs)::Lo) rest fin k):SS g fr Lo (.FunctionDef name params body [] none [] scope none name pos::rest) fin k:=by
 intro A S s hA R F v H' hm
 subst Wu
 have at_:∀(j:Nat) (n:Str) (x:VA),frees[j]? =some n→cs[j]? =some x→S.kz x∧fr.env.cells.lookup n=some (S.ρ x):=fun j n x a b=>by
  refine eY (TC j n x a b) fun i kk h1 h2=>?_
  refine sO (F.QE i x h2) fun n' k' e1 e2 e3 e4=>?_
  replace e1:=(h1)▸e1;cases e1
  exact iN e3 e4
 have Qg:∀x∈cs,S.kz x:=fun x hx=>by
  refine dh (aQ.mp hx) fun j hj=>?_
  haveI hl:j<frees.length:=by refine hlen.symm▸?_;exact(aF.mp hj).1
  exact(at_ j _ x (bj hl) hj).1
 have Qm:closureFor scope fr.env=pure (frees.zip (cs.map S.ρ)):=by
  rw [oY fun p hp hf=>?_,JF,oH]
  ·congr 1
   (refine(ah (show(fun p:Str×NameKind=>(p.1,(fr.env.cells.lookup p.1).getD 0))=(fun n:Str=>(n,(fr.env.cells.lookup n).getD 0))∘(fun p:Str×NameKind=>p.1) from rfl))▸?_;refine(eW)▸?_;refine Qp.symm▸?_)
   exact Oa hlen fun j n x a b=>(at_ j n x a b).2
  ·haveI hm:p.1∈frees:=by
    refine(Qp)▸?_
    exact aP.mpr ⟨p,Og.mpr (bH.mpr ⟨hp,by simp [hf]⟩),rfl⟩
   refine dh (aQ.mp hm) fun j hj=>?_
   have hl:j<cs.length:=by refine(hlen)▸?_;exact(aF.mp hj).1
   refine(ah ((at_ j p.1 _ hj (bj hl)).2))▸?_;rfl
 refine aS (D.mg) fun mg hg hb=>?_
 refine cQ (D.code q hq) fun hC ZA=>?_
 have Yb:S.h.Ns mainGlobals mg:=by
  refine CI (hg) fun o es ep e r=>?_
  exact RE o es ep (R.old _ o e fun p hp h=>(G.stat p hp).2.2 h.symm) r
 have X5:S.h.BuiltinsAt mg q.2.1:=by
  refine Rc (hb q hq) fun bm ob b1 b2 b3 b4 b5 b6=>?_
  refine Ud bm ob b1 b2 b3 b4 (R.old _ ob b5 fun p hp h=>?_) b6
  refine qj (hb p hp) fun bm' ob' c1 c2 c3 c4 _=>?_
  replace c1:=(b1)▸c1;cases c1
  exact c4 h
 have XW:CodeHd S.h q.1 q.2.1:=by
  obtain⟨o,vs,file,tf,flags,tg,inF,text,tt,e,r⟩:=hC
  exact⟨o,vs,file,tf,flags,tg,inF,text,tt,R.old _ o e ZA,r⟩
 refine wO (R.tabs q hq) fun ps hP WG Yh Ru=>?_
 have Yp:=WG.ok
 refine Runs.cons fun E=>nestDef_K ZQ Sx ha ?_
 refine T6.symm▸?_
 have Mt:∀{S':Rp} {s':Shared} {a:Addr},RS g S' s'→Ext S S' (X0 g)→S'.H=S.H→bu g S' (.iC d cs) (.ref a)→wpAny (Mo g) A (storeName fr.env name (.ref a)) (fun _ Fu=>∃LS,RS g LS Fu∧Ext S LS (Xf g fr)∧∀iT,RS g LS iT→Ext S LS (Xf g fr)→Runs g (Xf g fr) A (execs rest fr.env) LS iT fun S' r=>S'.H=H'∧qD g fr fin S' v r) E s':=fun {S' s' a} R' E' e' hv=>
  h9 (jW R' (F.ext R E') ht hv E) (fun _ gQ eh bf cK e2 j3=>⟨eh,bf,(E'.widen (fun _=> .inl) (F.calm R)).trans (cK.widen (fun _ h=>h.imp_right .inl) ((F.ext R E').calm R')),fun iT dp _=>hr A eh iT hA dp j3 v H' (by(refine e2.symm▸?_;refine e'.symm▸?_);exact hm)⟩)
 induction TB:codeAmong q.2.2.1 ps.toList with
 |none=>
  refine makeFunction_K Qm F.glob (R.heap▸Yb) JS (R.heap▸XW) (by refine R.heap.symm▸?_;exact hP) Yp TB (fun h=>(G.stat q hq).2.2 h.symm) (R.heap▸X5) fun c' VG doc h' tk hx ES Iz O8 WE=>?_
  rw [R.heap] at hx ES
  refine cQ (R.grown G D hq hP (fo:=fnMade name q.2.2.2 params body scope (frees.zip (cs.map S.ρ)) doc ((mg "__name__").getD .none) c' VG) hx ES Iz O8 WE tk) fun R' E'=>?_
  refine Ti (O8) fun c2 oc vs t e2 T3 hd2 WI=>?_
  cases e2
  refine Mt R' E' rfl (.iC (bz _ rfl) (fun z=>R.fm (cY (bN ES Iz)) z) rfl (fun x hx=>Qg x hx) (by rw [hD]) (by rw [hD];exact hlen) (aJ _ T3) (fun z=>R.fm ES z) hd2 (by rw [hD];exact WI))
 |some cv=>
  refine xT (Ru cv TB) fun c oc vs t cj T3 Ad hd2 WI=>?_
  subst cj
  refine makeFunction_hit Qm F.glob (R.heap▸Yb) JS (R.heap▸XW) (by refine R.heap.symm▸?_;exact hP) Yp TB (R.heap▸X5) fun VG doc h' tk hk wY=>?_
  rw [R.heap] at hk wY
  obtain⟨R',E'⟩:=R.quiet (X:=fun _=>False) (h':=h'.push (fnMade name q.2.2.2 params body scope (frees.zip (cs.map S.ρ)) doc ((mg "__name__").getD .none) c VG)) (fun _ _ h=>h.elim) (fun _ h=>h.elim) (fun _ h=>h.elim) (fun _ h=>h.elim) (fun b o e _=>aJ _ (hk b o e)) (by rw [eV];exact zv wY) tk
  have WJ:vs[1]? =some (.str (g.l0 d).qual t):=by refine hD.symm▸?_;exact WI
  refine Mt R' (E'.widen (fun _ h=>h.elim) R.cP) rfl (.iC (bz _ rfl) (fun z=>R.fm wY z) rfl (fun x hx=>Qg x hx) (by rw [hD]) (by rw [hD];exact hlen) (aJ _ (hk _ _ T3)) Ad hd2 WJ)
theorem UE(vK:List V→Lc)(hb:SS g fr Lo body vK mb)(hk:∀vs,SS g fr (vK vs) rest fin (k vs)):
  SS g fr Lo (.Try body (h₀::hs) [] [] pos::rest) fin (mb.cy k):=by
 intro A S s hA R F v H' hm
 refine Runs.cons fun E=>wpAny_Try_except ?_
 rcases M.Hk hm with⟨u,p,rfl⟩|⟨vs,bh,p,q⟩
 ·refine h9 (hb A S s hA R F _ _ p _) (fun f s' S' R' E' e z=>?_)
  cases f<;>first|exact z.elim|skip
  exact iq S' R' E' e z
 ·refine h9 (hb A S s hA R F _ _ p _) (fun f s' S' R' E' e z=>?_)
  cases f<;>first|exact z.elim|skip
  subst e
  exact rI ⟨S',R',E',fun Fu Ko _=>hk vs A S' Fu hA Ko z v H' q⟩
def yE(v:V)(mb:V→List V→M Fl)(st:List V):M Fl:=fun H=>match v with
 | .int k=>if 0≤k∧k≤1000000 then sP (fun _ i=>some (if i<k.toNat then some (.int i) else none)) mb 10000000 0 st H else none
 |_=>none
section
variable {prog:Program}{w:World}{A:Around}{E:Value→Shared→Prop}{s:Shared}
theorem I8{x left step:Int}(hh:A.handled=none)(hit:IsRangeIter s.heap it x left step)(TX:left≤0)
  (hQ:∀h',F6 it s.heap h'→Q none {s with heap:=h'}):wpAny (model prog w) A (pyNext (.ref it)) Q E s:=by
 haveI hT:s.TypeIs (.ref it) "range_iterator":=⟨_,hit,rfl⟩
 unfold pyNext
 refine wpAny_bind (wpAny_attempt (wpAny_callSpecial?_slot (name:=Str.ofString "__next__") hT PySem.F.slot_range_iterator_next
  (wpAny_call_entry PySem.F.slot_range_iterator_next hT PySem.F.entry_range_iterator_next ?_ (PySem.F.args_range_iterator_next_1 _))))
 refine(?_:wpAny _ _ (field (.ref it) 0>>=_) _ _ s)
 refine wpAny_bind (wpAny_field hit rfl (x:=rawInt x) rfl ?_)
 refine(?_:wpAny _ _ (field (.ref it) 1>>=_) _ _ s)
 refine wpAny_bind (wpAny_field hit rfl (x:=rawInt left) rfl ?_)
 refine(?_:wpAny _ _ (field (.ref it) 2>>=_) _ _ s)
 refine wpAny_bind (wpAny_field hit rfl (x:=rawInt step) rfl ?_)
 refine(?_:wpAny _ _ (if left≤0 then _ else _) _ _ s)
 refine(ah (if_pos TX))▸?_
 refine wpAny_bind (wpAny_rule ?_)
 refine wpAny_bind ?_
 refine uK (A:=A.in1) hh fun e s' hT Xx=>eY Xx fun o p e1 e2=>?_
 refine wpAny_bind (wpAny_isInstance (T:= "StopIteration") (b:=true) hT isSubtype_stop ?_)
 refine e2.symm▸?_
 exact wpAny_pure (hQ _ (wU (bU.refl it _) _ _))
end
theorem I7(hb:g.fb.objs.size≤I):Iter g I (fun _ i=>some (if i<n then some (.int i) else none)) fun S i=>¬S.foot I∧IsRangeIter S.h I i (n-i:Int) 1:=by
 have calm:∀{h:Heap} {i l:Int} o,IsRangeIter h I i l 1→h.get? I=some o→¬Calm o:=fun o e e'=>(Option.some.inj (e.symm.trans e'))▸BN rfl rfl
 refine⟨fun L=>⟨_,L.2,calm _ L.2 L.2⟩,fun L E hX=>⟨E.jI L.2 L.1 hX,E.keep _ _ L.2 L.1 hX⟩,fun {A S s i q} hh R L h=>?_⟩
 intro E
 by_cases hi:i<n
 ·rw [if_pos hi] at h
  apply so h
  refine wpAny_pyNext_range_item (R.heap▸L.2) (by lia) fun h' Lv rk=>?_
  rw [show(n:Int)-i-1=n-(i+1:Nat) by lia,show(i:Int)+1=(i+1:Nat) from rfl] at Lv
  exact cQ (quietAt R (fun o=>calm o L.2) L.1 hb (SameBut.Mx (R.heap▸rk)) (s.toks+1)) fun R3 E3=>⟨_,R3,E3,rfl,.int i s.toks,L.1,Lv⟩
 ·rw [if_neg hi] at h
  apply so h
  exact I8 hh (R.heap▸L.2) (by lia) fun h' hg=>cQ (quietAt R (fun o=>calm o L.2) L.1 hb (R.heap▸hg) s.toks) fun R3 E3=>⟨_,R3,E3,rfl,trivial⟩
theorem Je{x id:Str}{k:NameKind}{me:M V}{mb:V→List V→M Fl}{kk:List V→M Fl}(ix:Nat)(inv:List V→Lc)(st:List V)(hn:fr.env.scope.names[ix]? =some (x,k))(hk:k= .local∨(k= .cell∧fr.sh.lookup ix=none))
  (hf:EV g fr Lo (.Name id p) (.type "range")) (he:SE g fr Lo e me) (h0:Sub (inv st) Lo) (hb:∀v st,SS g fr ((ix,v)::inv st) body inv (mb v st)) (hr:∀st,SS g fr (inv st) rest fin (kk st))
  (hs:∀x,foldedSetIterable (.Call (.Name id p) [e] [] VF) fr.env x=pure x:=by intro _;rfl) (uA:starEach [e] fr.env=(false,eval e fr.env)::starEach [] fr.env:=by rfl):
  SS g fr Lo (.For (.Name x px) (.Call (.Name id p) [e] [] VF) body [] pos::rest) fin (me.d fun src=>(yE src mb st).cy kk):=by
 intro A S s hA R F v H' hm
 refine bs hm fun src aG h1 hm=>?_
 have tM:∃n,src= .int n∧(0≤n∧n≤1000000)∧((sP (fun _ i=>some (if i<n.toNat then some (.int i) else none)) mb 10000000 0 st).cy kk) aG=some (v,H'):=by
  replace hm:M.cy (fun _=>yE src mb st aG) kk aG=some (v,H'):=hm
  rcases src with _|_|n|_|_|_|_|_|_<;>first|exact nn hm|skip
  by_cases h:0≤n∧n≤1000000
  ·haveI e:yE (.int n) mb st aG=sP (fun _ i=>some (if i<n.toNat then some (.int i) else none)) mb 10000000 0 st aG:=if_pos h
   replace hm:=(e)▸hm
   exact jc n rfl h hm
  ·haveI e:yE (.int n) mb st aG=none:=if_neg h
   replace hm:=(e)▸hm
   exact nn hm
 clear hm
 refine j9 tM fun n q hN hm=>?_
 subst q
 clear tM
 refine Runs.cons fun E=>wpAny_For ?_ hs
 rw [arm_eval_Call_Name']
 refine wpAny_bind (hf A S s R F E _ ?_)
 refine h9 (H6:=fun S' _=>S'.H=aG) (LQ:=fun S' r=>∃a t u v,r= .ref a∧IsRange S'.h a 0 n 1 t u v) (jg (first:= []) (vs:= [.int n]) (aG:=aG) hA R F (ag he ax uA) (by show M.d me _ S.H=_;unfold M.d;refine h1.symm▸?_;rfl) (fun S' s' R' _=>⟨.machine,.inr (.inl rfl),.now⟩) (fun S' s' rs R' E' e' sQ=>?_) E) fun r bJ br aD bA e1 z=>OV z fun a t u w hra WA=>?_
 ·apply jT sQ
  intro _ _ hv Wm
  apply qK Wm
  apply yX hv
  intro t E
  refine call_range_1 ?_
  refine R'.heap.symm▸?_
  exact cQ (R'.push {cls:= .type "range",data:= .fields #[.int 0 s'.toks,.int n t,.int 1 (s'.toks+1)]} (s'.toks+1+1)) fun R2 E2=>⟨_,R2,E2,e',_,_,_,_,rfl,IsRange.new _ _ _ _ _ _ _⟩
 ·apply iH hra
  have sQ:Builtin.Range.rangeSize 0 n 1=(n.toNat:Int):=by rw [rangeSize_one];split<;>lia
  refine wpAny_pyIter_range (aD.heap▸WA) (small_one (by decide) (by decide) (by lia) (by lia)) ?_
  (refine sQ.symm▸?_;refine aD.heap.symm▸?_)
  refine cQ (aD.push {cls:= .type "range_iterator",data:= .fields #[rawInt 0,rawInt (n.toNat:Int),rawInt 1]} bJ.toks) fun bf cK=>?_
  exact EK hA hn hk hb hr (I7 (n:=n.toNat) aD.big) h0 R F aD bA bf cK ⟨fun z=>aD.fm (az _) z,by refine(ah (show(n.toNat:Int)-(0:Nat)=n.toNat from Int.sub_zero _))▸?_;exact bz _ rfl⟩ (e1.symm▸hm) fun S' s' f R' E' z=>jc S' R' E' z
noncomputable def SG(H:Hp)(v:V):Bool:=match v with
 | .ref x=>(match H.get x with
  |some (.cI [])=>true
  |some (.aU [])=>true
  |_=>false)
 |_=>false
def Mr(a b:V):M Bool:=fun H=>if SG H a&&SG H b then some (true,H) else none
theorem no(e0:es.toList= []):PySem.KeysOf (PySem.strKind g.prog g.w) es:=fun _ hm=>absurd (HW.mpr hm) (by refine e0.symm▸?_;simp)
theorem ML(G:gj g)(R:RS g S s)(hv:bu g S v r)(h:SG S.H v=true):∃a,r= .ref a∧(a==sysModules)=false∧S.h.DictOf (PySem.strKind g.prog g.w) a []:=by
 unfold SG at h
 induction v using V.casesOn with
 |ref x=>
  cases hv with
  |ref hd=>
  haveI low:(S.ρ x==sysModules)=false:=beq_eq_false_iff_ne.mpr fun e=>by
   haveI l:=aT G.UH (R.rep.low x hd).1
   rw [e] at l
   exact dZ _ l
  refine jc _ rfl low ?_
  replace h:(match S.H.get x with
   |some (.cI [])=>true
   |some (.aU [])=>true
   |_=>false)=true:=h
  generalize hx:S.H.get x=o at h
  induction o using j1 with
  |none=>exact ft h
  |some o=>induction o using ib.casesOn with
   |cI es=>induction es using ky with
    |nil=>
     refine aS (R.rep.obj _ _ hx) fun xs cj hT=>?_
     refine OT (cj) fun o es ep e hc hd he _=>?_
     cases hT
     haveI e0:es.toList= []:=he
     exact MH o es ep e hc hd (no e0) (by refine e0.symm▸?_;exact Pairs.nil) ej
    |cons=>exact ft h
   |aU es=>induction es using ky with
    |nil=>
     refine aS (R.rep.obj _ _ hx) fun fe cj hF=>?_
     refine CJ (cj) fun o es ep e hc hd _ hp _=>?_
     cases hF
     haveI e0:es.toList= []:=je.mp (by refine hp.length.symm▸?_;rfl)
     exact MH o es ep e hc hd (no e0) (by refine e0.symm▸?_;exact Pairs.nil) ej
    |cons=>exact ft h
   |_=>exact ft h
 |_=>exact ft h
theorem Rh(G:gj g)(hl:SE g fr Lo l ml)(hr:SE g fr Lo r mr)(Ce:behindInMarks .Eq r=false:=by with_unfolding_all rfl):
  SE g fr Lo (.Compare l [.Eq] [r] pos) (ml.d fun a=>mr.d fun b=>(Mr a b).d fun c=>pU (.bool c)):=by
 intro A S s hA R F v H' hm
 intro E
 refine wpAny_Compare1 (hl.go hA R F hm E fun x bJ br a aD bA hx hm=>?_) Ce
 refine hr.go hA aD (F.ext R bA) hm E fun y gQ eh b bf cK hy hm=>?_
 refine bs hm fun c dg h3 hm=>?_
 apply pe hm
 unfold Mr at h3
 split at h3
 ·rename_i hc
  apply pe h3
  refine cQ (u9.mp hc) fun c1 c2=>?_
  refine j9 (ML G bf (hx.ext cK) c1) fun i cj si di=>?_
  apply iH cj
  refine j9 (ML G bf hy c2) fun j cj sj dj=>?_
  apply iH cj
  rw [←bf.heap] at di dj
  haveI hu:=hA.units
  exact keq_eq (r:=true) si sj di dj (by refine(ah (show cLine=9900 from rfl))▸?_;exact bN (ai (fV _ _) ‹_›) (by decide)) (fun _=> .nil) ⟨eh,bf,bA.trans cK,rfl,.bool true⟩
 ·exact nn h3
noncomputable def id? :ib→Option (List (Int×V))
 | .et x=>some x
 |_=>none
theorem RH(h:id? v=some x):v= .et x:=by
 induction v<;>first|exact nn h|exact congrArg _ (Option.some.inj h)
def Ao(vs:List V):M V:=fun H=>(one? vs).bind fun u=>(ref? u).bind fun x=>(H.get x).bind fun o=>(id? o).bind fun es=>bif pB es.length 1 then some (.lst (es.map fun p=> .int p.1),H) else none
theorem Gp(K:KdlSrc prog w T r d n P OK)(hh:A.handled=none)(U8:OK s.heap)(hn:n≤sizeLine)
  (z:∀(h':Heap) (tk:Nat) (xs:Array Value),(∀b o,s.heap.get? b=some o→h'.get? b=some o)→s.heap.objs.size≤h'.objs.size→ItemsOf P xs n→Q xs.toList {s with heap:=h',toks:=tk}):wpAny (model prog w) A (collect (.ref r)) Q E s:=by
 haveI lt:=K.there _ U8
 unfold collect
 refine wpAny_bind (wpAny_runValue (codeAny_builtin entry_proto_collect' ?_))
 refine(ah (Around.under_plainId PySem.F.plain_proto_collect _))▸?_
 refine(?_:wpAny _ A.in1 (newList []>>=fun l=>again (.builtin "list.__iadd__" ⟨[l,.ref r], []⟩)) _ _ s)
 refine wpAny_bind (wpAny_newObj_type (wpAny_pure ⟨plainId_quiet PySem.F.plain_list_iadd _,codeAny_mono (R:=fun q s'=>∃h' tk xs c,q= .ok (.ret (.ref s.heap.objs.size))∧s'={s with heap:=h',toks:=tk}∧(∀b o,s.heap.get? b=some o→h'.get? b=some o)∧h'.get? s.heap.objs.size=some {cls:= .type "list",dict:=none,data:= .seq xs c,slots:= #[]}∧ItemsOf P xs n) (codeAny_builtin entry_list_iadd' ?_) ?_⟩))
 ·refine(ah (Around.under_plainId PySem.F.plain_list_iadd _))▸?_
  refine(?_:wpAny _ A.in1 (Builtin.List.listExtendWith (.ref s.heap.objs.size) (.ref r) (.ref s.heap.objs.size)) _ _ _)
  exact kdl_extend (R:=fun q s'=>∃h' tk xs c,q= .ok (.ret (.ref s.heap.objs.size))∧s'={s with heap:=h',toks:=tk}∧(∀b o,s.heap.get? b=some o→h'.get? b=some o)∧h'.get? s.heap.objs.size=some {cls:= .type "list",dict:=none,data:= .seq xs c,slots:= #[]}∧ItemsOf P xs n) (A:=A) (s:={s with heap:=s.heap.push {cls:= .type "list",data:= .seq ([]:List Value).toArray}}) K hh (K.keep _ _ U8 fun b _ o e=>aJ _ e) _ (mO lt.1) (mO lt.2) _ 0 (bz _ rfl)
   (fun h' tk xs c hk hS hP=>⟨h',tk,xs,c,rfl,rfl,fun b o e=>hk b o (gb (bk e)) (aJ _ e),hS,hP⟩) hn
 ·rintro q s' ⟨h',tk,xs,c,rfl,rfl,hk,hS,hP⟩
  exact wpAny_bind (wpAny_load hS (wpAny_pure (z h' tk xs hk (cY (bk hS)) hP)))
theorem Ji(out:Array Value)(e:h.get? a=some (seqObj "list" vs.toArray n)):(∃c,(sortedHeap h a vs out).get? a=some (seqObj "list" out c))∧(∀b o,b≠a→h.get? b=some o→(sortedHeap h a vs out).get? b=some o)∧(sortedHeap h a vs out).objs.size=h.objs.size+2:=by
 haveI ha:=bk e
 haveI e1:=get?_update_seq e fun _=> #[]
 haveI e2:=aJ (seqObj "list" #[] 0) (aJ (seqObj "tuple" vs.toArray 0) e1)
 refine fM ⟨_,get?_update_seq e2 fun _=>out⟩ (fun b o hb eb=>?_) ?_
 ·exact(HR _ _ (bM hb)).trans (aJ _ (aJ _ ((HR _ _ (bM hb)).trans eb)))
 ·unfold sortedHeap
  rw [Ob,size_push',size_push',Ob]
theorem Hf(K:KdlSrc prog w T r d n P OK)(hh:A.handled=none)(U8:OK s.heap)(hn:n<64)
  (hi:∀xs:Array Value,ItemsOf P xs n→∃ns,IntsAre xs.toList ns∧∀h' tk D (out:Array Value) (SJ:List Int) c,IntsAre out.toList SJ→SJ.Perm ns→(∀b o,s.heap.get? b=some o→h'.get? b=some o)→s.heap.objs.size≤h'.objs.size→s.heap.objs.size≤D→h'.get? D=some (seqObj "list" out c)→Q (.ref D) {s with heap:=h',toks:=tk}):
  wpAny (model prog w) A (call (.builtin "sorted") [.ref r]) Q E s:=by
 refine Calls.call_function_entry kind_sorted plain_sorted entry_sorted (args_sorted1 _) ?_
 unfold Builtin.«sorted»
 refine wpAny_bind (m:=checkCount "sorted" 1 1 _) (wpAny_pure ?_)
 have hz:n≤sizeLine:=by refine sizeLine_eq.symm▸?_;exact cY (aT ‹_› (by decide))
 refine wpAny_bind (Gp (A:=A.in1) K hh U8 hz fun h' tk xs hk hD hP=>?_)
 have hl:xs.toList.length=n:=by refine gv.symm▸?_;exact hP.1
 refine wpAny_bind (wpAny_newList ?_ (by refine hl.symm▸?_;exact hz))
 refine aS (hi xs hP) fun ns hI z=>?_
 haveI e:(h'.push (seqObj "list" xs.toList.toArray 0)).get? h'.objs.size=some (seqObj "list" xs.toList.toArray 0):=bz _ rfl
 refine wpAny_bind (wpAny_holding (wpAny_call_entry slot_list_sort (dG _ e rfl) entry_list_sort (list_sort_tree (s:={s with heap:=h'.push (seqObj "list" xs.toList.toArray 0),toks:=tk}) e hI (by omega) fun out SJ a1 a2 a3=>⟨_,rfl,?_⟩) (args_list_sort _)))
 refine wpAny_pure ⟨_,rfl,?_⟩
 refine fC (Ji out e) fun cj g2 g3=>?_
 refine dh (cj) fun c g1=>?_
 exact z _ tk _ out SJ c a1 a2 (fun b o eb=>g2 b o (gb (bk (hk b o eb))) (aJ _ (hk b o eb))) (by rw [g3,size_push'];omega) hD g1
theorem DI(G:gj g):BF g "sorted" Ao:=by
 intro A S s hA R vs rs EU u H' hm E
 have main:∀(x:VA) (es:List (Int×V)) (r:Value),S.H.get x=some (.et es)→bu g S (.ref x) r→es.length≤1→wpAny (Mo g) A (call (.builtin "sorted") [r]) (fun r s'=>∃S',RS g S' s'∧Ext S S' (X0 g)∧S'.H=S.H∧bu g S' (.lst (es.map fun p=> .int p.1)) r) E s:=by
  intro x es r hx hr hl
  cases hr with
  |ref hd=>
  refine aS (R.rep.obj _ _ hx) fun fe hD hF=>?_
  refine dh (hD.dictAt) fun ep VT=>?_
  haveI low:=pk G (R.rep.low x hd).1
  haveI len:=hF.length
  replace VT:=R.heap.symm▸VT
  have stop:∀(h':Heap) (tk:Nat) (D:Addr) (out:Array Value) (c:Nat),dq g S (es.map fun p=> .int p.1) out.toList→(∀b o,s.heap.get? b=some o→h'.get? b=some o)→s.heap.objs.size≤h'.objs.size→s.heap.objs.size≤D→h'.get? D=some (seqObj "list" out c)→
    ∃S',RS g S' {s with heap:=h',toks:=tk}∧Ext S S' (X0 g)∧S'.H=S.H∧bu g S' (.lst (es.map fun p=> .int p.1)) (.ref D):=fun h' tk D out c hv hk hs hD e=>by
   rw [R.heap] at hk hs hD
   refine cQ (R.quiet (X:=fun _=>False) (h':=h') (fun _ _ h=>h.elim) (fun _ h=>h.elim) (fun _ h=>h.elim) (fun _ h=>h.elim) (fun c o e _=>hk c o e) hs tk) fun R' E'=>?_
   exact iq _ R' (E'.widen (fun _ h=>h.elim) R.cP) rfl (.lst e (fun q=>R.fm hD q) rfl rfl (hv.ext E'))
  refine Hf (kdl_dict (ep:=ep) low) hA.2.2 VT (by lia) fun xs hP=>?_
  cases hF with
  |nil=>
   have e0:xs.toList= []:=List.eq_nil_of_length_eq_zero (by refine gv.symm▸?_;exact hP.1)
   refine dG ([]) (e0▸ .nil) (fun h' tk D out SJ c a1 a2 hk hs hD e=>stop h' tk D out c ?_ hk hs hD e)
   replace a1:=(a2.eq_nil)▸a1
   induction h:out.toList with
   |nil=>exact .nil
   |cons a l=>replace a1:=(h)▸a1;exact aj (by cases a1)
  |cons hv hF=>
   cases hF with
   |cons _ _=>simp at hl
   |nil=>
    rename_i i v r'
    obtain⟨w,ew⟩:∃w,xs.toList= [w]:=List.length_eq_one_iff.mp (by refine gv.symm▸?_;exact hP.1)
    have e0:xs[0]? =some w:=by(refine(eU)▸?_;refine ew.symm▸?_);rfl
    refine eY (hP.2 0 w e0) fun k x' ek hw=>?_
    cases ek
    refine dh (Value.isInt_shape hw) fun t cj=>?_
    subst cj
    refine dG ([i]) (ew▸ .cons i t .nil) (fun h' tk D out SJ c a1 a2 hk hs hD e=>stop h' tk D out c ?_ hk hs hD e)
    replace a1:=(List.perm_singleton.mp a2)▸a1
    revert a1
    generalize out.toList=l
    intro a1
    cases a1 with
    |cons _ t' h=>cases h;exact .cons (.int i t') .nil
 unfold Ao at hm
 revert hm
 refine ob fun u h1=>ob fun x h2=>ob fun o hx=>ob fun es h3 hm=>?_
 obtain rfl:=Ai h1
 obtain rfl:=pO h2
 obtain rfl:=RH h3
 cases EU with
 |cons hr hn=>
 apply qK hn;intros
 induction hl:pB es.length 1 with
 |false=>rw [hl] at hm;exact nn hm
 |true=>
  rw [hl] at hm
  apply pe hm;exact main x _ _ hx hr (bG hl)
def pair? :V→Option (V×V)
 | .tup x=>two? x
 |_=>none
theorem Nr(h:pair? v=some x):v= .tup [x.1,x.2]:=by
 induction v using V.casesOn<;>first|exact nn h|exact congrArg _ (FL h)
def QG(mc:V→V→M Bool)(mr:V→V→M V)(me:V→V→V→M V)(acc:VA)(a b:V):M Unit:=(mc a b).d fun c=>bif c then(mr a b).d fun u=>(hasItems u).d fun _=>i7 u (vz (fun _=>pU true) (me a b) acc) 10000000 0 else pU ()
def mF(mc:V→V→M Bool)(mr:V→V→M V)(me:V→V→V→M V)(acc:VA)(v:V):M Unit:=fun H=>(pair? v).bind fun p=>QG mc mr me acc p.1 p.2 H
def xK(src:V)(mc:V→V→M Bool)(mr:V→V→M V)(me:V→V→V→M V):M V:=(hasItems src).d fun _=>(dB 9).d fun x=>(lL x []).d fun r=>(i7 src (mF mc mr me x) 10000000 0).d fun _=>pU r
theorem NP{target iter:Expr}{ifs:List Expr}{I:Addr}{acc:Value}{env:Env}{A:Around}{R:Result→Shared→Prop}{s:Shared}(hg:gens[d]? =some ⟨target,iter,ifs,0⟩)
  (hI:∀{Q:Value→Shared→Prop} {E:Value→Shared→Prop},Q (.ref I) s→wpAny (Mo g) A (pyIter (.ref I)) Q E s) (h:codeAny (Mo g) A (.compLoop (.ListComp elt gens scope pos) d (.ref I) acc env) R s):codeAny (Mo g) A (.compStart (.ListComp elt gens scope pos) d (.ref I) acc env) R s:=by
 refine codeAny_of_tree ?_
 show wpAny _ A ((compStart (.ListComp elt gens scope pos) d (.ref I) acc env).onRaise (fun x=>do noteFrame x env;standAt theWindowsPlace)) _ _ s
 refine wpAny_notedAt ?_
 unfold compStart
 rw [show(clausesOf (.ListComp elt gens scope pos))[d]? =some ⟨target,iter,ifs,0⟩ from hg]
 refine(?_:wpAny _ _ (ask>>=_) _ _ s)
 refine wpAny_bind (wpAny_askSetting (wpAny_ite ?_))
 split
 ·exact wpAny_pure ⟨rfl,h⟩
 ·refine wpAny_bind (wpAny_rule ?_)
  refine(?_:wpAny _ _ (standAt iter.pos>>=_) _ _ s)
  exact wpAny_bind (wpAny_standAt (wpAny_bind (hI (wpAny_pure ⟨rfl,h⟩))))
noncomputable def Hg(elt it₁:Expr)(gens:List Comprehension)(scope:Scope)(pos:Pos)(env:Env)(acc:Value):Sem Unit:=do
 let x←eval it₁ env
 standAt it₁.pos
 let x←foldedSetIterable it₁ env x
 let _←runOwn (.compStart (.ListComp elt gens scope pos) 1 (←holding [x] (pyIter x)) acc env) env
theorem Le(hA:rn cf.k A){tk:Nat}{ifs:List Expr}{scope:Scope}{ix iy iz:Nat}{LC:Lc}{ms:V→V→List (M Bool)}{mr:V→V→M V}{me:V→V→V→M V}(hx:cf.env.scope.names[ix]? =some (x,.local))(hy:cf.env.scope.names[iy]? =some (y,.local))(hz:cf.env.scope.names[iz]? =some (z,.local))(JU:LC.lookup ix=none)(Wa:LC.lookup iy=none)(Wb:LC.lookup iz=none)(qH:ix≠iy∧ix≠iz∧iy≠iz)
  (hc:∀a b,SBL g cf ((iy,b)::(ix,a)::LC) ifs (ms a b)) (hr:∀a b,SE g cf ((iy,b)::(ix,a)::LC) it₁ (mr a b)) (he:∀a b u,SE g cf ((iz,u)::(iy,b)::(ix,a)::LC) elt (me a b u)) (JX:∀env x,foldedSetIterable it₁ env x=pure x)
  {I aa:Addr} {r:Value} {acc:VA} {v src:V} {i:Nat} {S:Rp} {s:Shared} {H':Hp} (R:RS g S s) (F:Fits g cf LC S) (L:Aw g S I src i) (hv:bu g S v r) (ha:bu g S (.ref acc) (.ref aa)) (hm:mF (fun a b=>testM .And (ms a b)) mr me acc v S.H=some ((),H')):
  Runs g (fun a=>X0 g a∨a=cf.env.locals) A (zq (.Tuple [.Name x px,.Name y py] tk pt) ifs (.ref I) cf.env (Hg elt it₁ [⟨.Tuple [.Name x px,.Name y py] tk pt,Bb,ifs,0⟩,⟨.Name z pz,it₁, [],0⟩] scope pos cf.env (.ref aa)) r) S s fun S' _=>S'.H=H'∧Fits g cf LC S':=by
 intro E
 unfold mF at hm
 revert hm
 refine ob fun p e0 hm=>?_
 obtain⟨a,b⟩:=p
 obtain rfl:=Nr e0
 unfold QG at hm
 refine bs hm fun c dg Qn hm=>?_
 have out:∀{T:Rp},Fits g cf ((iy,b)::(ix,a)::LC) T→Fits g cf LC T:=fun FT=>by
  refine(FT.drop ?_).drop JU
  rw [b7,Wa,show(iy==ix)=false from beq_eq_false_iff_ne.mpr qH.1.symm]
 unfold zq
 refine wpAny_bind (K9 R L (wpAny_bind (h9 (Gd hA.2.2 R F hx hy hv E) (fun _ gQ eh bf cK e2 j3=>?_))))
 refine wpAny_bind (h9 (Hj (b:=c) (H':=dg) hA (hc a b) bf j3 (e2.symm▸Qn) E) (fun c' iT fw dp gm e3 hb=>?_))
 have S0:=cK.trans (gm.widen (fun a h=> .inl h) (j3.zi bf))
 have wq:=j3.ext bf gm
 apply iH hb
 induction c with
 |false=>exact wpAny_pure (iq fw dp S0 (e3.trans (Lk hm)) (out wq))
 |true=>
  replace hm:=e3▸hm
  unfold Hg
  refine wpAny_bind ((hr a b).go hA dp wq hm E fun w Jj Ax u mI qC hw hm=>?_)
  haveI F5:=wq.ext dp qC
  have S1:=S0.trans (qC.widen (fun a h=> .inl h) (wq.zi dp))
  refine bs hm fun _ gZ hi hm=>?_
  have Yg:itemAt Ax.H u 0≠none∧Ax.H=gZ:=by
   unfold hasItems at hi
   induction hq:itemAt Ax.H u 0 with
   |none=>rw [hq] at hi;exact nn hi
   |some q=>rw [hq] at hi;exact⟨fun e=>nn e.symm,Lk hi⟩
  refine wpAny_bind (wpAny_standAt (wpAny_bind (wpAny_of_eq (JX _ _) (wpAny_bind (wpAny_holding (Sk (yx mI hw Yg.1 E) (fun it Jk Er xG En e5 hit Eo=>?_)))))))
  apply iH hit
  haveI S3:=F5.ext mI En
  haveI XC:=S1.trans (En.widen (fun a h=> .inl h) (F5.zi mI))
  haveI big:S.h.objs.size≤Ax.h.objs.size:=S1.size
  refine wpAny_bind (wpAny_runOwn (NP rfl (GW xG Eo) (xM (A:=A) (d:=1) (mb:=vz (fun _=>pU true) (me a b) acc) (tail:=do let _←call (.builtin "list.append") [.ref aa,←eval elt cf.env]) hA.2.2 (target:= .Name z pz) (iter:=it₁) (ifs:= []) (by rfl) (S3.QB xG Eo)
   (fun v' y' _ S' s' iw R' F' _ hy' ZM Ce=>Ea (cf:=cf) hA hz ?_ (fun _=> .nil) (he a b) R' F' hy' ZM Ce) xG S3 Eo (ha.ext XC) (n:=10000000) ((e5.trans Yg.2).symm▸hm) fun S' s' R' E' e' F'=>?_)))
  ·rw [b7,b7,Wb,show(iz==iy)=false from beq_eq_false_iff_ne.mpr qH.2.2.symm,show(iz==ix)=false from beq_eq_false_iff_ne.mpr qH.2.1.symm]
  ·refine wpAny_pure ⟨S',R',?_,e',out F'⟩
   refine((XC.widen (Y:=fun b=>X0 g b∨b=cf.env.locals∨b=Ax.h.objs.size) (fun a h=>h.imp_right .inl) ?_).trans E').narrow (fun a ha=>?_) (F.zi R)
   ·rintro b o (hb|hb|rfl) e
    ·exact R.cP b o hb e
    ·exact F.zi R b o (.inr hb) e
    ·exact absurd (bk e) (cg.mpr big)
   ·rcases ha with h|h|rfl
    ·exact .inl (.inl h)
    ·exact .inl (.inr h)
    ·exact .inr big
theorem UJ:Es (.ListComp elt [⟨target,Bb,ifs,0⟩,⟨B7,it₁, [],0⟩] scope pos) 0 target Bb ifs it acc env (Hg elt it₁ [⟨target,Bb,ifs,0⟩,⟨B7,it₁, [],0⟩] scope pos env acc):=by
 unfold Es Hg
 simp only [bind_assoc]
 rfl
theorem OX{scope:Scope}{pos:Pos}{mi:M V}{ms:V→V→List (M Bool)}{mr:V→V→M V}{me:V→V→V→M V}(ix iy iz:Nat)(uw:List (Nat×Nat))(LC:Lc)
  (hi:SE g fr Lo Bb mi) (hk:scope.kind= .function) (nm:namesOk scope.names=true) (uQ:oU uw fr.sh fr.env.scope.names 0 scope.names=true) (hL:Ck uw scope.names LC Lo)
  (hx:scope.names[ix]? =some (x,.local)) (hy:scope.names[iy]? =some (y,.local)) (hz:scope.names[iz]? =some (z,.local)) (JU:LC.lookup ix=none) (Wa:LC.lookup iy=none) (Wb:LC.lookup iz=none) (qH:ix≠iy∧ix≠iz∧iy≠iz)
  (hc:∀C a b,SBL g (yP fr scope C) ((iy,b)::(ix,a)::LC) ifs (ms a b)) (hr:∀C a b,SE g (yP fr scope C) ((iy,b)::(ix,a)::LC) it₁ (mr a b))
  (he:∀C a b u,SE g (yP fr scope C) ((iz,u)::(iy,b)::(ix,a)::LC) elt (me a b u))
  (hs:∀x,foldedSetIterable Bb fr.env x=pure x:=by intro _;rfl) (JX:∀env x,foldedSetIterable it₁ env x=pure x:=by intro _ _;rfl):
  SE g fr Lo (.ListComp elt [⟨.Tuple [.Name x px,.Name y py] tk pt,Bb,ifs,0⟩,⟨.Name z pz,it₁, [],0⟩] scope pos) (mi.d fun src=>xK src (fun a b=>testM .And (ms a b)) mr me):=
 JI uw LC hi hk nm uQ hL (fun A hA C src I aa nv acc iS H' R hO F L ha hm R' q=>xM (cf:=yP fr scope C) (mb:=mF (fun a b=>testM .And (ms a b)) mr me acc) (tail:=Hg elt it₁ [⟨.Tuple [.Name x px,.Name y py] tk pt,Bb,ifs,0⟩,⟨.Name z pz,it₁, [],0⟩] scope pos (yP fr scope C).env (.ref aa)) hA.2.2 UJ hO
  (fun _ _ _ _ _ _ R F L hv ha hm=>Le (cf:=yP fr scope C) hA (aI hx (by simp)) (aI hy (by simp)) (aI hz (by simp)) JU Wa Wb qH (hc C) (hr C) (he C) JX R F L hv ha hm) R F L ha hm q) hs
end
namespace hd
open PySem.W.Fast
noncomputable abbrev rr:RowW:=OpenRow.toRowW (OpenLaw.row PySem.Challenge.rw_sz0012_01)
abbrev pg:Program:=rr.prog
noncomputable def F0:List Stmt→Nat→Stmt
 |s::_,0=>s
 |_::l,n+1=>F0 l n
 | [],_=> .Pass ⟨0,0,0,0⟩
noncomputable def bd:Stmt→List Stmt
 | .FunctionDef _ _ b _ _ _ _ _ _ _=>b
 | .ClassDef _ _ _ b _ _ _ _ _ _ _=>b
 |_=> []
noncomputable def ar:Stmt→Arguments
 | .FunctionDef _ a _ _ _ _ _ _ _ _=>a
 |_=>⟨[], [],none, [], [],none, []⟩
noncomputable def sc:Stmt→Scope
 | .FunctionDef _ _ _ _ _ _ s _ _ _=>s
 | .ClassDef _ _ _ _ _ _ s _ _ _ _=>s
 |_=>default
abbrev st(i:Nat):Stmt:=F0 pg.main.body i
abbrev fB(i:Nat):=bd (st i)
abbrev fA(i:Nat):=ar (st i)
abbrev fS(i:Nat):=sc (st i)
abbrev gB(i j:Nat):=bd (F0 (fB i) j)
abbrev gA(i j:Nat):=ar (F0 (fB i) j)
abbrev gS(i j:Nat):=sc (F0 (fB i) j)
noncomputable abbrev S:=Value.str
noncomputable abbrev I(n:Int):=Value.int n 0
noncomputable abbrev R:=Value.ref
noncomputable abbrev N:=Value.none
noncomputable abbrev T:=Value.bool true
noncomputable abbrev U:=Value.bool false
noncomputable abbrev cut:Str:= "/claim/cut.py"
noncomputable abbrev Y:=Value.type
noncomputable abbrev B:=Value.builtin
noncomputable abbrev ob(c:Value)(d:Data):Obj:=⟨c,none,d, #[]⟩
abbrev oc(l:List Value):Obj:=ob (.type "code") (.fields l.toArray)
def ck(n q:Str)(t:Nat)(l a:Int)(k:Int)(r:Nat)(b w x y z:Value)(u:Nat):Obj:=oc [S n t,S q (t+1),S cut (t+2),I l,I a,I 0,I 0,I k,R r,b,I 181,R (r+1),w,x,y,z,I u,I l,S cut (u+1)]
abbrev cc(n:Str)(t:Nat)(l a:Int)(r:Nat)(w x y z:Value)(u:Nat):Obj:=ck n n t l a 3 r T w x y z u
abbrev cd(n q:Str)(t:Nat)(l a:Int)(r:Nat)(w x y z:Value)(u:Nat):Obj:=ck n q t l a 3 r T w x y z u
abbrev cm(n:Str)(t:Nat)(l:Int)(r:Nat)(u:Nat):Obj:=ck n n t l 0 0 r U N N N N u
abbrev of(l:List Value):Obj:=ob .none (.fields l.toArray)
abbrev ot(l:List Value):Obj:=ob (.type "tuple") (.seq l.toArray 0)
noncomputable abbrev kv(P:Params)(s:Str)(n:Nat)(v:Value):DictEntry:=⟨PyData.keyHash P s,.str s n,v⟩
abbrev f0(i:Nat)(n:Str):Obj:=ob N (.func ⟨n,n,fA i,.stmts (fB i),fS i,0, [],N,N,N,N,none,N,N,0⟩)
abbrev f1(i:Nat)(n:Str)(m:Value)(c:Addr):Obj:=ob (.type "function") (.func ⟨n,n,fA i,.stmts (fB i),fS i,3, [],N,N,N,m,none,R c,N,0⟩)
abbrev g0(i j:Nat)(n q:Str):Obj:=ob N (.func ⟨n,q,gA i j,.stmts (gB i j),gS i j,0, [],N,N,N,N,none,N,N,0⟩)
abbrev g1(i j:Nat)(n q:Str)(m:Value)(c:Addr):Obj:=ob (.type "function") (.func ⟨n,q,gA i j,.stmts (gB i j),gS i j,3, [],N,N,N,m,none,R c,N,0⟩)
noncomputable abbrev M0:=S "adacore.clock" 282
noncomputable abbrev M1:=S "adacore.entryqueues" 187
noncomputable abbrev M2:=S "adacore.errors" 659
noncomputable abbrev M3:=S "adacore.limits" 744
noncomputable abbrev M4:=S "adacore.masters" 802
noncomputable abbrev M5:=S "adacore.protected" 499
noncomputable abbrev M6:=S "adacore.rendezvous" 345
noncomputable abbrev M7:=S "adacore.scheduler" 970
noncomputable abbrev M8:=S "law_sz0012_01" 1068
abbrev mE(P:Params)(v:Value):List DictEntry:= [kv P "__name__" 165 v,kv P "__doc__" 166 N,kv P "__package__" 167 N,kv P "__loader__" 168 (B "__main__.__loader__#opaque"),kv P "__spec__" 169 N,kv P "__annotations__" 170 (R 6),kv P "__builtins__" 171 (R 4),kv P "__file__" 173 (S cut 172),kv P "__cached__" 174 N,kv P "MADE" 190 (S "made" 189),kv P "QUEUED" 192 (S "queued" 191),kv P "SERVED" 194 (S "served" 193),kv P "OVER" 196 (S "over" 195),kv P "EntryCall" 238 (R 31),kv P "join_queue" 246 (R 42),kv P "leave_queue" 252 (R 47),kv P "first_call" 261 (R 54),kv P "count_calls" 269 (R 61),kv P "drain_queues" 275 (R 66),kv P "used_keys" 281 (R 71),kv P "Clock" 311 (R 88),kv P "time_after" 319 (R 99),kv P "next_time" 328 (R 106),kv P "move_clock" 336 (R 113),kv P "is_due" 344 (R 120),kv P "FRESH" 348 (S "fresh" 347),kv P "READY" 350 (S "ready" 349),kv P "ACTIVATING" 352 (S "activating" 351),kv P "CALLING" 354 (S "calling" 353),kv P "MEETING" 356 (S "meeting" 355),kv P "ACCEPTING" 358 (S "accepting" 357),kv P "DELAYED" 360 (S "delayed" 359),kv P "LOCKED" 362 (S "locked" 361),kv P "LEAVING" 364 (S "leaving" 363),kv P "COMPLETED" 366 (S "completed" 365),kv P "DONE" 368 (S "done" 367),kv P "TASKING_ERROR" 370 (S "tasking_error" 369),kv P "PROGRAM_ERROR" 372 (S "program_error" 371),kv P "TaskThing" 428 (R 137),kv P "wake_up" 437 (R 148),kv P "finish_call" 445 (R 155),kv P "stops_here" 452 (R 162),kv P "cancel_call" 459 (R 169),kv P "note_lost" 467 (R 176),kv P "refuse_call" 474 (R 183),kv P "ends_here" 482 (R 190),kv P "delay_task" 491 (R 197),kv P "time_is_up" 498 (R 204),kv P "ProtectedThing" 539 (R 221),kv P "has_place" 547 (R 232),kv P "come_in" 556 (R 239),kv P "ask_lock" 565 (R 246),kv P "give_lock" 571 (R 251),kv P "let_in" 577 (R 256),kv P "made_call" 590 (R 263),kv P "call_protected" 603 (R 270),kv P "queue_protected" 616 (R 277),kv P "rest_in_queue" 623 (R 284),kv P "next_served" 634 (R 291),kv P "end_served" 642 (R 298),kv P "requeue_protected" 652 (R 305),kv P "refuse_conditional" 658 (R 310),kv P "AdaError" 689 (R 327),kv P "AdaRaise" 718 (R 347),kv P "Deadlock" 743 (R 366),kv P "Limits" 801 (R 386),kv P "Master" 836 (R 407),kv P "make_task" 847 (R 418),kv P "activate_tasks" 856 (R 425),kv P "end_activation" 866 (R 432),kv P "are_done" 872 (R 437),kv P "end_fresh" 880 (R 444),kv P "drop_fresh" 888 (R 451),kv P "complete_task" 897 (R 458),kv P "is_held" 904 (R 465),kv P "end_abnormal" 911 (R 472),kv P "settle_abnormal" 920 (R 479),kv P "settle_ends" 926 (R 484),kv P "can_terminate" 932 (R 489),kv P "is_quiet" 941 (R 496),kv P "ended_masters" 947 (R 501),kv P "terminate_below" 956 (R 508),kv P "settle_terminates" 962 (R 513),kv P "settle_tasks" 969 (R 520),kv P "Tasking" 1016 (R 544),kv P "ready_tasks" 1022 (R 553),kv P "waiting_tasks" 1028 (R 558),kv P "pass_time" 1034 (R 563),kv P "end_late" 1040 (R 568),kv P "serve_lost" 1049 (R 575),kv P "choose_among" 1059 (R 582),kv P "pick_task" 1067 (R 589),kv P "_law_come" 1071 (R 590),kv P "_law_wait" 1073 (R 591),kv P "_law_read" 1075 (R 592),kv P "_law_write" 1077 (R 593),kv P "_law_visits" 1104 (R 594),kv P "_law_spoke" 1114 (R 601),kv P "_law_writes" 1122 (R 608),kv P "_law_line" 1128 (R 613),kv P "_law_has_writer" 1135 (R 620),kv P "_law_is_open" 1144 (R 627),kv P "_law_body" 1150 (R 632),kv P "_law_tend" 1160 (R 639),kv P "_law_comes" 1166 (R 644),kv P "_law_leaves" 1172 (R 649),kv P "_law_hears" 1178 (R 654),kv P "_law_goes" 1190 (R 661),kv P "_law_is_kept" 1196 (R 666),kv P "law" 1202 (R 671)]
abbrev om(P:Params)(n:Nat)(v:Value):Obj:=ob (.type "dict") (.dict ((mE P v).take n).toArray n)
noncomputable def tE:List Value:= [I 6,I 0,R 20,I 19,I 0,R 41,I 24,I 0,R 46,I 30,I 0,R 53,I 33,I 0,R 60,I 35,I 0,R 65,I 42,I 0,R 70,I 49,I 0,R 77,I 53,I 0,R 98,I 55,I 0,R 105,I 61,I 0,R 112,I 63,I 0,R 119,I 79,I 0,R 126,I 108,I 0,R 147,I 115,I 0,R 154,I 120,I 0,R 161,I 125,I 0,R 168,I 129,I 0,R 175,I 132,I 0,R 182,I 136,I 0,R 189,I 144,I 0,R 196,I 150,I 0,R 203,I 159,I 0,R 210,I 172,I 0,R 231,I 176,I 0,R 238,I 182,I 0,R 245,I 192,I 0,R 250,I 199,I 0,R 255,I 205,I 0,R 262,I 214,I 0,R 269,I 218,I 0,R 276,I 226,I 0,R 283,I 230,I 0,R 290,I 243,I 0,R 297,I 245,I 0,R 304,I 252,I 0,R 309,I 260,I 0,R 316,I 265,I 0,R 336,I 272,I 0,R 355,I 278,I 0,R 374,I 289,I 0,R 396,I 296,I 0,R 417,I 304,I 0,R 424,I 312,I 0,R 431,I 323,I 0,R 436,I 325,I 0,R 443,I 329,I 0,R 450,I 333,I 0,R 457,I 345,I 0,R 464,I 349,I 0,R 471,I 356,I 0,R 478,I 364,I 0,R 483,I 375,I 0,R 488,I 377,I 0,R 495,I 387,I 0,R 500,I 392,I 0,R 507,I 398,I 0,R 512,I 408,I 0,R 519,I 412,I 0,R 526,I 428,I 0,R 552,I 430,I 0,R 557,I 432,I 0,R 562,I 441,I 0,R 567,I 447,I 0,R 574,I 455,I 0,R 581,I 461,I 0,R 588,I 478,I 0,R 600,I 482,I 0,R 607,I 484,I 0,R 612,I 487,I 0,R 619,I 489,I 0,R 626,I 498,I 0,R 631,I 510,I 0,R 638,I 520,I 0,R 643,I 535,I 0,R 648,I 540,I 0,R 653,I 548,I 0,R 660,I 572,I 0,R 665,I 592,I 0,R 670]
def eg(P:Params):Obj:=ot []
def ja(P:Params):Obj:=of []
def BO(P:Params):Obj:=ob N (eD #[kv P "type.__subclasses__.Exception.0" 686 (I 327),kv P "type.__subclasses__.Exception.n" 687 (I 1)] 2)
def RV(P:Params):Obj:=ob (Y "dict") (eD (mE P M8).toArray 110)
def o45(P:Params):Obj:=cm "<module>" 182 1 11 185
noncomputable def o46(P:Params):Obj:=Obj.mk (Y "frame") none jq #[some (R 13),some (R 3),some (R 3),none,some (S "__main__" 164),none,some (R 0)]
def Oq(P:Params):Obj:=ob (Y "builtin_function_or_method") (bx #[B "type.__prepare__",Y "type"])
noncomputable def sp{α:Type}(l:List α):List α×List α:=Qa ([], []) (fun x _ p=>(x::p.2,p.1)) l
def bt:Nat→List Obj→BT:= @Nat.rec (fun _=>List Obj→BT) (fun _=> .nil) fun _ ih l=> @Qa _ (fun _=>BT) .nil (fun o r _=> .node o (ih (sp r).1) (ih (sp r).2)) l
abbrev WW(P:Params)(a b c:Obj):List Obj:= [boot_o_0 P,boot_o_1 P,a,b,boot_o_4 P,boot_o_5 P,boot_o_6 P,boot_o_7 P,boot_o_8 P,boot_o_9 P,boot_o_10 P,eg P,c,o45 P,o46 P]
def JT(P:Params):Heap:=⟨⟨WW P (boot_o_2 P) (boot_o_3 P) (ja P)⟩,{}⟩
def aO(P:Params):Frag:= [(2,BO P),(3,RV P),(22,eg P),(24,ot [S "self" 212,S "number" 213,S "caller" 214,S "target" 215,S "key" 216,S "values" 217]),(25,eg P),(27,cd "__init__" "EntryCall.__init__" 209 8 6 22 N (R 24) (R 25) (R 26) 218),(28,g1 5 0 "__init__" "EntryCall.__init__" M1 27),(29,ot [S "caller" 221,S "deadline" 222,S "found" 223,S "is_conditional" 224,S "is_firm" 225,S "key" 226,S "number" 227,S "state" 228,S "target" 229,S "values" 230]),(30,ob (Y "dict") (eD #[kv P "__module__" 204 M1,kv P "__firstlineno__" 208 (Value.int 6 207),kv P "__init__" 220 (R 28),kv P "__static_attributes__" 231 (R 29),kv P "__dict__" 233 (R 32),kv P "__weakref__" 235 (R 33),kv P "__doc__" 236 N] 4)),(31,Obj.mk (Y "type") none (lx (ClassData.mk "EntryCall" [Y "object"] [R 31,Y "object"] 30 "EntryCall" jJ [] [] dI none dI)) #[none,none,some (S "EntryCall" 197),some (S "EntryCall" 205),some (B "object.__new__"),some T]),(32,ob (Y "getset_descriptor") (bx #[S "__dict__" 232,R 31,B "function.__dict__",B "function.__dict__#set"])),(33,ob (Y "getset_descriptor") (bx #[S "__weakref__" 234,R 31,B "ExceptionGroup.__weakref__",N])),(36,eg P),(38,ot [S "queues" 242,S "call" 243]),(39,eg P),(41,cc "join_queue" 239 19 2 36 N (R 38) (R 39) (R 40) 244),(42,f1 6 "join_queue" M1 41),(43,eg P),(46,cc "leave_queue" 247 24 2 43 N N N (R 45) 250),(47,f1 7 "leave_queue" M1 46),(48,eg P),(50,ot [S "queues" 256,S "key" 257,S "waiting" 258]),(51,eg P),(53,cc "first_call" 253 30 2 48 N (R 50) (R 51) (R 52) 259),(54,f1 8 "first_call" M1 53),(55,eg P),(57,ot [S "queues" 265,S "key" 266]),(58,eg P),(60,cc "count_calls" 262 33 2 55 N (R 57) (R 58) (R 59) 267),(61,f1 9 "count_calls" M1 60),(62,eg P),(65,cc "drain_queues" 270 35 1 62 N N N (R 64) 273),(66,f1 10 "drain_queues" M1 65),(67,eg P),(70,cc "used_keys" 276 42 2 67 N N N (R 69) 279),(71,f1 11 "used_keys" M1 70),(79,eg P),(81,ot [S "self" 299]),(82,eg P),(84,cd "__init__" "Clock.__init__" 296 51 1 79 N (R 81) (R 82) (R 83) 300),(85,ob (Y "function") (z7 (FuncData.mk "__init__" "Clock.__init__" (gA 13 0) (FuncBody.stmts (gB 13 0)) (gS 83 1) 3 [] N N N M0 none (R 84) N 0))),(86,ot [S "now" 303]),(87,ob (Y "dict") (eD #[kv P "__module__" 291 M0,kv P "__firstlineno__" 295 (Value.int 49 294),kv P "__init__" 302 (R 85),kv P "__static_attributes__" 304 (R 86),kv P "__dict__" 306 (R 89),kv P "__weakref__" 308 (R 90),kv P "__doc__" 309 N] 4)),(88,Obj.mk (Y "type") none (lx (ClassData.mk "Clock" [Y "object"] [R 88,Y "object"] 87 "Clock" jJ [] [] dI none dI)) #[none,none,some (S "Clock" 284),some (S "Clock" 292),some (B "object.__new__"),some T]),(89,ob (Y "getset_descriptor") (bx #[S "__dict__" 305,R 88,B "function.__dict__",B "function.__dict__#set"])),(90,ob (Y "getset_descriptor") (bx #[S "__weakref__" 307,R 88,B "ExceptionGroup.__weakref__",N])),(93,eg P),(95,ot [S "clock" 315,S "wait" 316]),(96,eg P),(98,cc "time_after" 312 53 2 93 N (R 95) (R 96) (R 97) 317),(99,f1 14 "time_after" M0 98),(100,eg P),(102,ot [S "times" 323,S "least" 324,S "time" 325]),(103,eg P),(105,cc "next_time" 320 55 1 100 N (R 102) (R 103) (R 104) 326),(106,f1 15 "next_time" M0 105),(107,eg P),(109,ot [S "clock" 332,S "time" 333]),(110,eg P),(112,cc "move_clock" 329 61 2 107 N (R 109) (R 110) (R 111) 334),(113,f1 16 "move_clock" M0 112),(114,eg P),(116,ot [S "clock" 340,S "time" 341]),(117,eg P),(119,cc "is_due" 337 63 2 114 N (R 116) (R 117) (R 118) 342),(120,f1 17 "is_due" M0 119),(128,eg P),(130,ot [S "self" 388,S "number" 389,S "name" 390,S "master" 391]),(131,eg P),(133,cd "__init__" "TaskThing.__init__" 385 81 4 128 N (R 130) (R 131) (R 132) 392),(134,g1 32 0 "__init__" "TaskThing.__init__" M6 133),(135,ot [S "activator" 395,S "answer" 396,S "bases" 397,S "call" 398,S "caught" 399,S "frame" 400,S "has_failed" 401,S "inside" 402,S "is_abnormal" 403,S "late" 404,S "leaving" 405,S "line" 406,S "master" 407,S "masters" 408,S "name" 409,S "number" 410,S "open" 411,S "pending" 412,S "queues" 413,S "raised" 414,S "result" 415,S "resume" 416,S "serving" 417,S "stack" 418,S "state" 419,S "wake" 420]),(136,ob (Y "dict") (eD #[kv P "__module__" 380 M6,kv P "__firstlineno__" 384 (Value.int 79 383),kv P "__init__" 394 (R 134),kv P "__static_attributes__" 421 (R 135),kv P "__dict__" 423 (R 138),kv P "__weakref__" 425 (R 139),kv P "__doc__" 426 N] 4)),(137,Obj.mk (Y "type") none (lx (ClassData.mk "TaskThing" [Y "object"] [R 137,Y "object"] 136 "TaskThing" jJ [] [] dI none dI)) #[none,none,some (S "TaskThing" 373),some (S "TaskThing" 381),some (B "object.__new__"),some T]),(138,ob (Y "getset_descriptor") (bx #[S "__dict__" 422,R 137,B "function.__dict__",B "function.__dict__#set"])),(139,ob (Y "getset_descriptor") (bx #[S "__weakref__" 424,R 137,B "ExceptionGroup.__weakref__",N])),(142,eg P),(144,ot [S "task" 432,S "answer" 433,S "raised" 434]),(145,eg P),(147,cc "wake_up" 429 108 3 142 N (R 144) (R 145) (R 146) 435),(148,f1 33 "wake_up" M6 147),(149,eg P),(151,ot [S "call" 441,S "raised" 442]),(152,eg P),(154,cc "finish_call" 438 115 2 149 N (R 151) (R 152) (R 153) 443),(155,f1 34 "finish_call" M6 154),(156,eg P),(158,ot [S "task" 449]),(159,eg P),(161,cc "stops_here" 446 120 1 156 N (R 158) (R 159) (R 160) 450),(162,f1 35 "stops_here" M6 161),(163,eg P),(165,ot [S "call" 456]),(166,eg P),(168,cc "cancel_call" 453 125 1 163 N (R 165) (R 166) (R 167) 457),(169,f1 36 "cancel_call" M6 168),(170,eg P),(172,ot [S "tasking" 463,S "task" 464]),(173,eg P),(175,cc "note_lost" 460 129 2 170 N (R 172) (R 173) (R 174) 465),(176,f1 37 "note_lost" M6 175),(177,eg P),(179,ot [S "call" 471]),(180,eg P),(182,cc "refuse_call" 468 132 1 177 N (R 179) (R 180) (R 181) 472),(183,f1 38 "refuse_call" M6 182),(184,eg P),(186,ot [S "call" 478,S "with_abort" 479]),(187,eg P),(189,cc "ends_here" 475 136 2 184 N (R 186) (R 187) (R 188) 480),(190,f1 39 "ends_here" M6 189),(191,eg P),(193,ot [S "tasking" 486,S "task" 487,S "wait" 488]),(194,eg P),(196,cc "delay_task" 483 144 3 191 N (R 193) (R 194) (R 195) 489),(197,f1 40 "delay_task" M6 196),(198,eg P),(200,ot [S "task" 495]),(201,eg P),(203,cc "time_is_up" 492 150 1 198 N (R 200) (R 201) (R 202) 496),(204,f1 41 "time_is_up" M6 203),(212,eg P),(214,ot [S "self" 516,S "number" 517,S "entries" 518]),(215,eg P),(217,cd "__init__" "ProtectedThing.__init__" 513 161 3 212 N (R 214) (R 215) (R 216) 519),(218,g1 43 0 "__init__" "ProtectedThing.__init__" M5 217),(219,ot [S "body" 522,S "cells" 523,S "entries" 524,S "frame" 525,S "is_making" 526,S "line" 527,S "number" 528,S "queues" 529,S "readers" 530,S "writer" 531]),(220,ob (Y "dict") (eD #[kv P "__module__" 508 M5,kv P "__firstlineno__" 512 (Value.int 159 511),kv P "__init__" 521 (R 218),kv P "__static_attributes__" 532 (R 219),kv P "__dict__" 534 (R 222),kv P "__weakref__" 536 (R 223),kv P "__doc__" 537 N] 4)),(221,Obj.mk (Y "type") none (lx (ClassData.mk "ProtectedThing" [Y "object"] [R 221,Y "object"] 220 "ProtectedThing" jJ [] [] dI none dI)) #[none,none,some (S "ProtectedThing" 501),some (S "ProtectedThing" 509),some (B "object.__new__"),some T]),(222,ob (Y "getset_descriptor") (bx #[S "__dict__" 533,R 221,B "function.__dict__",B "function.__dict__#set"])),(223,ob (Y "getset_descriptor") (bx #[S "__weakref__" 535,R 221,B "ExceptionGroup.__weakref__",N])),(226,eg P),(228,ot [S "thing" 543,S "is_write" 544]),(229,eg P),(231,cc "has_place" 540 172 2 226 N (R 228) (R 229) (R 230) 545),(232,f1 44 "has_place" M5 231),(233,eg P),(235,ot [S "thing" 551,S "task" 552,S "is_write" 553]),(236,eg P),(238,cc "come_in" 548 176 3 233 N (R 235) (R 236) (R 237) 554),(239,f1 45 "come_in" M5 238),(240,eg P),(242,ot [S "thing" 560,S "task" 561,S "is_write" 562]),(243,eg P),(245,cc "ask_lock" 557 182 3 240 N (R 242) (R 243) (R 244) 563),(246,f1 46 "ask_lock" M5 245),(247,eg P),(250,cc "give_lock" 566 192 2 247 N N N (R 249) 569),(251,f1 47 "give_lock" M5 250),(252,eg P),(255,cc "let_in" 572 199 1 252 N N N (R 254) 575),(256,f1 48 "let_in" M5 255),(257,eg P),(259,ot [S "tasking" 581,S "thing" 582,S "caller" 583,S "key" 584,S "values" 585,S "wait" 586,S "call" 587]),(260,eg P),(262,cc "made_call" 578 205 6 257 N (R 259) (R 260) (R 261) 588),(263,f1 49 "made_call" M5 262),(264,eg P),(266,ot [S "tasking" 594,S "thing" 595,S "caller" 596,S "key" 597,S "values" 598,S "wait" 599,S "call" 600]),(267,eg P),(269,cc "call_protected" 591 214 6 264 N (R 266) (R 267) (R 268) 601),(270,f1 50 "call_protected" M5 269),(271,eg P),(273,ot [S "tasking" 607,S "thing" 608,S "caller" 609,S "key" 610,S "values" 611,S "wait" 612,S "call" 613]),(274,eg P),(276,cc "queue_protected" 604 218 6 271 N (R 273) (R 274) (R 275) 614),(277,f1 51 "queue_protected" M5 276),(278,eg P),(280,ot [S "call" 620]),(281,eg P),(283,cc "rest_in_queue" 617 226 1 278 N (R 280) (R 281) (R 282) 621),(284,f1 52 "rest_in_queue" M5 283),(285,eg P),(287,ot [S "thing" 627,S "is_open" 628,S "entry" 629,S "key" 630,S "call" 631]),(288,eg P),(290,cc "next_served" 624 230 2 285 N (R 287) (R 288) (R 289) 632),(291,f1 53 "next_served" M5 290),(292,eg P),(294,ot [S "call" 638,S "raised" 639]),(295,eg P),(297,cc "end_served" 635 243 2 292 N (R 294) (R 295) (R 296) 640),(298,f1 54 "end_served" M5 297),(299,eg P),(301,ot [S "call" 646,S "thing" 647,S "key" 648,S "with_abort" 649]),(302,eg P),(304,cc "requeue_protected" 643 245 4 299 N (R 301) (R 302) (R 303) 650),(305,f1 55 "requeue_protected" M5 304),(306,eg P),(309,cc "refuse_conditional" 653 252 1 306 N N N (R 308) 656),(310,f1 56 "refuse_conditional" M5 309),(311,ot [Y "Exception"]),(318,eg P),(320,ot [S "self" 676,S "text" 677]),(321,eg P),(323,cd "__init__" "AdaError.__init__" 673 262 2 318 N (R 320) (R 321) (R 322) 678),(324,g1 58 0 "__init__" "AdaError.__init__" M2 323),(325,ot [S "text" 681]),(326,ob (Y "dict") (eD #[kv P "__module__" 668 M2,kv P "__firstlineno__" 672 (Value.int 260 671),kv P "__init__" 680 (R 324),kv P "__static_attributes__" 682 (R 325),kv P "__weakref__" 684 (R 328),kv P "__doc__" 685 N] 3)),(327,Obj.mk (Y "type") none (lx (ClassData.mk "AdaError" [Y "Exception"] [R 327,Y "Exception",Y "BaseException",Y "object"] 326 "AdaError" jJ [] [R 347,R 366] dI none dI)) #[some (R 311),none,some (S "AdaError" 661),some (S "AdaError" 669),some (B "Exception.__new__"),some T]),(328,ob (Y "getset_descriptor") (bx #[S "__weakref__" 683,R 327,B "ExceptionGroup.__weakref__",N])),(331,ot [R 327]),(338,eg P),(340,ot [S "self" 705,S "name" 706,S "line" 707,S "text" 708]),(341,eg P),(343,cd "__init__" "AdaRaise.__init__" 702 267 4 338 N (R 340) (R 341) (R 342) 709),(344,g1 59 0 "__init__" "AdaRaise.__init__" M2 343),(345,ot [S "line" 712,S "name" 713,S "word" 714]),(346,ob (Y "dict") (eD #[kv P "__module__" 697 M2,kv P "__firstlineno__" 701 (Value.int 265 700),kv P "__init__" 711 (R 344),kv P "__static_attributes__" 715 (R 345),kv P "__doc__" 716 N] 2)),(347,Obj.mk (Y "type") none (lx (ClassData.mk "AdaRaise" [R 327] [R 347,R 327,Y "Exception",Y "BaseException",Y "object"] 346 "AdaRaise" jJ [] [] dI none dI)) #[some (R 331),none,some (S "AdaRaise" 690),some (S "AdaRaise" 698),some (B "Exception.__new__"),some T]),(350,ot [R 327]),(357,eg P),(359,ot [S "self" 734,S "tasks" 735]),(360,eg P),(362,cd "__init__" "Deadlock.__init__" 731 274 2 357 N (R 359) (R 360) (R 361) 736),(363,g1 60 0 "__init__" "Deadlock.__init__" M2 362),(364,ot [S "tasks" 739]),(365,ob (Y "dict") (eD #[kv P "__module__" 726 M2,kv P "__firstlineno__" 730 (Value.int 272 729),kv P "__init__" 738 (R 363),kv P "__static_attributes__" 740 (R 364),kv P "__doc__" 741 N] 2)),(366,Obj.mk (Y "type") none (lx (ClassData.mk "Deadlock" [R 327] [R 366,R 327,Y "Exception",Y "BaseException",Y "object"] 365 "Deadlock" jJ [] [] dI none dI)) #[some (R 350),none,some (S "Deadlock" 719),some (S "Deadlock" 727),some (B "Exception.__new__"),some T]),(376,ot [Value.int 32 758,Value.int 1000000 761,Value.int 50 762,Value.int 10000 765,Value.int 100000 768,Value.int 50 769,Value.int 1000000 772]),(377,eg P),(379,ot [S "self" 776,S "width" 777,S "steps" 778,S "depth" 779,S "members" 780,S "text" 781,S "tasks" 782,S "heap" 783]),(380,eg P),(382,cd "__init__" "Limits.__init__" 773 280 8 377 N (R 379) (R 380) (R 381) 784),(383,ob (Y "function") (z7 (FuncData.mk "__init__" "Limits.__init__" (gA 62 0) (FuncBody.stmts (gB 62 0)) (gS 62 0) 3 [] (R 376) N N M3 none (R 382) N 0))),(384,ot [S "depth" 787,S "heap" 788,S "members" 789,S "steps" 790,S "tasks" 791,S "text" 792,S "width" 793]),(385,ob (Y "dict") (eD #[kv P "__module__" 753 M3,kv P "__firstlineno__" 757 (Value.int 278 756),kv P "__init__" 786 (R 383),kv P "__static_attributes__" 794 (R 384),kv P "__dict__" 796 (R 387),kv P "__weakref__" 798 (R 388),kv P "__doc__" 799 N] 4)),(386,Obj.mk (Y "type") none (lx (ClassData.mk "Limits" [Y "object"] [R 386,Y "object"] 385 "Limits" jJ [] [] dI none dI)) #[none,none,some (S "Limits" 746),some (S "Limits" 754),some (B "object.__new__"),some T]),(387,ob (Y "getset_descriptor") (bx #[S "__dict__" 795,R 386,B "function.__dict__",B "function.__dict__#set"])),(388,ob (Y "getset_descriptor") (bx #[S "__weakref__" 797,R 386,B "ExceptionGroup.__weakref__",N])),(398,eg P),(400,ot [S "self" 819,S "number" 820,S "owner" 821]),(401,eg P),(403,cd "__init__" "Master.__init__" 816 291 3 398 N (R 400) (R 401) (R 402) 822),(404,g1 64 0 "__init__" "Master.__init__" M4 403),(405,ot [S "dependents" 825,S "is_ended" 826,S "number" 827,S "owner" 828]),(406,ob (Y "dict") (eD #[kv P "__module__" 811 M4,kv P "__firstlineno__" 815 (Value.int 289 814),kv P "__init__" 824 (R 404),kv P "__static_attributes__" 829 (R 405),kv P "__dict__" 831 (R 408),kv P "__weakref__" 833 (R 409),kv P "__doc__" 834 N] 4)),(407,Obj.mk (Y "type") none (lx (ClassData.mk "Master" [Y "object"] [R 407,Y "object"] 406 "Master" jJ [] [] dI none dI)) #[none,none,some (S "Master" 804),some (S "Master" 812),some (B "object.__new__"),some T]),(408,ob (Y "getset_descriptor") (bx #[S "__dict__" 830,R 407,B "function.__dict__",B "function.__dict__#set"])),(409,ob (Y "getset_descriptor") (bx #[S "__weakref__" 832,R 407,B "ExceptionGroup.__weakref__",N])),(412,eg P),(414,ot [S "tasking" 840,S "name" 841,S "master" 842,S "line" 843,S "task" 844]),(415,eg P),(417,cc "make_task" 837 296 4 412 N (R 414) (R 415) (R 416) 845),(418,f1 65 "make_task" M4 417),(419,eg P),(421,ot [S "activator" 851,S "fresh" 852,S "task" 853]),(422,eg P),(424,cc "activate_tasks" 848 304 2 419 N (R 421) (R 422) (R 423) 854),(425,f1 66 "activate_tasks" M4 424),(426,eg P),(428,ot [S "task" 860,S "has_failed" 861,S "activator" 862,S "raised" 863]),(429,eg P),(431,cc "end_activation" 857 312 2 426 N (R 428) (R 429) (R 430) 864),(432,f1 67 "end_activation" M4 431),(433,eg P),(436,cc "are_done" 867 323 1 433 N N N (R 435) 870),(437,f1 68 "are_done" M4 436),(438,eg P),(440,ot [S "task" 876,S "call" 877]),(441,eg P),(443,cc "end_fresh" 873 325 1 438 N (R 440) (R 441) (R 442) 878),(444,f1 69 "end_fresh" M4 443),(445,eg P),(447,ot [S "master" 884,S "task" 885]),(448,eg P),(450,cc "drop_fresh" 881 329 1 445 N (R 447) (R 448) (R 449) 886),(451,f1 70 "drop_fresh" M4 450),(452,eg P),(454,ot [S "task" 892,S "call" 893,S "master" 894]),(455,eg P),(457,cc "complete_task" 889 333 1 452 N (R 454) (R 455) (R 456) 895),(458,f1 71 "complete_task" M4 457),(459,eg P),(461,ot [S "task" 901]),(462,eg P),(464,cc "is_held" 898 345 1 459 N (R 461) (R 462) (R 463) 902),(465,f1 72 "is_held" M4 464),(466,eg P),(468,ot [S "task" 908]),(469,eg P),(471,cc "end_abnormal" 905 349 1 466 N (R 468) (R 469) (R 470) 909),(472,f1 73 "end_abnormal" M4 471),(473,eg P),(475,ot [S "tasking" 915,S "is_moved" 916,S "task" 917]),(476,eg P),(478,cc "settle_abnormal" 912 356 1 473 N (R 475) (R 476) (R 477) 918),(479,f1 74 "settle_abnormal" M4 478),(480,eg P),(483,cc "settle_ends" 921 364 1 480 N N N (R 482) 924),(484,f1 75 "settle_ends" M4 483),(485,eg P),(488,cc "can_terminate" 927 375 1 485 N N N (R 487) 930),(489,f1 76 "can_terminate" M4 488),(490,eg P),(492,ot [S "task" 936,S "master" 937,S "other" 938]),(493,eg P),(495,cc "is_quiet" 933 377 1 490 N (R 492) (R 493) (R 494) 939),(496,f1 77 "is_quiet" M4 495),(497,eg P),(500,cc "ended_masters" 942 387 1 497 N N N (R 499) 945),(501,f1 78 "ended_masters" M4 500),(502,eg P),(504,ot [S "task" 951,S "master" 952,S "other" 953]),(505,eg P),(507,cc "terminate_below" 948 392 1 502 N (R 504) (R 505) (R 506) 954),(508,f1 79 "terminate_below" M4 507),(509,eg P),(512,cc "settle_terminates" 957 398 1 509 N N N (R 511) 960),(513,f1 80 "settle_terminates" M4 512),(514,eg P),(516,ot [S "tasking" 966]),(517,eg P),(519,cc "settle_tasks" 963 408 1 514 N (R 516) (R 517) (R 518) 967),(520,f1 81 "settle_tasks" M4 519),(528,eg P),(530,ot [S "self" 987,S "limits" 988,S "choose" 989]),(531,eg P),(533,cd "__init__" "Tasking.__init__" 984 414 3 528 N (R 530) (R 531) (R 532) 990),(534,g1 83 0 "__init__" "Tasking.__init__" M7 533),(535,eg P),(537,ot [S "self" 996]),(538,eg P),(540,cd "next_number" "Tasking.next_number" 993 425 1 535 N (R 537) (R 538) (R 539) 997),(541,g1 83 1 "next_number" "Tasking.next_number" M7 540),(542,ot [S "choose" 1000,S "clock" 1001,S "library" 1002,S "limits" 1003,S "lost" 1004,S "numbers" 1005,S "serve" 1006,S "settled" 1007,S "tasks" 1008]),(543,ob (Y "dict") (eD #[kv P "__module__" 979 M7,kv P "__firstlineno__" 983 (Value.int 412 982),kv P "__init__" 992 (R 534),kv P "next_number" 999 (R 541),kv P "__static_attributes__" 1009 (R 542),kv P "__dict__" 1011 (R 545),kv P "__weakref__" 1013 (R 546),kv P "__doc__" 1014 N] 4)),(544,Obj.mk (Y "type") none (lx (ClassData.mk "Tasking" [Y "object"] [R 544,Y "object"] 543 "Tasking" jJ [] [] dI none dI)) #[none,none,some (S "Tasking" 972),some (S "Tasking" 980),some (B "object.__new__"),some T]),(545,ob (Y "getset_descriptor") (bx #[S "__dict__" 1010,R 544,B "function.__dict__",B "function.__dict__#set"])),(546,ob (Y "getset_descriptor") (bx #[S "__weakref__" 1012,R 544,B "ExceptionGroup.__weakref__",N])),(549,eg P),(552,cc "ready_tasks" 1017 428 1 549 N N N (R 551) 1020),(553,ob (Y "function") (z7 (FuncData.mk "ready_tasks" "ready_tasks" (fA 84) (FuncBody.stmts (fB 84)) (fS 85) 3 [] N N N M7 none (R 552) N 0))),(554,eg P),(557,cc "waiting_tasks" 1023 430 1 554 N N N (R 556) 1026),(558,f1 85 "waiting_tasks" M7 557),(559,eg P),(562,cc "pass_time" 1029 432 1 559 N N N (R 561) 1032),(563,f1 86 "pass_time" M7 562),(564,eg P),(567,cc "end_late" 1035 441 1 564 N N N (R 566) 1038),(568,f1 87 "end_late" M7 567),(569,eg P),(571,ot [S "tasking" 1044,S "lost" 1045,S "thing" 1046]),(572,eg P),(574,cc "serve_lost" 1041 447 1 569 N (R 571) (R 572) (R 573) 1047),(575,f1 88 "serve_lost" M7 574),(576,eg P),(578,ot [S "tasking" 1053,S "ready" 1054,S "chosen" 1055,S "task" 1056]),(579,eg P),(581,cc "choose_among" 1050 455 2 576 N (R 578) (R 579) (R 580) 1057),(582,f1 89 "choose_among" M7 581),(583,eg P),(585,ot [S "tasking" 1063,S "ready" 1064]),(586,eg P),(588,cc "pick_task" 1060 461 1 583 N (R 585) (R 586) (R 587) 1065),(589,f1 90 "pick_task" M7 588),(590,ot [S "come" 1070,N]),(591,ot [S "wait" 1072,N]),(592,ot [S "read" 1074,N]),(593,ot [S "write" 1076,N]),(594,ot [Value.int 2 1078,Value.int 2 1079,Value.int 0 1080,Value.int 0 1081,Value.int 0 1082,Value.int 2 1083,Value.int 1 1084,Value.int 0 1085,Value.int 3 1086,Value.int 0 1087,Value.int 0 1088,Value.int 0 1089,Value.int 0 1090,Value.int 1 1091,Value.int 0 1092,Value.int 0 1093,Value.int 2 1094,Value.int 2 1095,Value.int 1 1096,Value.int 1 1097,Value.int 1 1098,Value.int 0 1099,Value.int 0 1100,Value.int 0 1101,Value.int 0 1102,Value.int 0 1103]),(595,eg P),(597,ot [S "script" 1108,S "asked" 1109,S "sides" 1110,S "spot" 1111]),(598,eg P),(600,cc "_law_spoke" 1105 478 3 595 N (R 597) (R 598) (R 599) 1112),(601,f1 97 "_law_spoke" M8 600),(602,eg P),(604,ot [S "room" 1118,S "who" 1119]),(605,eg P),(607,cc "_law_writes" 1115 482 2 602 N (R 604) (R 605) (R 606) 1120),(608,f1 98 "_law_writes" M8 607),(609,eg P),(612,cc "_law_line" 1123 484 1 609 N N N (R 611) 1126),(613,f1 99 "_law_line" M8 612),(614,eg P),(616,ot [S "room" 1132]),(617,eg P),(619,cc "_law_has_writer" 1129 487 1 614 N (R 616) (R 617) (R 618) 1133),(620,f1 100 "_law_has_writer" M8 619),(621,eg P),(623,ot [S "room" 1139,S "key" 1140,S "queues" 1141]),(624,eg P),(626,cc "_law_is_open" 1136 489 2 621 N (R 623) (R 624) (R 625) 1142),(627,f1 101 "_law_is_open" M8 626),(628,eg P),(631,cc "_law_body" 1145 498 2 628 N N N (R 630) 1148),(632,f1 102 "_law_body" M8 631),(633,eg P),(635,ot [S "room" 1154,S "is_open" 1155,S "call" 1156]),(636,ot [S "room" 1157]),(638,cc "_law_tend" 1151 510 1 633 N (R 635) (R 636) (R 637) 1158),(639,f1 103 "_law_tend" M8 638),(640,eg P),(643,cc "_law_comes" 1161 520 3 640 N N N (R 642) 1164),(644,f1 104 "_law_comes" M8 643),(645,eg P),(648,cc "_law_leaves" 1167 535 3 645 N N N (R 647) 1170),(649,f1 105 "_law_leaves" M8 648),(650,eg P),(653,cc "_law_hears" 1173 540 4 650 N N N (R 652) 1176),(654,f1 106 "_law_hears" M8 653),(655,eg P),(657,ot [S "room" 1182,S "task" 1183,S "who" 1184,S "tasking" 1185,S "now" 1186,S "guest" 1187]),(658,eg P),(660,cc "_law_goes" 1179 548 3 655 N (R 657) (R 658) (R 659) 1188),(661,f1 107 "_law_goes" M8 660),(662,eg P),(665,cc "_law_is_kept" 1191 572 1 662 N N N (R 664) 1194),(666,f1 108 "_law_is_kept" M8 665),(667,eg P),(670,cc "law" 1197 592 1 667 N N N (R 669) 1200),(671,f1 109 "law" M8 670)]
def ol(P:Params):List Obj:= [eg P,Oq P,ob (Y "dict") (eD #[kv P "__module__" 204 M1,kv P "__qualname__" 206 (S "EntryCall" 205),kv P "__firstlineno__" 208 (Value.int 6 207),kv P "__init__" 220 (R 28),kv P "__static_attributes__" 231 (R 29)] 5),eg P,of [I 8,I 4,R 27],cm "EntryCall" 199 6 18 202,Obj.mk (Y "frame") none jq #[some (R 20),some (R 3),some (R 17),none,some M1,none,some (R 0)],ja P,g0 5 0 "__init__" "EntryCall.__init__",ob (Y "super") (bx #[R 31,R 31,R 31]),ob (Y "builtin_function_or_method") (bx #[B "object.__init_subclass__",R 31]),ja P,f0 6 "join_queue",ja P,f0 7 "leave_queue",ja P,f0 8 "first_call",ja P,f0 9 "count_calls",ja P,f0 10 "drain_queues",ja P,f0 11 "used_keys",eg P,Oq P,ob (Y "dict") (eD #[kv P "__module__" 291 M0,kv P "__qualname__" 293 (S "Clock" 292),kv P "__firstlineno__" 295 (Value.int 49 294),kv P "__init__" 302 (R 85),kv P "__static_attributes__" 304 (R 86)] 5),eg P,of [I 51,I 4,R 84],cm "Clock" 286 49 75 289,Obj.mk (Y "frame") none jq #[some (R 77),some (R 3),some (R 74),none,some M0,none,some (R 0)],ja P,ob N (z7 (FuncData.mk "__init__" "Clock.__init__" (gA 13 0) (FuncBody.stmts (gB 13 0)) (gS 83 1) 0 [] N N N N none N N 0)),ob (Y "super") (bx #[R 88,R 88,R 88]),ob (Y "builtin_function_or_method") (bx #[B "object.__init_subclass__",R 88]),ja P,f0 14 "time_after",ja P,f0 15 "next_time",ja P,f0 16 "move_clock",ja P,f0 17 "is_due",eg P,Oq P,ob (Y "dict") (eD #[kv P "__module__" 380 M6,kv P "__qualname__" 382 (S "TaskThing" 381),kv P "__firstlineno__" 384 (Value.int 79 383),kv P "__init__" 394 (R 134),kv P "__static_attributes__" 421 (R 135)] 5),eg P,of [I 81,I 4,R 133],cm "TaskThing" 375 79 124 378,Obj.mk (Y "frame") none jq #[some (R 126),some (R 3),some (R 123),none,some M6,none,some (R 0)],ja P,g0 32 0 "__init__" "TaskThing.__init__",ob (Y "super") (bx #[R 137,R 137,R 137]),ob (Y "builtin_function_or_method") (bx #[B "object.__init_subclass__",R 137]),ja P,f0 33 "wake_up",ja P,f0 34 "finish_call",ja P,f0 35 "stops_here",ja P,f0 36 "cancel_call",ja P,f0 37 "note_lost",ja P,f0 38 "refuse_call",ja P,f0 39 "ends_here",ja P,f0 40 "delay_task",ja P,f0 41 "time_is_up",eg P,Oq P,ob (Y "dict") (eD #[kv P "__module__" 508 M5,kv P "__qualname__" 510 (S "ProtectedThing" 509),kv P "__firstlineno__" 512 (Value.int 159 511),kv P "__init__" 521 (R 218),kv P "__static_attributes__" 532 (R 219)] 5),eg P,of [I 161,I 4,R 217],cm "ProtectedThing" 503 159 208 506,Obj.mk (Y "frame") none jq #[some (R 210),some (R 3),some (R 207),none,some M5,none,some (R 0)],ja P,g0 43 0 "__init__" "ProtectedThing.__init__",ob (Y "super") (bx #[R 221,R 221,R 221]),ob (Y "builtin_function_or_method") (bx #[B "object.__init_subclass__",R 221]),ja P,f0 44 "has_place",ja P,f0 45 "come_in",ja P,f0 46 "ask_lock",ja P,f0 47 "give_lock",ja P,f0 48 "let_in",ja P,f0 49 "made_call",ja P,f0 50 "call_protected",ja P,f0 51 "queue_protected",ja P,f0 52 "rest_in_queue",ja P,f0 53 "next_served",ja P,f0 54 "end_served",ja P,f0 55 "requeue_protected",ja P,f0 56 "refuse_conditional",Oq P,ob (Y "dict") (eD #[kv P "__module__" 668 M2,kv P "__qualname__" 670 (S "AdaError" 669),kv P "__firstlineno__" 672 (Value.int 260 671),kv P "__init__" 680 (R 324),kv P "__static_attributes__" 682 (R 325)] 5),eg P,of [I 262,I 4,R 323],cm "AdaError" 663 260 314 666,Obj.mk (Y "frame") none jq #[some (R 316),some (R 3),some (R 313),none,some M2,none,some (R 0)],ja P,g0 58 0 "__init__" "AdaError.__init__",ob (Y "super") (bx #[R 327,R 327,R 327]),ob (Y "builtin_function_or_method") (bx #[B "object.__init_subclass__",R 327]),Oq P,ob (Y "dict") (eD #[kv P "__module__" 697 M2,kv P "__qualname__" 699 (S "AdaRaise" 698),kv P "__firstlineno__" 701 (Value.int 265 700),kv P "__init__" 711 (R 344),kv P "__static_attributes__" 715 (R 345)] 5),eg P,of [I 267,I 4,R 343],cm "AdaRaise" 692 265 334 695,Obj.mk (Y "frame") none jq #[some (R 336),some (R 3),some (R 333),none,some M2,none,some (R 0)],ja P,g0 59 0 "__init__" "AdaRaise.__init__",ob (Y "super") (bx #[R 347,R 347,R 347]),ob (Y "builtin_function_or_method") (bx #[B "object.__init_subclass__",R 347]),Oq P,ob (Y "dict") (eD #[kv P "__module__" 726 M2,kv P "__qualname__" 728 (S "Deadlock" 727),kv P "__firstlineno__" 730 (Value.int 272 729),kv P "__init__" 738 (R 363),kv P "__static_attributes__" 740 (R 364)] 5),eg P,of [I 274,I 4,R 362],cm "Deadlock" 721 272 353 724,Obj.mk (Y "frame") none jq #[some (R 355),some (R 3),some (R 352),none,some M2,none,some (R 0)],ja P,g0 60 0 "__init__" "Deadlock.__init__",ob (Y "super") (bx #[R 366,R 366,R 366]),ob (Y "builtin_function_or_method") (bx #[B "object.__init_subclass__",R 366]),eg P,Oq P,ob (Y "dict") (eD #[kv P "__module__" 753 M3,kv P "__qualname__" 755 (S "Limits" 754),kv P "__firstlineno__" 757 (Value.int 278 756),kv P "__init__" 786 (R 383),kv P "__static_attributes__" 794 (R 384)] 5),eg P,of [I 280,I 4,R 382],cm "Limits" 748 278 372 751,Obj.mk (Y "frame") none jq #[some (R 374),some (R 3),some (R 371),none,some M3,none,some (R 0)],ja P,g0 62 0 "__init__" "Limits.__init__",ob (Y "super") (bx #[R 386,R 386,R 386]),ob (Y "builtin_function_or_method") (bx #[B "object.__init_subclass__",R 386]),eg P,Oq P,ob (Y "dict") (eD #[kv P "__module__" 811 M4,kv P "__qualname__" 813 (S "Master" 812),kv P "__firstlineno__" 815 (Value.int 289 814),kv P "__init__" 824 (R 404),kv P "__static_attributes__" 829 (R 405)] 5),eg P,of [I 291,I 4,R 403],cm "Master" 806 289 394 809,Obj.mk (Y "frame") none jq #[some (R 396),some (R 3),some (R 393),none,some M4,none,some (R 0)],ja P,g0 64 0 "__init__" "Master.__init__",ob (Y "super") (bx #[R 407,R 407,R 407]),ob (Y "builtin_function_or_method") (bx #[B "object.__init_subclass__",R 407]),ja P,f0 65 "make_task",ja P,f0 66 "activate_tasks",ja P,f0 67 "end_activation",ja P,f0 68 "are_done",ja P,f0 69 "end_fresh",ja P,f0 70 "drop_fresh",ja P,f0 71 "complete_task",ja P,f0 72 "is_held",ja P,f0 73 "end_abnormal",ja P,f0 74 "settle_abnormal",ja P,f0 75 "settle_ends",ja P,f0 76 "can_terminate",ja P,f0 77 "is_quiet",ja P,f0 78 "ended_masters",ja P,f0 79 "terminate_below",ja P,f0 80 "settle_terminates",ja P,f0 81 "settle_tasks",eg P,Oq P,ob (Y "dict") (eD #[kv P "__module__" 979 M7,kv P "__qualname__" 981 (S "Tasking" 980),kv P "__firstlineno__" 983 (Value.int 412 982),kv P "__init__" 992 (R 534),kv P "next_number" 999 (R 541),kv P "__static_attributes__" 1009 (R 542)] 6),eg P,of [I 414,I 4,R 533,I 425,I 4,R 540],cm "Tasking" 974 412 524 977,Obj.mk (Y "frame") none jq #[some (R 526),some (R 3),some (R 523),none,some M7,none,some (R 0)],ja P,g0 83 0 "__init__" "Tasking.__init__",ja P,g0 83 1 "next_number" "Tasking.next_number",ob (Y "super") (bx #[R 544,R 544,R 544]),ob (Y "builtin_function_or_method") (bx #[B "object.__init_subclass__",R 544]),ja P,ob N (z7 (FuncData.mk "ready_tasks" "ready_tasks" (fA 84) (FuncBody.stmts (fB 84)) (fS 85) 0 [] N N N N none N N 0)),ja P,f0 85 "waiting_tasks",ja P,f0 86 "pass_time",ja P,f0 87 "end_late",ja P,f0 88 "serve_lost",ja P,f0 89 "choose_among",ja P,f0 90 "pick_task",ja P,f0 97 "_law_spoke",ja P,f0 98 "_law_writes",ja P,f0 99 "_law_line",ja P,f0 100 "_law_has_writer",ja P,f0 101 "_law_is_open",ja P,f0 102 "_law_body",ja P,f0 103 "_law_tend",ja P,f0 104 "_law_comes",ja P,f0 105 "_law_leaves",ja P,f0 106 "_law_hears",ja P,f0 107 "_law_goes",ja P,f0 108 "_law_is_kept",ja P,f0 109 "law"]
noncomputable def mrg:Frag→Nat→List Obj→List Obj:= @Qa _ (fun _=>Nat→List Obj→List Obj) (fun _ l=>l) fun e _ ih k l=>l.take (e.1-k)++e.2::ih (e.1+1) (l.drop (e.1-k))
def tl(P:Params):List Obj:=mrg ((aO P).drop 2) 15 (ol P)
def pb(P:Params):Heap:=⟨⟨WW P (BO P) (RV P) (of (tE.take 237))++tl P⟩,{}⟩
abbrev tr(P:Params)(l:List Obj)(a b c:Obj)(n:Nat):BT:=bt 10 (WW P a b c++l.take n)
def FJ(P:Params):BT:=tr P (tl P) (boot_o_2 P) (boot_o_3 P) (ja P) 0
def Ki(P:Params):BT:=tr P (tl P) (boot_o_2 P) (om P 18 M1) (of (tE.take 15)) 47
def Hm(P:Params):BT:=tr P (tl P) (boot_o_2 P) (om P 24 M0) (of (tE.take 33)) 99
def Hn(P:Params):BT:=tr P (tl P) (boot_o_2 P) (om P 38 M6) (of (tE.take 36)) 106
def Ho(P:Params):BT:=tr P (tl P) (boot_o_2 P) (om P 44 M6) (of (tE.take 54)) 162
def Hq(P:Params):BT:=tr P (tl P) (boot_o_2 P) (om P 50 M5) (of (tE.take 72)) 218
def Hr(P:Params):BT:=tr P (tl P) (boot_o_2 P) (om P 62 M2) (of (tE.take 108)) 296
def Hs(P:Params):BT:=tr P ((tl P).set 312 (Obj.mk (Y "type") none (lx (ClassData.mk "AdaError" [Y "Exception"] [R 327,Y "Exception",Y "BaseException",Y "object"] 326 "AdaError" jJ [] [] dI none dI)) #[some (R 311),none,some (S "AdaError" 661),some (S "AdaError" 669),some (B "Exception.__new__"),some T])) (BO P) (om P 63 M2) (of (tE.take 111)) 316
def Ht(P:Params):BT:=tr P ((tl P).set 312 (Obj.mk (Y "type") none (lx (ClassData.mk "AdaError" [Y "Exception"] [R 327,Y "Exception",Y "BaseException",Y "object"] 326 "AdaError" jJ [] [R 347] dI none dI)) #[some (R 311),none,some (S "AdaError" 661),some (S "AdaError" 669),some (B "Exception.__new__"),some T])) (BO P) (om P 64 M2) (of (tE.take 114)) 335
def Hu(P:Params):BT:=tr P (tl P) (BO P) (om P 65 M3) (of (tE.take 117)) 354
def Hv(P:Params):BT:=tr P (tl P) (BO P) (om P 66 M4) (of (tE.take 120)) 376
def Hw(P:Params):BT:=tr P (tl P) (BO P) (om P 72 M4) (of (tE.take 138)) 430
def Hx(P:Params):BT:=tr P (tl P) (BO P) (om P 84 M7) (of (tE.take 174)) 506
def Hy(P:Params):BT:=tr P (tl P) (BO P) (om P 90 M7) (of (tE.take 192)) 561
def Hz(P:Params):BT:=tr P (tl P) (BO P) (om P 105 M8) (of (tE.take 222)) 630
def HK(P:Params):BT:=tr P (tl P) (BO P) (RV P) (of (tE.take 237)) 657
def en:Env:={scope:=pg.main.scope,locals:=mainNs,globals:=mainNs,cells:= [],code:=R 13,frame:=some 14}
abbrev cE:Code:= .body (behindTheImports pg) en
noncomputable abbrev p0:Pos:=⟨0,0,0,0⟩
abbrev tf:=topFrame p0
abbrev wg(a n:Nat):List Stmt:=((behindTheImports pg).drop a).take n
noncomputable abbrev sh(h:Params→Heap)(k:Nat)(w:World)(os:OsState):Shared:=⟨h w.params,⟨[]⟩,⟨0,0,0,0⟩,k,os⟩
noncomputable abbrev sT(t:Params→BT)(n k:Nat)(w:World)(os:OsState):SharedT:=⟨t w.params,n,{},⟨[]⟩,⟨0,0,0,0⟩,k,os⟩
noncomputable abbrev ann:Option Value:=some (R 6)
noncomputable abbrev s0(w:World)(os:OsState):Shared:=⟨boot_heap w.params,⟨[]⟩,boot_drawn,boot_toks,os⟩
theorem pre(w:World):(fun os=>topGo treeTable pg w 11 ann 12 (s0 w os) (topStub pg))=fun os=>some (sh JT 187 w os,⟨denote treeTable cE,cE,p0, [tf]⟩):=by
 rewrite [te15667345088766844465,te14364793385576792824,te11892475500146522536];kernel_rfl
theorem Zf(w:World):(fun os=>segRun treeTable pg w 11 ann 1 1 (sh JT 187 w os) (blockOf (behindTheImports pg) en cE p0 [tf]))=fun os=>some (Flow.next,(sT FJ 15 187 w os).abs,cE,p0):=by
 rewrite [te14374325043358763698,te14364793385576792824];kernel_rfl
abbrev I3(w:World)(n:Nat)(t:Params→BT)(a b i j:Nat)(p:Pos)(t':Params→BT)(a' b':Nat)(p':Pos):Prop:=(fun os=>segRunT treeTable pg w 11 ann 1 n (sT t a b w os) (piecesOf (wg i j) en cE p [tf]))=fun os=>some (Flow.next,sT t' a' b' w os,cE,p')
theorem pc0(w:World):I3 w 398 FJ 15 187 0 10 ⟨0,0,0,0⟩ Ki 62 270 ⟨33,0,34,35⟩:=by
 show(fun _=>_)=_;rewrite [te10110043849684766642,te14364793385576792824];kernel_rfl
theorem pc1(w:World):I3 w 374 Ki 62 270 10 7 ⟨33,0,34,35⟩ Hm 114 337 ⟨61,0,62,36⟩:=by
 show(fun _=>_)=_;rewrite [te10110043849684766642,te14364793385576792824];kernel_rfl
theorem pc2(w:World):I3 w 157 Hm 114 337 17 15 ⟨61,0,62,36⟩ Hn 121 373 ⟨78,0,78,13⟩:=by
 show(fun _=>_)=_;rewrite [te10110043849684766642,te14364793385576792824];kernel_rfl
theorem pc3(w:World):I3 w 399 Hn 121 373 32 6 ⟨78,0,78,13⟩ Ho 177 468 ⟨129,0,131,45⟩:=by
 show(fun _=>_)=_;rewrite [te10110043849684766642,te14364793385576792824];kernel_rfl
theorem pc4(w:World):I3 w 391 Ho 177 468 38 7 ⟨129,0,131,45⟩ Hq 233 548 ⟨172,0,175,46⟩:=by
 show(fun _=>_)=_;rewrite [te10110043849684766642,te14364793385576792824];kernel_rfl
theorem pc5(w:World):I3 w 379 Hq 233 548 45 13 ⟨172,0,175,46⟩ Hr 311 661 ⟨259,0,259,8⟩:=by
 show(fun _=>_)=_;rewrite [te10110043849684766642,te14364793385576792824];kernel_rfl
theorem pc6(w:World):I3 w 229 Hr 311 661 58 1 ⟨259,0,259,8⟩ Hs 331 690 ⟨260,0,264,24⟩:=by
 show(fun _=>_)=_;rewrite [te10110043849684766642,te14364793385576792824];kernel_rfl
theorem pc7(w:World):I3 w 250 Hs 331 690 59 1 ⟨260,0,264,24⟩ Ht 350 719 ⟨265,0,271,24⟩:=by
 show(fun _=>_)=_;rewrite [te10110043849684766642,te14364793385576792824];kernel_rfl
theorem pc8(w:World):I3 w 255 Ht 350 719 60 2 ⟨265,0,271,24⟩ Hu 369 746 ⟨277,0,277,8⟩:=by
 show(fun _=>_)=_;rewrite [te10110043849684766642,te14364793385576792824];kernel_rfl
theorem pc9(w:World):I3 w 276 Hu 369 746 62 2 ⟨277,0,277,8⟩ Hv 391 804 ⟨288,0,288,8⟩:=by
 show(fun _=>_)=_;rewrite [te10110043849684766642,te14364793385576792824];kernel_rfl
theorem W5(w:World):I3 w 379 Hv 391 804 64 6 ⟨288,0,288,8⟩ Hw 445 881 ⟨325,0,328,21⟩:=by
 show(fun _=>_)=_;rewrite [te10110043849684766642,te14364793385576792824];kernel_rfl
theorem W6(w:World):I3 w 355 Hw 445 881 70 13 ⟨325,0,328,21⟩ Hx 521 972 ⟨411,0,411,8⟩:=by
 show(fun _=>_)=_;rewrite [te10110043849684766642,te14364793385576792824];kernel_rfl
theorem W7(w:World):I3 w 398 Hx 521 972 83 6 ⟨411,0,411,8⟩ Hy 576 1050 ⟨447,0,454,21⟩:=by
 show(fun _=>_)=_;rewrite [te10110043849684766642,te14364793385576792824];kernel_rfl
theorem W8(w:World):I3 w 384 Hy 576 1050 89 16 ⟨447,0,454,21⟩ Hz 645 1167 ⟨520,0,534,66⟩:=by
 show(fun _=>_)=_;rewrite [te10110043849684766642,te14364793385576792824];kernel_rfl
theorem W9(w:World):I3 w 139 Hz 645 1167 105 5 ⟨520,0,534,66⟩ HK 672 1203 ⟨592,0,626,102⟩:=by
 show(fun _=>_)=_;rewrite [te10110043849684766642,te14364793385576792824];kernel_rfl
theorem fin(w:World):(fun os=>topRun treeTable pg w 11 ann 2 (sT HK 672 1203 w os).abs ⟨doneF .next,cE,⟨592,0,626,102⟩, [tf]⟩)=fun os=>some (sh pb 1203 w os):=by
 rewrite [te14082659384304107361,te14364793385576792824];kernel_rfl
theorem parts:behindTheImports pg=wg 0 10++(wg 10 7++(wg 17 15++(wg 32 6++(wg 38 7++(wg 45 13++(wg 58 1++(wg 59 1++(wg 60 2++(wg 62 2++(wg 64 6++(wg 70 13++(wg 83 6++(wg 89 16++(wg 105 5++ [])))))))))))))):=by kernel_rfl
theorem chain(w:World)(os:OsState):∀l,l=wg 0 10++(wg 10 7++(wg 17 15++(wg 32 6++(wg 38 7++(wg 45 13++(wg 58 1++(wg 59 1++(wg 60 2++(wg 62 2++(wg 64 6++(wg 70 13++(wg 83 6++(wg 89 16++(wg 105 5++ []))))))))))))))→topRun treeTable pg w 11 ann (eA 398 (eA 374 (eA 157 (eA 399 (eA 391 (eA 379 (eA 229 (eA 250 (eA 255 (eA 276 (eA 379 (eA 355 (eA 398 (eA 384 (eA 139 (2)))))))))))))))) (sT FJ 15 187 w os).abs (restOf l en cE p0 [tf])=some (sh pb 1203 w os):=by
 intro l e
 rw [e]
 exact piece_app (segRun_of (congrFun (pc0 w) os)) (piece_app (segRun_of (congrFun (pc1 w) os)) (piece_app (segRun_of (congrFun (pc2 w) os)) (piece_app (segRun_of (congrFun (pc3 w) os)) (piece_app (segRun_of (congrFun (pc4 w) os)) (piece_app (segRun_of (congrFun (pc5 w) os)) (piece_app (segRun_of (congrFun (pc6 w) os)) (piece_app (segRun_of (congrFun (pc7 w) os)) (piece_app (segRun_of (congrFun (pc8 w) os)) (piece_app (segRun_of (congrFun (pc9 w) os)) (piece_app (segRun_of (congrFun (W5 w) os)) (piece_app (segRun_of (congrFun (W6 w) os)) (piece_app (segRun_of (congrFun (W7 w) os)) (piece_app (segRun_of (congrFun (W8 w) os)) (piece_app (segRun_of (congrFun (W9 w) os)) (congrFun (fin w) os)))))))))))))))
theorem run(w:World)(os:OsState):topRun treeTable pg w 11 ann (eA 12 (eA 1 (eA 398 (eA 374 (eA 157 (eA 399 (eA 391 (eA 379 (eA 229 (eA 250 (eA 255 (eA 276 (eA 379 (eA 355 (eA 398 (eA 384 (eA 139 (2)))))))))))))))))) (s0 w os) (topStub pg)=some (sh pb 1203 w os):=
 go_top (congrFun (pre w) os) (piece_block (congrFun (Zf w) os) (chain w os _ parts))
end hd
namespace hd
open PySem.W.Fast
abbrev vw:Program:={pg with main:={pg.main with body:= [st 109]}}
noncomputable abbrev lo:List Str:=gf Str.ofString ["MADE","QUEUED","SERVED","OVER","EntryCall","join_queue","leave_queue","first_call","count_calls","drain_queues","used_keys","Clock","time_after","next_time","move_clock","is_due","FRESH","READY","ACTIVATING","CALLING","MEETING","ACCEPTING","DELAYED","LOCKED","LEAVING","COMPLETED","DONE","TASKING_ERROR","PROGRAM_ERROR","TaskThing","wake_up","finish_call","stops_here","cancel_call","note_lost","refuse_call","ends_here","delay_task","time_is_up","ProtectedThing","has_place","come_in","ask_lock","give_lock","let_in","made_call","call_protected","queue_protected","rest_in_queue","next_served","end_served","requeue_protected","refuse_conditional","AdaError","AdaRaise","Deadlock","Limits","Master","make_task","activate_tasks","end_activation","are_done","end_fresh","drop_fresh","complete_task","is_held","end_abnormal","settle_abnormal","settle_ends","can_terminate","is_quiet","ended_masters","terminate_below","settle_terminates","settle_tasks","Tasking","ready_tasks","waiting_tasks","pass_time","end_late","serve_lost","choose_among","pick_task","_law_come","_law_wait","_law_read","_law_write","_law_visits","_law_spoke","_law_writes","_law_line","_law_has_writer","_law_is_open","_law_body","_law_tend","_law_comes","_law_leaves","_law_hears","_law_goes","_law_is_kept"]
noncomputable abbrev Za:List Addr:= [2,3,22,24,25,27,28,29,30,31,32,33,36,38,39,41,42,43,46,47,48,50,51,53,54,55,57,58,60,61,62,65,66,67,70,71,79,81,82,84,85,86,87,88,89,90,93,95,96,98,99,100,102,103,105,106,107,109,110,112,113,114,116,117,119,120,128,130,131,133,134,135,136,137,138,139,142,144,145,147,148,149,151,152,154,155,156,158,159,161,162,163,165,166,168,169,170,172,173,175,176,177,179,180,182,183,184,186,187,189,190,191,193,194,196,197,198,200,201,203,204,212,214,215,217,218,219,220,221,222,223,226,228,229,231,232,233,235,236,238,239,240,242,243,245,246,247,250,251,252,255,256,257,259,260,262,263,264,266,267,269,270,271,273,274,276,277,278,280,281,283,284,285,287,288,290,291,292,294,295,297,298,299,301,302,304,305,306,309,310,311,318,320,321,323,324,325,326,327,328,331,338,340,341,343,344,345,346,347,350,357,359,360,362,363,364,365,366,376,377,379,380,382,383,384,385,386,387,388,398,400,401,403,404,405,406,407,408,409,412,414,415,417,418,419,421,422,424,425,426,428,429,431,432,433,436,437,438,440,441,443,444,445,447,448,450,451,452,454,455,457,458,459,461,462,464,465,466,468,469,471,472,473,475,476,478,479,480,483,484,485,488,489,490,492,493,495,496,497,500,501,502,504,505,507,508,509,512,513,514,516,517,519,520,528,530,531,533,534,535,537,538,540,541,542,543,544,545,546,549,552,553,554,557,558,559,562,563,564,567,568,569,571,572,574,575,576,578,579,581,582,583,585,586,588,589,590,591,592,593,594,595,597,598,600,601,602,604,605,607,608,609,612,613,614,616,617,619,620,621,623,624,626,627,628,631,632,633,635,636,638,639,640,643,644,645,648,649,650,653,654,655,657,658,660,661,662,665,666,667,670,671]
abbrev hk:Hook:=kmHook aO Za (fun _=>by kernel_rfl) [634,668]
abbrev xt(s:Shared):Bool:=xlAt vw [] s&&recOk (RowW.records rr) s
abbrev sf:=sh pb 1203
theorem size(w:World):((boot_heap w.params).isNs mainGlobals&&(⟨[]⟩:Array GenState).size==0,(boot_heap w.params).objs.size,(boot_heap w.params).nsMap mainGlobals "__annotations__")=(true,11,ann):=by
 rewrite [te8920871248978507458];kernel_rfl
theorem la(w:World):(fun os=>staticsOk (importedModules pg.main.body) (boot_heap w.params) (pb w.params)&&namesBound pg (pb w.params)&&gensDone (sf w os)&&laidKept (boot_heap w.params) (pb w.params))=fun _=>true:=by
 rewrite [te5923862056798008813];kernel_rfl
theorem l1(w:World):(fun os=>seen ((recsOf vw).map (·.name)) (ownsOf vw) [] {sf w os with gens:= #[]})=fun _=>expectedOf vw:=by
 rewrite [te5160383126252970620,te3399658132070893891,te5991557255702980513];kernel_rfl
theorem l2(w:World):(fun os=>(sf w os).heap.bltView)=fun _=>bltViewBooted:=by
 kernel_rfl
theorem l3(w:World):(fun os=>((sf w os).heap.keysOk (looseW vw lo) ((recsOf vw).map (·.name)) ((litsOf vw).map (·.1)) ((clssOf vw (looseW vw lo)).map (·.name))&&(sf w os).heap.accountedOkI (importedModules pg.main.body)&&(sf w os).heap.isNs mainGlobals&&(sf w os).heap.isNs builtinsNs&&tablesOk vw (sf w os).heap&&xt (sf w os)&&(if true then(sf w os).gens.size==0 else !leftWithCleanup (sf w os).gens)))=fun _=>true:=by
 rewrite [te10880121769531294198,te821141287760084731,te3399658132070893891,te7409074990110511671,te13664370479719496447,te14722251495701143533,te5923862056798008813,te10994771534591457954];kernel_rfl
theorem l4(w:World):(fun os=>tabsOk vw (sf w os))=fun _=>true:=by
 rewrite [te479339242167458305];kernel_rfl
theorem l5(w:World):(fun os=>pinSeenD vw (drecsOf vw) (sf w os))=fun _=>pinGoodD (drecsOf vw):=by
 rewrite [te16090120013241838585,te3247288618530077131];kernel_rfl
theorem l6(w:World):(fun os=>plainSeenE vw (looseW vw lo) (sf w os))=fun _=>plainGoodE vw (looseW vw lo):=by
 rewrite [te2386780881361962483,te821141287760084731];kernel_rfl
theorem l7(w:World):(fun os=>plainSeenD vw lo (sf w os))=fun _=>plainGoodD vw lo:=by
 rewrite [te11698064438423848299];kernel_rfl
theorem l8(w:World):(fun os=>wideSeen vw (sf w os))=fun _=>wideGood vw:=by
 rewrite [te7317090234206586261];kernel_rfl
theorem l9(w:World):(fun os=>clsSeenW vw lo (sf w os))=fun _=>clsGoodW vw lo:=by
 rewrite [te7369524293546568484];kernel_rfl
theorem ly(w:World):(fun os=>hk.obs (sf w os))=fun _=>hk.val w:=by
 kernel_rfl
theorem left:LeftO pg vw lo xt hk.obs hk.val 4800:=
 LeftO.of_pieces (boot_open (p:=pg) (N:=4800) (by kernel_rfl) (by decide) (fun _=>rfl)) size run (by decide) fun w=>funext fun os=>
  looks_pair (congrFun (la w) os) (looks_pair (looks_pair (congrFun (l1 w) os) (looks_pair (congrFun (l2 w) os) (looks_pair (congrFun (l3 w) os) (looks_pair (congrFun (l4 w) os) (looks_pair (congrFun (l5 w) os) (looks_pair (congrFun (l6 w) os) (looks_pair (congrFun (l7 w) os) (looks_pair (congrFun (l8 w) os) (congrFun (l9 w) os))))))))) (congrFun (ly w) os))
theorem well:OpenLaw.wellSaid PySem.Challenge.rw_sz0012_01=true:=by
 rewrite [te9446332074065402090];kernel_rfl
def po:Stmt→Pos
 | .FunctionDef _ _ _ _ _ _ _ _ _ p=>p
 |_=>p0
def dl:DefRec:=⟨"law",fA 109,fB 109,fS 109,po (st 109)⟩
end hd
theorem hd(walk:PySem.W.WalkO hd.vw hd.lo (PySem.W.XL hd.vw []) hd.hk.says hd.rr hd.dl [] fun f vs=>PySem.call f vs):PySem.Challenge.rw_sz0012_01.Holds:=
 PySem.W.holds_law hd.well fun Xk=>PySem.W.holds_open (q:=hd.vw) (loose:=hd.lo) (Xt:=hd.xt) (XP:=PySem.W.XL hd.vw []) (Yf:=hd.hk.obs) (Ya:=hd.hk.val) (YP:=hd.hk.says) (N:=4800) hd.left hd.hk.of hd.hk.keeps
  (fun s e=>PySem.W.xl_of s (u9.mp e).1) PySem.W.XL.keeps (by kernel_rfl) (by kernel_rfl) (by kernel_rfl) (fun s e=>PySem.W.recFacts_of (u9.mp e).2) (by rfl) Xk (by kernel_rfl) ⟨rfl,rfl,rfl,rfl,rfl,by decide+kernel⟩ (by w_witness2) walk
section
open PySem.Builtin PySem.Builtin.ObjectAttr
def IV(P:Params):List DictEntry:=match(hd.aO P).lookup mainGlobals with
 |some ⟨_,_,.dict es _,_⟩=>es.toList
 |_=> []
def E5(d:DictEntry):Nat:=match d.key with
 | .str x _=>mG x
 |_=>0
def K0(P:Params):Bool:=namesOk.vF ((IV P).map E5)
theorem DH:∀{l:List Nat} {i j c:Nat},namesOk.vF l=true→l[i]? =some c→l[j]? =some c→i=j
 | [],i,_,_,_,h,_=>by simp at h
 |a::l,i,j,c,hp,hi,hj=>by
  simp only [namesOk.vF,cV] at hp
  have no:∀k:Nat,l[k]? =some a→False:=fun k hk=>by
   have:=du.mp hp.1 a (aB hk)
   rw [pA] at this;cases this
  cases i with
  |zero=>
   simp at hi;subst hi
   cases j with
   |zero=>rfl
   |succ j=>exact(no j (by simpa using hj)).elim
  |succ i=>
   cases j with
   |zero=>simp at hj;subst hj;exact(no i (by simpa using hi)).elim
   |succ j=>exact congrArg (· +1) (DH (c:=c) hp.2 (by simpa using hi) (by simpa using hj))
theorem BB{d:DictEntry}{n:Str}(h:d.key.isStr n=true):E5 d=mG n:=by
 unfold E5
 have h:Value.isStrOf n d.key=true:=(isStr_of n d.key).symm.trans h
 obtain⟨t,e⟩:=Value.isStrOf_shape h
 rw [e]
set_option maxHeartbeats 4000000 in
theorem Nk(P:Params):LM (hd.aO P) (IV P):=by
 refine⟨⟨_,_,_,_,rfl⟩,fun i j a b n hi hj ha hb=>?_⟩
 have k:K0 P=true:=by kernel_rfl
 refine DH k (c:=mG n) ?_ ?_
 ·rw [aC,hi];simp [BB ha]
 ·rw [aC,hj];simp [BB hb]
noncomputable def RQ(t:Nat):List V→VA
 | .int i::_=>⟨t,i.toNat⟩
 |_=>⟨t,0⟩
section
variable {g:Gl}{fr:zw}{Lo:Lc}{tg:Nat}
theorem SS.conv{st:List Stmt}{fin:List V→Lc}{m m':M Fl}(h:SS g fr Lo st fin m)(e:m=m':=by kernel_rfl):SS g fr Lo st fin m':=e▸h
theorem SE.conv{x:Expr}{m m':M V}(h:SE g fr Lo x m)(e:m=m':=by kernel_rfl):SE g fr Lo x m':=e▸h
theorem SB.conv{x:Expr}{m m':M Bool}(h:SB g fr Lo x m)(e:m=m':=by kernel_rfl):SB g fr Lo x m':=e▸h
theorem SX.conv{x:Stmt}{m m':M Unit}(h:SX g fr Lo x m)(e:m=m':=by kernel_rfl):SX g fr Lo x m':=e▸h
theorem gW{elt iter:Expr}{x t:Str}{px pt:Pos}{ifs:List Expr}{scope:Scope}{pos apos:Pos}{rest:List Stmt}{fin:List V→Lc}{k:V→M Fl}{mi mc:M V}{ms:V→List (M Bool)}{me:V→M V}(it:Nat)(ix:Nat)(uw:List (Nat×Nat))(LC:Lc)
  (ht:fr.env.scope.names[it]? =some (t,.local)) (hi:SE g fr Lo iter mi) (hk:scope.kind= .function) (nm:namesOk scope.names=true) (uQ:oU uw fr.sh fr.env.scope.names 0 scope.names=true) (hL:Ck uw scope.names LC Lo) (hx:scope.names[ix]? =some (x,.local)) (JU:LC.lookup ix=none)
  (hc:∀C v,SBL g (yP fr scope C) ((ix,v)::LC) ifs (ms v)) (he:∀C v,SE g (yP fr scope C) ((ix,v)::LC) elt (me v)) (hr:∀v,SS g fr ((it,v)::Lo) rest fin (k v))
  (WD:swapsWith (.ListComp elt [⟨.Name x px,iter,ifs,0⟩] scope pos) (some (.Name t pt)) apos.line fr.env=Pure.pure true) (e:(mi.d fun src=>fW tg src (fun v=>testM .And (ms v)) me)=mc)
  (hs:∀x,foldedSetIterable iter fr.env x=Pure.pure x:=by intro _;rfl):
  SS g fr Lo (.Assign [.Name t pt] (.ListComp elt [⟨.Name x px,iter,ifs,0⟩] scope pos) apos::rest) fin (mc.d k):=e▸Fv it ix uw LC ht hi hk nm uQ hL hx JU hc he hr WD hs
end
section
variable {g:Gl}{fr:zw}{Lo:Lc}{P:Params}
inductive H4(P:Params)(j:Nat)(n:Str)(v:V):Prop
 |mk (hs:Int) (t:Tok) (r:Value) (e:(IV P)[j]? =some ⟨hs,.str n t,r⟩) (h:PO (hd.aO P) v r=some v)
theorem iM{n:Str}{pos:Pos}(G:gj g)(hK:g.K=hd.aO P)(v:V)(i j:Nat)(hn:fr.env.scope.names[i]? =some (n,.globalImplicit):=by rfl)(e:H4 P j n v:=by exact .mk _ _ _ rfl (by kernel_rfl)):SE g fr Lo (.Name n pos) (pU v):=
 let .mk _ _ _ e h:=e;Rl G (hK▸Nk P) i hn j e (hK▸h)
theorem dF{id:Str}{p pos:Pos}{args:List Expr}{a:Addr}{k:Nat}{ma:M (List V)}{f:List V→M V}(G:gj g)(hK:g.K=hd.aO P)(i j:Nat)(hc:CS g k a f)(ha:SA g fr Lo args ma)(hn:fr.env.scope.names[i]? =some (id,.globalImplicit):=by rfl)
  (e:H4 P j id (.fn a):=by exact .mk _ _ _ rfl rfl) (kp:keepIn (hd.aO P) (.ref a)=true:=by kernel_rfl) (ET:k≤fr.k:=by exact bG rfl):SE g fr Lo (.Call (.Name id p) args [] pos) (ma.d f):=
 Rf G (iM G hK _ i j hn e) (hK▸kp) hc ha ET
theorem Iq{id:Str}{p pos:Pos}{args:List Expr}{C fI:Addr}{k:Nat}{ma:M (List V)}{nm:List V→VA}{m:List V→M V}(G:gj g)(hK:g.K=hd.aO P)(i j:Nat)(O:vb g.K C fI)(hc:CS g k fI m)(ha:SA g fr Lo args ma)(hn:fr.env.scope.names[i]? =some (id,.globalImplicit):=by rfl)
  (e:H4 P j id (.fn C):=by exact .mk _ _ _ rfl rfl) (ET:k+1≤fr.k:=by exact bG rfl):SE g fr Lo (.Call (.Name id p) args [] pos) (ma.d (my C nm m)):=
 Rn G (iM G hK _ i j hn e) O hc ha ET
theorem B8{n:Str}{pos:Pos}{r:Value}(G:gj g)(hK:g.K=hd.aO P)(i:Nat)(hn:fr.env.scope.names[i]? =some (n,.globalImplicit):=by rfl)(h1:nsIn (hd.aO P) mainGlobals n=some none:=by kernel_rfl)(h2:bootBuiltins n=some r:=by kernel_rfl)(h3:n≠ "__name__":=by decide):EV g fr Lo (.Name n pos) r:=
 Lr G i hn (hK▸h1) h2 h3
noncomputable def Jz:Nat→(List V→Prop)→Prop
 |0,p=>p []
 |n+1,p=>∀v,Jz n fun vs=>p (v::vs)
theorem Jz.get{n:Nat}{p:List V→Prop}{vs:List V}(h:Jz n p)(hl:vs.length=n):p vs:=by
 induction n generalizing p vs with
 |zero=>exact je.mp hl▸h
 |succ n ih=>
  rcases vs with _|⟨v,vs⟩
  ·exact absurd hl (Nat.succ_ne_zero n).symm
  ·exact ih (p:=fun vs=>p (v::vs)) (h v) (El.inj hl)
theorem bl{f:Addr}{fd:FuncData}{oc:Value}{od:Option Addr}{sl:Array (Option Value)}{body:List Stmt}{n k:Nat}{m:List V→M Fl}(G:gj g)(hK:g.K=hd.aO P)(hl:(hd.aO P).lookup f=some ⟨oc,od,.func fd,sl⟩)(O:Oy (hd.aO P) f fd body n)
  (h:∀L,Jz n fun vs=>SS g ⟨callEnvC fd L f,k, []⟩ ((aR n).zip vs) body (fun _=> []) (m vs)):CS g (k+1) f (jh n m):=Gg G (hK▸hl) (hK▸O) fun L _ hv=>(h L).get hv
end
end
set_option hygiene false in
local macro_rules |`(tactic|walk_at "c")=>`(tactic|exact⟨rfl,rfl,rfl,rfl,fun _=>rfl,rfl,by kernel_rfl,by rfl,by rfl,by kernel_rfl,rfl,rfl,rfl⟩)
section
open PySem.Builtin PySem.Builtin.ObjectAttr
variable {g:Gl}{P:Params}
abbrev Bv(aK bq:V):M Fl:=(((((aE aK .key).d fun k=>(fc bq k)).d fun v=>((jo v).d fun _=>(fQ v [aK]))).d fun _=>pU ()).d fun _=>((bb aK .state (.str "queued")).d fun _=>nX))
def xi(bq aK:V):M Fl:=
 (((aE aK .key).d fun a=>((FZ a bq).d fun c=>pU (!c))).d fun c=>(bif c then((((dB 11).d fun x=>lL x []).d fun u=>((aE aK .key).d fun k=>(mD bq k u))).d fun _=>nX) else nX).cy (fun _=>(Bv aK bq)))
def p9:List V→M V:=jh 2 fun vs=>match vs with
 | [bq,aK]=>xi bq aK
 |_=>fL
theorem CA(G:gj g)(hK:g.K=hd.aO P):CS g 1 42 p9:=bl G hK rfl (by walk_at "c") fun _ bq aK=>(fy (fun _=> [(0,bq),(1,aK)]) (SB.conv (OG G (aL G .key (ab 1)) (ab 0))) (ay (SX.conv (Ju (jl (dB 11) (cO 11) ax) (ab 0) (aL G .key (ab 1)))) (aV [] ⟨rfl,rfl,trivial⟩)) (aV [] ⟨rfl,rfl,trivial⟩) (fun _=>(ay (SX.conv (cG (kE (gK G (ab 0) (aL G .key (ab 1))) (ag (ab 1) ax)))) (ay (SX.conv (aN G .state (iM G hK (.str "queued") 2 10) (ab 1))) (aV [] trivial)))))
abbrev zU(qS aK bq:V):M Fl:=(((df []).d fun b=>(aX .NotEq qS b)).d fun c=>(bif c then(((aE aK .key).d fun k=>(mD bq k qS)).d fun _=>nX) else((((tC bq).d fun _=>(((aE aK .key).d fun v=>(pU [v,.none])).d fun vs=>(G5 bq vs))).d fun _=>pU ()).d fun _=>nX)).cy (fun _=>nX))
def vo(bq aK:V):M Fl:=
 ((((tC bq).d fun _=>(((aE aK .key).d fun v=>(((df []).d fun v=>(pU [v])).d fun vs=>(pU (v::vs)))).d fun vs=>(wQ bq vs))).d fun src=>(fW 11 src (fun dP=>testM .And [((aE dP .number).d fun a=>((aE aK .number).d fun b=>(aX .NotEq a b)))]) (fun dP=>(pU dP)))).d fun qS=>(zU qS aK bq))
def lV:List V→M V:=jh 2 fun vs=>match vs with
 | [bq,aK]=>vo bq aK
 |_=>fL
theorem tH(G:gj g)(hK:g.K=hd.aO P):CS g 1 47 lV:=bl G hK rfl (by walk_at "c") fun _ bq aK=>(gW (tg:=11) 2 1 [(2,1)] [(2,aK)] rfl (JM G (ab 0) (ag (aL G .key (ab 1)) (ag (ee ax) ax))) rfl (by kernel_rfl) (by kernel_rfl) ⟨⟨_,rfl⟩,⟨_,rfl,rfl⟩,trivial⟩ rfl rfl (fun C dP=>(.cons (cz (aL G .number (ab 1 (aI rfl (by simp)))) (aL G .number (ab 2 (dO rfl)))) .nil)) (fun C dP=>(ab 1 (aI rfl (by simp)))) (fun qS=>(fy (fun _=> [(0,bq),(1,aK),(2,qS)]) (SB.conv (cz (ab 2) (ee ax))) (ay (SX.conv (Ju (ab 2) (ab 0) (aL G .key (ab 1)))) (aV [] ⟨rfl,rfl,rfl,trivial⟩)) (ay (SX.conv (cG (Ri G (ab 0) (ag (aL G .key (ab 1)) (ag bO ax))))) (aV [] ⟨rfl,rfl,rfl,trivial⟩)) (fun _=>(aV [] trivial)))) (by kernel_rfl) (by kernel_rfl))
abbrev Bu(nC:V):M Fl:=(((bV nC).d fun c=>bif c then(fc nC (.int 0)) else(pU .none)).d fun v=>(pU (.ret v)))
def xh(bq dJ:V):M Fl:=
 (((tC bq).d fun _=>((((df []).d fun v=>(pU [v])).d fun vs=>(pU (dJ::vs))).d fun vs=>(wQ bq vs))).d fun nC=>(Bu nC))
def pZ:List V→M V:=jh 2 fun vs=>match vs with
 | [bq,dJ]=>xh bq dJ
 |_=>fL
theorem Cz(G:gj g)(hK:g.K=hd.aO P):CS g 1 54 pZ:=bl G hK rfl (by walk_at "c") fun _ bq dJ=>(cx 2 rfl (SE.conv (JM G (ab 0) (ag (ab 1) (ag (ee ax) ax)))) fun nC=>(SS.conv (dY (ow (cR (ab 2)) (gK G (ab 2) dw) bO))))
def vm(bq dJ:V):M Fl:=
 (((((tC bq).d fun _=>((((df []).d fun v=>(pU [v])).d fun vs=>(pU (dJ::vs))).d fun vs=>(wQ bq vs))).d fun v=>(pU [v])).d fun vs=>(E9 vs)).d fun v=>(pU (.ret v)))
def lU:List V→M V:=jh 2 fun vs=>match vs with
 | [bq,dJ]=>vm bq dJ
 |_=>fL
theorem tG(G:gj g)(hK:g.K=hd.aO P):CS g 1 61 lU:=bl G hK rfl (by walk_at "c") fun _ bq dJ=>(SS.conv (dY (CK (B8 G hK 2) xI (ag (JM G (ab 0) (ag (ab 1) (ag (ee ax) ax))) ax))))
def xm(jm dC:V):M Fl:=
 (((aE jm .now).d fun a=>((PA [dC,(.int 0)]).d fun b=>(j4 .Add a b))).d fun v=>(pU (.ret v)))
def nh:List V→M V:=jh 2 fun vs=>match vs with
 | [jm,dC]=>xm jm dC
 |_=>fL
theorem ve(G:gj g)(hK:g.K=hd.aO P):CS g 1 99 nh:=bl G hK rfl (by walk_at "c") fun _ jm dC=>(SS.conv (dY (sk (aL G .now (ab 0)) (CK (B8 G hK 2) LZ (ag (ab 1) (ag dw ax))))))
def xj(jm qv:V):M Fl:=
 (((((aE jm .now).d fun v=>(pU [v,qv])).d fun vs=>(PA vs)).d fun u=>(bb jm .now u)).d fun _=>nX)
def qb:List V→M V:=jh 2 fun vs=>match vs with
 | [jm,qv]=>xj jm qv
 |_=>fL
theorem CB(G:gj g)(hK:g.K=hd.aO P):CS g 1 113 qb:=bl G hK rfl (by walk_at "c") fun _ jm qv=>(ay (SX.conv (aN G .now (CK (B8 G hK 2) LZ (ag (aL G .now (ab 0)) (ag (ab 1) ax))) (ab 0))) (aV [] trivial))
def GZ(jm qv:V):M Fl:=
 ((mL .And [((aX .IsNot qv .none).d fun c=>pU (.bool c)),((aE jm .now).d fun b=>((aX .LtE qv b).d fun c=>pU (.bool c)))]).d fun v=>(pU (.ret v)))
def qE:List V→M V:=jh 2 fun vs=>match vs with
 | [jm,qv]=>GZ jm qv
 |_=>fL
theorem DO(G:gj g)(hK:g.K=hd.aO P):CS g 1 120 qE:=bl G hK rfl (by walk_at "c") fun _ jm qv=>(SS.conv (dY (jR (.cons (kF (ab 1) bO) (.cons (kF (ab 1) (aL G .now (ab 0))) .nil)))))
abbrev Dk(pf iv:V):M Fl:=((testM .And [(aX .IsNot pf .none),(testM .Or [(aX .Is iv .none),(aX .Lt pf iv)])]).d fun c=>(bif c then((pU pf).d fun mX=>(pU (.next [mX]))) else(pU (.next [iv]))).cy (fun vs=>match vs with| [kd]=>(pU (.next [kd]))|_=>fL))
abbrev Dl(pL qT:V):M Fl:=((pU pL).d fun src=>(forL src (fun pf vs=>match vs with| [iv]=>(Dk pf iv)|_=>fL) [qT]).cy (fun vs=>match vs with| [iv]=>(pU (.ret iv))|_=>fL))
def ze(pL:V):M Fl:=
 ((pU .none).d fun qT=>(Dl pL qT))
def rz:List V→M V:=jh 1 fun vs=>match vs with
 | [pL]=>ze pL
 |_=>fL
theorem ED(G:gj g)(hK:g.K=hd.aO P):CS g 1 106 rz:=bl G hK rfl (by walk_at "c") fun _ pL=>(cx 1 rfl (SE.conv bO) fun qT=>(og 2 (fun vs=>match vs with| [iv]=> [(0,pL),(1,iv)] |_=> []) [qT] rfl (.inl rfl) (SE.conv (ab 0)) ⟨rfl,rfl,trivial⟩ (fun pf vs=>match vs with| [iv]=>(fy (fun vs=>match vs with| [kd]=> [(0,pL),(1,kd),(2,pf)] |_=> []) (SB.conv (cL (.cons (cz (ab 2) bO) (.cons (cL (.cons (cz (ab 1) bO) (.cons (cz (ab 2) (ab 1)) .nil))) .nil)))) (cx 1 rfl (SE.conv (ab 2)) fun mX=>(aV [mX] ⟨rfl,rfl,rfl,trivial⟩)) (aV [iv] ⟨rfl,rfl,rfl,trivial⟩) (fun vs=>match vs with| [kd]=>(aV [kd] ⟨rfl,rfl,trivial⟩)| []=>cC|_::_::_=>cC))| []=>cC|_::_::_=>cC) (fun vs=>match vs with| [iv]=>(SS.conv (dY (ab 1)))| []=>cC|_::_::_=>cC)))
abbrev GO(ao kP dU:V):M Fl:=((bb ao .answer kP).d fun _=>((bb ao .raised dU).d fun _=>nX))
abbrev GP(ao kP dU:V):M Fl:=((bb ao .wake .none).d fun _=>((bb ao .lK .none).d fun _=>(GO ao kP dU)))
abbrev GQ(ao kP dU:V):M Fl:=(((df []).d fun u=>(bb ao .ik u)).d fun _=>(GP ao kP dU))
def D7(ao kP dU:V):M Fl:=
 ((bb ao .state (.str "ready")).d fun _=>(GQ ao kP dU))
def mR:List V→M V:=jh 3 fun vs=>match vs with
 | [ao,kP,dU]=>D7 ao kP dU
 |_=>fL
theorem rF(G:gj g)(hK:g.K=hd.aO P):CS g 1 148 mR:=bl G hK rfl (by walk_at "c") fun _ ao kP dU=>(ay (SX.conv (aN G .state (iM G hK (.str "ready") 3 26) (ab 0))) (ay (SX.conv (aN G .ik (ee ax) (ab 0))) (ay (SX.conv (aN G .wake bO (ab 0))) (ay (SX.conv (aN G .lK bO (ab 0))) (ay (SX.conv (aN G .answer (ab 1) (ab 0))) (ay (SX.conv (aN G .raised (ab 2) (ab 0))) (aV [] trivial)))))))
abbrev zR(aK dU:V):M Fl:=(((((aE aK .caller).d fun v=>(((iE [(.str "called")]).d fun v=>(pU [v,dU])).d fun vs=>(pU (v::vs)))).d fun vs=>(mR vs)).d fun _=>pU ()).d fun _=>nX)
abbrev zS(aK dU:V):M Fl:=(((aE aK .caller).d fun v=>(bb v .call .none)).d fun _=>(zR aK dU))
abbrev zT(dU aK:V):M Fl:=(((((iE [(.str "called")]).d fun v=>(pU [v,dU])).d fun vs=>(iE vs)).d fun u=>(bb aK .found u)).d fun _=>(zS aK dU))
def vn(aK dU:V):M Fl:=
 ((bb aK .state (.str "over")).d fun _=>(zT dU aK))
def oW:List V→M V:=jh 2 fun vs=>match vs with
 | [aK,dU]=>vn aK dU
 |_=>fL
theorem AI(G:gj g)(hK:g.K=hd.aO P):CS g 2 155 oW:=bl G hK rfl (by walk_at "c") fun _ aK dU=>(ay (SX.conv (aN G .state (iM G hK (.str "over") 2 12) (ab 0))) (ay (SX.conv (aN G .found (iU (ag (iU (ag jS ax)) (ag (ab 1) ax))) (ab 0))) (ay (SX.conv (aN G .call bO (aL G .caller (ab 0)))) (ay (SX.conv (cG (dF G hK 3 39 (rF G hK) (ag (aL G .caller (ab 0)) (ag (iU (ag jS ax)) (ag (ab 1) ax)))))) (aV [] trivial)))))
def xl(ao:V):M Fl:=
 ((testM .Or [(((aE ao .eu).d fun v=>(bV v)).d fun c=>pU (!c)),fL]).d fun c=>(bif c then(pU (.ret (.bool false))) else nX).cy (fun _=>fL))
def qf:List V→M V:=jh 1 fun vs=>match vs with
 | [ao]=>xl ao
 |_=>fL
theorem CE(G:gj g)(hK:g.K=hd.aO P):CS g 1 162 qf:=bl G hK rfl (by walk_at "c") fun _ ao=>(fy (fun _=> [(0,ao)]) (SB.conv (cL (.cons (tu (cR (aL G .eu (ab 0)))) (.cons oR .nil)))) (SS.conv (dY eZ)) (aV [] ⟨rfl,trivial⟩) (fun _=>cC))
abbrev zQ(aK:V):M Fl:=(((aE aK .caller).d fun v=>(bb v .call .none)).d fun _=>nX)
def vk(aK:V):M Fl:=
 ((((((aE aK .target).d fun v=>(aE v .eO)).d fun v=>(pU [v,aK])).d fun vs=>(lV vs)).d fun _=>pU ()).d fun _=>((bb aK .state (.str "over")).d fun _=>(zQ aK)))
def lT:List V→M V:=jh 1 fun vs=>match vs with
 | [aK]=>vk aK
 |_=>fL
theorem tF(G:gj g)(hK:g.K=hd.aO P):CS g 2 169 lT:=bl G hK rfl (by walk_at "c") fun _ aK=>(ay (SX.conv (cG (dF G hK 1 15 (tH G hK) (ag (aL G .eO (aL G .target (ab 0))) (ag (ab 0) ax))))) (ay (SX.conv (aN G .state (iM G hK (.str "over") 2 12) (ab 0))) (ay (SX.conv (aN G .call bO (aL G .caller (ab 0)))) (aV [] trivial))))
def uc(ae ao:V):M Fl:=
 (((aE ao .state).d fun a=>(aX .Eq a (.str "calling"))).d fun c=>(bif c then((((aE ae .dN).d fun v=>((jo v).d fun _=>((((aE ao .call).d fun v=>(aE v .target)).d fun v=>(pU [v])).d fun vs=>(fQ v vs)))).d fun _=>pU ()).d fun _=>nX) else nX).cy (fun _=>nX))
def j8:List V→M V:=jh 2 fun vs=>match vs with
 | [ae,ao]=>uc ae ao
 |_=>fL
theorem wL(G:gj g)(hK:g.K=hd.aO P):CS g 1 176 j8:=bl G hK rfl (by walk_at "c") fun _ ae ao=>(fy (fun _=> [(0,ae),(1,ao)]) (SB.conv (cz (aL G .state (ab 1)) (iM G hK (.str "calling") 2 28))) (ay (SX.conv (cG (kE (aL G .dN (ab 0)) (ag (aL G .target (aL G .call (ab 1))) ax)))) (aV [] ⟨rfl,rfl,trivial⟩)) (aV [] ⟨rfl,rfl,trivial⟩) (fun _=>(aV [] trivial)))
abbrev zZ(aK:V):M Fl:=(((((aE aK .caller).d fun v=>(((iE [(.str "refused")]).d fun v=>(pU [v,.none])).d fun vs=>(pU (v::vs)))).d fun vs=>(mR vs)).d fun _=>pU ()).d fun _=>nX)
abbrev z0(aK:V):M Fl:=(((((iE [(.str "refused")]).d fun v=>(pU [v,.none])).d fun vs=>(iE vs)).d fun u=>(bb aK .found u)).d fun _=>(zZ aK))
def vt(aK:V):M Fl:=
 (((lT [aK]).d fun _=>pU ()).d fun _=>(z0 aK))
def lX:List V→M V:=jh 1 fun vs=>match vs with
 | [aK]=>vt aK
 |_=>fL
theorem AL(G:gj g)(hK:g.K=hd.aO P):CS g 3 183 lX:=bl G hK rfl (by walk_at "c") fun _ aK=>(ay (SX.conv (cG (dF G hK 1 42 (tF G hK) (ag (ab 0) ax)))) (ay (SX.conv (aN G .found (iU (ag (iU (ag jS ax)) (ag bO ax))) (ab 0))) (ay (SX.conv (cG (dF G hK 2 39 (rF G hK) (ag (aL G .caller (ab 0)) (ag (iU (ag jS ax)) (ag bO ax)))))) (aV [] trivial))))
def y9(aK dR:V):M Fl:=
 ((testM .Or [((bV dR).d fun c=>pU (!c)),((((aE aK .caller).d fun v=>(aE v .eu)).d fun v=>(bV v)).d fun c=>pU (!c))]).d fun c=>(bif c then(pU (.ret (.bool false))) else nX).cy (fun _=>fL))
def rx:List V→M V:=jh 2 fun vs=>match vs with
 | [aK,dR]=>y9 aK dR
 |_=>fL
theorem EA(G:gj g)(hK:g.K=hd.aO P):CS g 1 190 rx:=bl G hK rfl (by walk_at "c") fun _ aK dR=>(fy (fun _=> [(0,aK),(1,dR)]) (SB.conv (cL (.cons (tu (cR (ab 1))) (.cons (tu (cR (aL G .eu (aL G .caller (ab 0))))) .nil)))) (SS.conv (dY eZ)) (aV [] ⟨rfl,rfl,trivial⟩) (fun _=>cC))
abbrev Bs(ae dC ao:V):M Fl:=(((((aE ae .lB).d fun v=>(pU [v,dC])).d fun vs=>(nh vs)).d fun u=>(bb ao .wake u)).d fun _=>nX)
abbrev Bt(ao dC ae:V):M Fl:=((testM .And [(((qf [ao]).d fun v=>(bV v)).d fun c=>pU (!c)),(aX .Gt dC (.int 0))]).d fun c=>(bif c then((bb ao .state (.str "delayed")).d fun _=>(Bs ae dC ao)) else nX).cy (fun _=>nX))
def xf(ae ao dC:V):M Fl:=
 ((bb ao .answer .none).d fun _=>((bb ao .raised .none).d fun _=>(Bt ao dC ae)))
def iL:List V→M V:=jh 3 fun vs=>match vs with
 | [ae,ao,dC]=>xf ae ao dC
 |_=>fL
theorem vd(G:gj g)(hK:g.K=hd.aO P):CS g 2 197 iL:=bl G hK rfl (by walk_at "c") fun _ ae ao dC=>(ay (SX.conv (aN G .answer bO (ab 1))) (ay (SX.conv (aN G .raised bO (ab 1))) (fy (fun _=> [(0,ae),(1,ao),(2,dC)]) (SB.conv (cL (.cons (tu (cR (dF G hK 3 41 (CE G hK) (ag (ab 1) ax)))) (.cons (cz (ab 2) dw) .nil)))) (ay (SX.conv (aN G .state (iM G hK (.str "delayed") 4 31) (ab 1))) (ay (SX.conv (aN G .wake (dF G hK 5 21 (ve G hK) (ag (aL G .lB (ab 0)) (ag (ab 2) ax))) (ab 1))) (aV [] ⟨rfl,rfl,rfl,trivial⟩))) (aV [] ⟨rfl,rfl,rfl,trivial⟩) (fun _=>(aV [] trivial)))))
abbrev BA(ao:V):M Fl:=((((((iE [(.str "late")]).d fun v=>(pU [v,.none])).d fun vs=>(pU (ao::vs))).d fun vs=>(mR vs)).d fun _=>pU ()).d fun _=>nX)
def rT(ao:V):M Fl:=
 (((aE ao .state).d fun a=>(aX .Eq a (.str "calling"))).d fun c=>(bif c then(((((aE ao .call).d fun v=>(pU [v])).d fun vs=>(lT vs)).d fun _=>pU ()).d fun _=>(BA ao)) else(((aE ao .state).d fun a=>(aX .Eq a (.str "accepting"))).d fun c=>(bif c then fL else(((mR [ao,.none,.none]).d fun _=>pU ()).d fun _=>nX)).cy (fun _=>nX))).cy (fun _=>nX))
def gU:List V→M V:=jh 1 fun vs=>match vs with
 | [ao]=>rT ao
 |_=>fL
theorem vf(G:gj g)(hK:g.K=hd.aO P):CS g 3 204 gU:=bl G hK rfl (by walk_at "c") fun _ ao=>(fy (fun _=> [(0,ao)]) (SB.conv (cz (aL G .state (ab 0)) (iM G hK (.str "calling") 1 28))) (ay (SX.conv (cG (dF G hK 2 42 (tF G hK) (ag (aL G .call (ab 0)) ax)))) (ay (SX.conv (cG (dF G hK 3 39 (rF G hK) (ag (ab 0) (ag (iU (ag jS ax)) (ag bO ax)))))) (aV [] ⟨rfl,trivial⟩))) (fy (fun _=> [(0,ao)]) (SB.conv (cz (aL G .state (ab 0)) (iM G hK (.str "accepting") 4 30))) cC (ay (SX.conv (cG (dF G hK 3 39 (rF G hK) (ag (ab 0) (ag bO (ag bO ax)))))) (aV [] ⟨rfl,trivial⟩)) (fun _=>(aV [] ⟨rfl,trivial⟩))) (fun _=>(aV [] trivial)))
abbrev Dc(cU aH:V):M Fl:=((mL .Or [((bV cU).d fun c=>pU (.bool (!c))),((aE aH .nu).d fun a=>((df []).d fun b=>((aX .Eq a b).d fun c=>pU (.bool c))))]).d fun v=>(pU (.ret v)))
def zb(aH cU:V):M Fl:=
 (((aE aH .writer).d fun a=>(aX .IsNot a .none)).d fun c=>(bif c then(pU (.ret (.bool false))) else nX).cy (fun _=>(Dc cU aH)))
def ry:List V→M V:=jh 2 fun vs=>match vs with
 | [aH,cU]=>zb aH cU
 |_=>fL
theorem EB(G:gj g)(hK:g.K=hd.aO P):CS g 1 232 ry:=bl G hK rfl (by walk_at "c") fun _ aH cU=>(fy (fun _=> [(0,aH),(1,cU)]) (SB.conv (cz (aL G .writer (ab 0)) bO)) (SS.conv (dY eZ)) (aV [] ⟨rfl,rfl,trivial⟩) (fun _=>(SS.conv (dY (jR (.cons (Mn (ab 1)) (.cons (kF (aL G .nu (ab 0)) (ee ax)) .nil)))))))
abbrev GN(cU aH ao:V):M Fl:=((bV cU).d fun c=>(bif c then((bb aH .writer ao).d fun _=>nX) else((((aE aH .nu).d fun v=>((jo v).d fun _=>(fQ v [ao]))).d fun _=>pU ()).d fun _=>nX)).cy (fun _=>nX))
def D6(aH ao cU:V):M Fl:=
 (((aE ao .inside).d fun old=>((j4 .Add old (.int 1)).d fun u=>bb ao .inside u)).d fun _=>(GN cU aH ao))
def vG:List V→M V:=jh 3 fun vs=>match vs with
 | [aH,ao,cU]=>D6 aH ao cU
 |_=>fL
theorem Im(G:gj g)(hK:g.K=hd.aO P):CS g 1 239 vG:=bl G hK rfl (by walk_at "c") fun _ aH ao cU=>(ay (SX.conv (FU G .inside (ab 1) dw (.inl rfl))) (fy (fun _=> [(0,aH),(1,ao),(2,cU)]) (SB.conv (cR (ab 2))) (ay (SX.conv (aN G .writer (ab 1) (ab 0))) (aV [] ⟨rfl,rfl,rfl,trivial⟩)) (ay (SX.conv (cG (kE (aL G .nu (ab 0)) (ag (ab 1) ax)))) (aV [] ⟨rfl,rfl,rfl,trivial⟩)) (fun _=>(aV [] trivial))))
abbrev EY(aH ao cU:V):M Fl:=((testM .Or [((aE aH .nu).d fun b=>(FZ ao b)),(testM .And [((aE aH .writer).d fun a=>(aX .IsNot a .none)),fL])]).d fun c=>(bif c then fL else((testM .And [((aE aH .line).d fun a=>((df []).d fun b=>(aX .Eq a b))),((ry [aH,cU]).d fun v=>(bV v))]).d fun c=>(bif c then(((vG [aH,ao,cU]).d fun _=>pU ()).d fun _=>nX) else fL).cy (fun _=>nX))).cy (fun _=>nX))
def BH(aH ao cU:V):M Fl:=
 ((bb ao .answer .none).d fun _=>((bb ao .raised .none).d fun _=>(EY aH ao cU)))
def nz:List V→M V:=jh 3 fun vs=>match vs with
 | [aH,ao,cU]=>BH aH ao cU
 |_=>fL
theorem yT(G:gj g)(hK:g.K=hd.aO P):CS g 2 246 nz:=bl G hK rfl (by walk_at "c") fun _ aH ao cU=>(ay (SX.conv (aN G .answer bO (ab 1))) (ay (SX.conv (aN G .raised bO (ab 1))) (fy (fun _=> [(0,aH),(1,ao),(2,cU)]) (SB.conv (cL (.cons (Ta G (ab 1) (aL G .nu (ab 0))) (.cons (cL (.cons (cz (aL G .writer (ab 0)) bO) (.cons oR .nil))) .nil)))) cC (fy (fun _=> [(0,aH),(1,ao),(2,cU)]) (SB.conv (cL (.cons (cz (aL G .line (ab 0)) (ee ax)) (.cons (cR (dF G hK 4 49 (EB G hK) (ag (ab 0) (ag (ab 2) ax)))) .nil)))) (ay (SX.conv (cG (dF G hK 5 50 (Im G hK) (ag (ab 0) (ag (ab 1) (ag (ab 2) ax)))))) (aV [] ⟨rfl,rfl,rfl,trivial⟩)) cC (fun _=>(aV [] ⟨rfl,rfl,rfl,trivial⟩))) (fun _=>(aV [] trivial)))))
abbrev II(aH:V):M Fl:=((qy (fun _=>(testM .And [((aE aH .line).d fun v=>(bV v)),fL])) (fun _=>fL) []).cy (fun _=>nX))
def G0(aH:V):M Fl:=
 ((((aE aH .line).d fun src=>(fW 9 src (fun Fq=>testM .And [fL]) (fun Fq=>(pU Fq)))).d fun u=>(bb aH .line u)).d fun _=>(II aH))
def xJ:List V→M V:=jh 1 fun vs=>match vs with
 | [aH]=>G0 aH
 |_=>fL
theorem KC(G:gj g)(hK:g.K=hd.aO P):CS g 2 256 xJ:=bl G hK rfl (by walk_at "c") fun _ aH=>(ay (SX.conv (aN G .line (md (tg:=9) 1 [] [] (aL G .line (ab 0)) rfl (by kernel_rfl) (by kernel_rfl) trivial rfl rfl (fun C Fq=>(.cons oR .nil)) (fun C Fq=>(ab 1 (aI rfl (by simp))))) (ab 0))) (rY (fun _=> [(0,aH)]) [] ⟨rfl,trivial⟩ (fun _=>(SB.conv (cL (.cons (cR (aL G .line (ab 0))) (.cons oR .nil))))) (fun _=>cC) (fun _=>(aV [] trivial))))
abbrev C9(aH ao:V):M Fl:=((testM .And [((aE aH .writer).d fun a=>(aX .IsNot a .none)),(((aE aH .writer).d fun v=>(aE v .number)).d fun a=>((aE ao .number).d fun b=>(aX .Eq a b)))]).d fun c=>(bif c then((bb aH .writer .none).d fun _=>nX) else fL).cy (fun _=>(((xJ [aH]).d fun _=>pU ()).d fun _=>nX)))
def za(aH ao:V):M Fl:=
 (((aE ao .inside).d fun old=>((j4 .Sub old (.int 1)).d fun u=>bb ao .inside u)).d fun _=>(C9 aH ao))
def j7:List V→M V:=jh 2 fun vs=>match vs with
 | [aH,ao]=>za aH ao
 |_=>fL
theorem wJ(G:gj g)(hK:g.K=hd.aO P):CS g 3 251 j7:=bl G hK rfl (by walk_at "c") fun _ aH ao=>(ay (SX.conv (FU G .inside (ab 1) dw (.inr rfl))) (fy (fun _=> [(0,aH),(1,ao)]) (SB.conv (cL (.cons (cz (aL G .writer (ab 0)) bO) (.cons (cz (aL G .number (aL G .writer (ab 0))) (aL G .number (ab 1))) .nil)))) (ay (SX.conv (aN G .writer bO (ab 0))) (aV [] ⟨rfl,rfl,trivial⟩)) cC (fun _=>(ay (SX.conv (cG (dF G hK 2 53 (KC G hK) (ag (ab 0) ax)))) (aV [] trivial)))))
abbrev vN(av:V):M Fl:=((bb av .fj (.bool false)).d fun _=>((bb av .found .none).d fun _=>nX))
abbrev vO(av:V):M Fl:=((bb av .deadline .none).d fun _=>((bb av .mj (.bool false)).d fun _=>(vN av)))
abbrev vP(av dW:V):M Fl:=((bb av .values dW).d fun _=>((bb av .state (.str "made")).d fun _=>(vO av)))
abbrev vQ(av nF dJ dW:V):M Fl:=((bb av .target nF).d fun _=>((bb av .key dJ).d fun _=>(vP av dW)))
abbrev vR(av cH nF dJ dW:V):M Fl:=((bb av .caller cH).d fun _=>(vQ av nF dJ dW))
def qX(av fk cH nF dJ dW:V):M Fl:=
 ((bb av .number fk).d fun _=>(vR av cH nF dJ dW))
def lN:List V→M V:=jh 6 fun vs=>match vs with
 | [av,fk,cH,nF,dJ,dW]=>qX av fk cH nF dJ dW
 |_=>fL
theorem wB(G:gj g)(hK:g.K=hd.aO P):CS g 1 28 lN:=bl G hK rfl (by walk_at "c") fun _ av fk cH nF dJ dW=>(ay (SX.conv (aN G .number (ab 1) (ab 0))) (ay (SX.conv (aN G .caller (ab 2) (ab 0))) (ay (SX.conv (aN G .target (ab 3) (ab 0))) (ay (SX.conv (aN G .key (ab 4) (ab 0))) (ay (SX.conv (aN G .values (ab 5) (ab 0))) (ay (SX.conv (aN G .state (iM G hK (.str "made") 6 9) (ab 0))) (ay (SX.conv (aN G .deadline bO (ab 0))) (ay (SX.conv (aN G .mj eZ (ab 0))) (ay (SX.conv (aN G .fj eZ (ab 0))) (ay (SX.conv (aN G .found bO (ab 0))) (aV [] trivial)))))))))))
def oB:List V→VA:=RQ 101
theorem Ct(hK:g.K=hd.aO P):vb g.K 31 28:=by rw [hK];exact⟨by kernel_rfl,by kernel_rfl,by kernel_rfl,by kernel_rfl,by kernel_rfl⟩
def mN(av:V):M Fl:=
 (((aE av .cS).d fun old=>((j4 .Add old (.int 1)).d fun u=>bb av .cS u)).d fun _=>((aE av .cS).d fun v=>(pU (.ret v))))
def gz:List V→M V:=jh 1 fun vs=>match vs with
 | [av]=>mN av
 |_=>fL
theorem kL(hK:g.K=hd.aO P):keepIn g.K (.ref 541)=true:=by rw [hK];kernel_rfl
theorem lZ(G:gj g)(hK:g.K=hd.aO P):CS g 1 541 gz:=bl G hK rfl (by walk_at "c") fun _ av=>(ay (SX.conv (FU G .cS (ab 0) dw (.inl rfl))) (SS.conv (dY (aL G .cS (ab 0)))))
abbrev Dd(cH iu:V):M Fl:=((bb cH .answer .none).d fun _=>((bb cH .raised .none).d fun _=>(pU (.ret iu))))
abbrev De(dC ae iu cH:V):M Fl:=((testM .And [(aX .IsNot dC .none),(aX .NotEq dC (.str "else"))]).d fun c=>(bif c then(((((aE ae .lB).d fun v=>(pU [v,dC])).d fun vs=>(nh vs)).d fun u=>(bb iu .deadline u)).d fun _=>nX) else nX).cy (fun _=>((bb cH .call iu).d fun _=>(Dd cH iu))))
abbrev Df(dC iu ae cH:V):M Fl:=((((aX .Eq dC (.str "else")).d fun c=>pU (.bool c)).d fun u=>(bb iu .fj u)).d fun _=>(De dC ae iu cH))
def zc(ae aH cH dJ dW dC:V):M Fl:=
 (((((Ig 544 ae).d fun _=>(gz [ae])).d fun v=>(pU [v,cH,aH,dJ,dW])).d fun vs=>(my 31 oB lN vs)).d fun iu=>(Df dC iu ae cH))
def oj:List V→M V:=jh 6 fun vs=>match vs with
 | [ae,aH,cH,dJ,dW,dC]=>zc ae aH cH dJ dW dC
 |_=>fL
theorem wK(G:gj g)(hK:g.K=hd.aO P):CS g 3 263 oj:=bl G hK rfl (by walk_at "c") fun _ ae aH cH dJ dW dC=>(cx 6 rfl (SE.conv (Iq (nm:=oB) G hK 7 13 (Ct hK) (wB G hK) (ag (Ml (C:=544) G (ab 0) (by rw [hK];kernel_rfl) (by rw [hK];kernel_rfl) (by decide+kernel) (kL hK) (lZ G hK) ax) (ag (ab 2) (ag (ab 1) (ag (ab 3) (ag (ab 4) ax))))))) fun iu=>(ay (SX.conv (aN G .fj (kF (ab 5) jS) (ab 6))) (fy (fun _=> [(0,ae),(1,aH),(2,cH),(3,dJ),(4,dW),(5,dC),(6,iu)]) (SB.conv (cL (.cons (cz (ab 5) bO) (.cons (cz (ab 5) jS) .nil)))) (ay (SX.conv (aN G .deadline (dF G hK 8 21 (ve G hK) (ag (aL G .lB (ab 0)) (ag (ab 5) ax))) (ab 6))) (aV [] ⟨rfl,rfl,rfl,rfl,rfl,rfl,rfl,trivial⟩)) (aV [] ⟨rfl,rfl,rfl,rfl,rfl,rfl,rfl,trivial⟩) (fun _=>(ay (SX.conv (aN G .call (ab 6) (ab 2))) (ay (SX.conv (aN G .answer bO (ab 2))) (ay (SX.conv (aN G .raised bO (ab 2))) (SS.conv (dY (ab 6))))))))))
def q4(ae aH cH dJ dW dC:V):M Fl:=
 ((oj [ae,aH,cH,dJ,dW,dC]).d fun yv=>((bb yv .state (.str "served")).d fun _=>(pU (.ret yv))))
def jF:List V→M V:=jh 6 fun vs=>match vs with
 | [ae,aH,cH,dJ,dW,dC]=>q4 ae aH cH dJ dW dC
 |_=>fL
theorem wH(G:gj g)(hK:g.K=hd.aO P):CS g 4 270 jF:=bl G hK rfl (by walk_at "c") fun _ ae aH cH dJ dW dC=>(cx 6 rfl (SE.conv (dF G hK 7 54 (wK G hK) (ag (ab 0) (ag (ab 1) (ag (ab 2) (ag (ab 3) (ag (ab 4) (ag (ab 5) ax)))))))) fun yv=>(ay (SX.conv (aN G .state (iM G hK (.str "served") 8 11) (ab 6))) (SS.conv (dY (ab 6)))))
abbrev w8(aK:V):M Fl:=(((((aE aK .mj).d fun v=>(bV v)).d fun c=>bif c then(pU .none) else(aE aK .deadline)).d fun u=>((aE aK .caller).d fun v=>(bb v .wake u))).d fun _=>nX)
abbrev w9(aK:V):M Fl:=(((aE aK .caller).d fun v=>(bb v .state (.str "calling"))).d fun _=>(w8 aK))
def sy(aK:V):M Fl:=
 ((((((aE aK .target).d fun v=>(aE v .eO)).d fun v=>(pU [v,aK])).d fun vs=>(p9 vs)).d fun _=>pU ()).d fun _=>(w9 aK))
def hB:List V→M V:=jh 1 fun vs=>match vs with
 | [aK]=>sy aK
 |_=>fL
theorem qF(G:gj g)(hK:g.K=hd.aO P):CS g 2 284 hB:=bl G hK rfl (by walk_at "c") fun _ aK=>(ay (SX.conv (cG (dF G hK 1 14 (CA G hK) (ag (aL G .eO (aL G .target (ab 0))) (ag (ab 0) ax))))) (ay (SX.conv (aN G .state (iM G hK (.str "calling") 2 28) (aL G .caller (ab 0)))) (ay (SX.conv (aN G .wake (ow (cR (aL G .mj (ab 0))) bO (aL G .deadline (ab 0))) (aL G .caller (ab 0)))) (aV [] trivial))))
abbrev uX(dC cH:V):M Fl:=((((aX .Eq dC (.str "else")).d fun c=>bif c then(iE [(.str "refused")]) else(iE [(.str "late")])).d fun u=>(bb cH .answer u)).d fun _=>nX)
abbrev uY(dC oK cH:V):M Fl:=((testM .And [(aX .IsNot dC .none),(testM .Or [(aX .Eq dC (.str "else")),(aX .LtE dC (.int 0))])]).d fun c=>(bif c then((bb oK .state (.str "over")).d fun _=>((bb cH .call .none).d fun _=>(uX dC cH))) else(((hB [oK]).d fun _=>pU ()).d fun _=>nX)).cy (fun _=>nX))
def mx(ae aH cH dJ dW dC:V):M Fl:=
 ((oj [ae,aH,cH,dJ,dW,dC]).d fun oK=>(uY dC oK cH))
def fK:List V→M V:=jh 6 fun vs=>match vs with
 | [ae,aH,cH,dJ,dW,dC]=>mx ae aH cH dJ dW dC
 |_=>fL
theorem vI(G:gj g)(hK:g.K=hd.aO P):CS g 4 277 fK:=bl G hK rfl (by walk_at "c") fun _ ae aH cH dJ dW dC=>(cx 6 rfl (SE.conv (dF G hK 7 54 (wK G hK) (ag (ab 0) (ag (ab 1) (ag (ab 2) (ag (ab 3) (ag (ab 4) (ag (ab 5) ax)))))))) fun oK=>(fy (fun _=> [(0,ae),(1,aH),(2,cH),(3,dJ),(4,dW),(5,dC),(6,oK)]) (SB.conv (cL (.cons (cz (ab 5) bO) (.cons (cL (.cons (cz (ab 5) jS) (.cons (cz (ab 5) dw) .nil))) .nil)))) (ay (SX.conv (aN G .state (iM G hK (.str "over") 8 12) (ab 6))) (ay (SX.conv (aN G .call bO (ab 2))) (ay (SX.conv (aN G .answer (ow (cz (ab 5) jS) (iU (ag jS ax)) (iU (ag jS ax))) (ab 2))) (aV [] ⟨rfl,rfl,rfl,rfl,rfl,rfl,rfl,trivial⟩)))) (ay (SX.conv (cG (dF G hK 9 57 (qF G hK) (ag (ab 6) ax)))) (aV [] ⟨rfl,rfl,rfl,rfl,rfl,rfl,rfl,trivial⟩)) (fun _=>(aV [] trivial))))
def xg(aK dU:V):M Fl:=
 (((oW [aK,dU]).d fun _=>pU ()).d fun _=>nX)
def pY:List V→M V:=jh 2 fun vs=>match vs with
 | [aK,dU]=>xg aK dU
 |_=>fL
theorem Cy(G:gj g)(hK:g.K=hd.aO P):CS g 3 298 pY:=bl G hK rfl (by walk_at "c") fun _ aK dU=>(ay (SX.conv (cG (dF G hK 2 40 (AI G hK) (ag (ab 0) (ag (ab 1) ax))))) (aV [] trivial))
abbrev sR(dR aK:V):M Fl:=((((bV dR).d fun c=>pU (.bool (!c))).d fun u=>(bb aK .mj u)).d fun _=>(((hB [aK]).d fun _=>pU ()).d fun _=>nX))
abbrev sS(aK aH dJ dR:V):M Fl:=((bb aK .target aH).d fun _=>((bb aK .key dJ).d fun _=>(sR dR aK)))
def n5(aK aH dJ dR:V):M Fl:=
 (((rx [aK,dR]).d fun v=>(bV v)).d fun c=>(bif c then(pU (.ret .none)) else nX).cy (fun _=>(sS aK aH dJ dR)))
def iA:List V→M V:=jh 4 fun vs=>match vs with
 | [aK,aH,dJ,dR]=>n5 aK aH dJ dR
 |_=>fL
theorem tI(G:gj g)(hK:g.K=hd.aO P):CS g 3 305 iA:=bl G hK rfl (by walk_at "c") fun _ aK aH dJ dR=>(fy (fun _=> [(0,aK),(1,aH),(2,dJ),(3,dR)]) (SB.conv (cR (dF G hK 4 45 (EA G hK) (ag (ab 0) (ag (ab 3) ax))))) Fw (aV [] ⟨rfl,rfl,rfl,rfl,trivial⟩) (fun _=>(ay (SX.conv (aN G .target (ab 1) (ab 0))) (ay (SX.conv (aN G .key (ab 2) (ab 0))) (ay (SX.conv (aN G .mj (Mn (ab 3)) (ab 0))) (ay (SX.conv (cG (dF G hK 5 57 (qF G hK) (ag (ab 0) ax)))) (aV [] trivial)))))))
abbrev rM(fN:V):M Fl:=((((dB 1).d fun x=>lL x []).d fun b=>((aX .NotEq fN b).d fun c=>pU (.bool c))).d fun v=>(pU (.ret v)))
abbrev rN(fN:V):M Fl:=((pU fN).d fun src=>(forL src (fun DZ _=>(((lX [DZ]).d fun _=>pU ()).d fun _=>nX)) []).cy (fun _=>(rM fN)))
abbrev rO(aH fN:V):M Fl:=((aE aH .eO).d fun src=>(GB src (fun GI _=>((((jo fN).d fun _=>(((((aE aH .eO).d fun v=>(fc v GI)).d fun src=>(fW 9 src (fun mB=>testM .And [(testM .And [((aE mB .fj).d fun v=>(bV v)),(((aE mB .mj).d fun v=>(bV v)).d fun c=>pU (!c))])]) (fun mB=>(pU mB)))).d fun v=>(pU [v])).d fun vs=>(rJ fN vs))).d fun _=>pU ()).d fun _=>nX)) []).cy (fun _=>(rN fN)))
def nE(aH:V):M Fl:=
 (((dB 1).d fun x=>lL x []).d fun fN=>(rO aH fN))
def jA:List V→M V:=jh 1 fun vs=>match vs with
 | [aH]=>nE aH
 |_=>fL
theorem sM(G:gj g)(hK:g.K=hd.aO P):CS g 4 310 jA:=bl G hK rfl (by walk_at "c") fun _ aH=>(cx 1 rfl (SE.conv (jl (dB 1) (cO 1) ax)) fun fN=>(Jd G 2 (fun _=> [(0,aH),(1,fN)]) [] rfl (.inl rfl) (SE.conv (aL G .eO (ab 0))) ⟨rfl,rfl,trivial⟩ (fun GI _=>(ay (SX.conv (cG (Gx (ab 1) (ag (md (tg:=9) 1 [] [] (gK G (aL G .eO (ab 0)) (ab 2)) rfl (by kernel_rfl) (by kernel_rfl) trivial rfl rfl (fun C mB=>(.cons (cL (.cons (cR (aL G .fj (ab 1 (aI rfl (by simp))))) (.cons (tu (cR (aL G .mj (ab 1 (aI rfl (by simp)))))) .nil))) .nil)) (fun C mB=>(ab 1 (aI rfl (by simp))))) ax)))) (aV [] ⟨rfl,rfl,trivial⟩))) (fun _=>(og 3 (fun _=> [(0,aH),(1,fN)]) [] rfl (.inl rfl) (SE.conv (ab 1)) ⟨rfl,rfl,trivial⟩ (fun DZ _=>(ay (SX.conv (cG (dF G hK 4 44 (AL G hK) (ag (ab 3) ax)))) (aV [] ⟨rfl,rfl,trivial⟩))) (fun _=>(SS.conv (dY (kF (ab 1) (jl (dB 1) (cO 1) ax)))))))))
abbrev z3(kg fh:V):M Fl:=((testM .And [((aE kg .state).d fun a=>(aX .Eq a (.str "leaving"))),fL]).d fun c=>(bif c then fL else((testM .And [((aE kg .state).d fun a=>(aX .Eq a (.str "completed"))),(((aE kg .ni).d fun src=>(fW 9 src (fun dP=>testM .And [fL]) (fun dP=>(pU dP)))).d fun a=>((df []).d fun b=>(aX .Eq a b)))]).d fun c=>(bif c then((bb kg .state (.str "done")).d fun _=>((pU (.bool true)).d fun qo=>(pU (.next [qo])))) else(pU (.next [fh]))).cy (fun vs=>match vs with| [kK]=>(pU (.next [kK]))|_=>fL))).cy (fun vs=>match vs with| [kJ]=>(pU (.next [kJ]))|_=>fL))
abbrev z4(ae kN:V):M Fl:=((aE ae .tasks).d fun src=>(forL src (fun kg vs=>match vs with| [fh]=>(z3 kg fh)|_=>fL) [kN]).cy (fun vs=>match vs with| [fh]=>(pU (.ret fh))|_=>fL))
def vv(ae:V):M Fl:=
 ((pU (.bool false)).d fun kN=>(z4 ae kN))
def lY:List V→M V:=jh 1 fun vs=>match vs with
 | [ae]=>vv ae
 |_=>fL
theorem AM(G:gj g)(hK:g.K=hd.aO P):CS g 2 484 lY:=bl G hK rfl (by walk_at "c") fun _ ae=>(cx 1 rfl (SE.conv eZ) fun kN=>(og 2 (fun vs=>match vs with| [fh]=> [(0,ae),(1,fh)] |_=> []) [kN] rfl (.inl rfl) (SE.conv (aL G .tasks (ab 0))) ⟨rfl,rfl,trivial⟩ (fun kg vs=>match vs with| [fh]=>(fy (fun vs=>match vs with| [kJ]=> [(0,ae),(1,kJ),(2,kg)] |_=> []) (SB.conv (cL (.cons (cz (aL G .state (ab 2)) (iM G hK (.str "leaving") 3 33)) (.cons oR .nil)))) cC (fy (fun vs=>match vs with| [kK]=> [(0,ae),(1,kK),(2,kg)] |_=> []) (SB.conv (cL (.cons (cz (aL G .state (ab 2)) (iM G hK (.str "completed") 6 34)) (.cons (cz (md (tg:=9) 1 [] [] (aL G .ni (ab 2)) rfl (by kernel_rfl) (by kernel_rfl) trivial rfl rfl (fun C dP=>(.cons oR .nil)) (fun C dP=>(ab 1 (aI rfl (by simp))))) (ee ax)) .nil)))) (ay (SX.conv (aN G .state (iM G hK (.str "done") 7 35) (ab 2))) (cx 1 rfl (SE.conv eZ) fun qo=>(aV [qo] ⟨rfl,rfl,rfl,trivial⟩))) (aV [fh] ⟨rfl,rfl,rfl,trivial⟩) (fun vs=>match vs with| [kK]=>(aV [kK] ⟨rfl,rfl,rfl,trivial⟩)| []=>cC|_::_::_=>cC)) (fun vs=>match vs with| [kJ]=>(aV [kJ] ⟨rfl,rfl,trivial⟩)| []=>cC|_::_::_=>cC))| []=>cC|_::_::_=>cC) (fun vs=>match vs with| [fh]=>(SS.conv (dY (ab 1)))| []=>cC|_::_::_=>cC)))
def vq(ae:V):M Fl:=
 (((aE ae .tasks).d fun src=>(fW 9 src (fun gN=>testM .And [((aE gN .state).d fun a=>(aX .Eq a (.str "ready")))]) (fun gN=>(pU gN)))).d fun v=>(pU (.ret v)))
def oX:List V→M V:=jh 1 fun vs=>match vs with
 | [ae]=>vq ae
 |_=>fL
theorem AK(G:gj g)(hK:g.K=hd.aO P):CS g 1 553 oX:=bl G hK rfl (by walk_at "c") fun _ ae=>(SS.conv (dY (md (tg:=9) 1 [] [] (aL G .tasks (ab 0)) rfl (by kernel_rfl) (by kernel_rfl) trivial rfl rfl (fun C gN=>(.cons (cz (aL G .state (ab 1 (aI rfl (by simp)))) (iM G hK (.str "ready") 2 26 (aI rfl (by simp)))) .nil)) (fun C gN=>(ab 1 (aI rfl (by simp)))))))
def sz(ae:V):M Fl:=
 (((aE ae .tasks).d fun src=>(fW 9 src (fun gN=>testM .And [(testM .And [((aE gN .state).d fun a=>(aX .NotEq a (.str "done"))),((aE gN .state).d fun a=>(aX .NotEq a (.str "fresh")))])]) (fun gN=>(aE gN .number)))).d fun v=>(pU (.ret v)))
def mQ:List V→M V:=jh 1 fun vs=>match vs with
 | [ae]=>sz ae
 |_=>fL
theorem xP(G:gj g)(hK:g.K=hd.aO P):CS g 1 558 mQ:=bl G hK rfl (by walk_at "c") fun _ ae=>(SS.conv (dY (md (tg:=9) 1 [] [] (aL G .tasks (ab 0)) rfl (by kernel_rfl) (by kernel_rfl) trivial rfl rfl (fun C gN=>(.cons (cL (.cons (cz (aL G .state (ab 1 (aI rfl (by simp)))) (iM G hK (.str "done") 2 35 (aI rfl (by simp)))) (.cons (cz (aL G .state (ab 1 (aI rfl (by simp)))) (iM G hK (.str "fresh") 3 25 (aI rfl (by simp)))) .nil))) .nil)) (fun C gN=>(aL G .number (ab 1 (aI rfl (by simp))))))))
abbrev EZ(lD:V):M Fl:=(((df []).d fun b=>((aX .NotEq lD b).d fun c=>pU (.bool c))).d fun v=>(pU (.ret v)))
abbrev E4(lD ae:V):M Fl:=((pU lD).d fun src=>(forL src (fun xY _=>(((j8 [ae,xY]).d fun _=>pU ()).d fun _=>(((gU [xY]).d fun _=>pU ()).d fun _=>nX))) []).cy (fun _=>(EZ lD)))
def BI(ae:V):M Fl:=
 (((aE ae .tasks).d fun src=>(fW 9 src (fun gN=>testM .And [(testM .And [((aE gN .state).d fun a=>(aX .Eq a (.str "calling"))),((((aE ae .lB).d fun v=>(((aE gN .wake).d fun v=>(pU [v])).d fun vs=>(pU (v::vs)))).d fun vs=>(qE vs)).d fun v=>(bV v))])]) (fun gN=>(pU gN)))).d fun lD=>(E4 lD ae))
def tB:List V→M V:=jh 1 fun vs=>match vs with
 | [ae]=>BI ae
 |_=>fL
theorem Gr(G:gj g)(hK:g.K=hd.aO P):CS g 4 568 tB:=bl G hK rfl (by walk_at "c") fun _ ae=>(gW (tg:=9) 2 1 [(4,0)] [(4,ae)] rfl (aL G .tasks (ab 0)) rfl (by kernel_rfl) (by kernel_rfl) ⟨⟨_,rfl⟩,⟨_,rfl,rfl⟩,trivial⟩ rfl rfl (fun C gN=>(.cons (cL (.cons (cz (aL G .state (ab 1 (aI rfl (by simp)))) (iM G hK (.str "calling") 2 28 (aI rfl (by simp)))) (.cons (cR (dF G hK 3 24 (DO G hK) (ag (aL G .lB (ab 4 (dO rfl))) (ag (aL G .wake (ab 1 (aI rfl (by simp)))) ax)) (aI rfl (by simp)))) .nil))) .nil)) (fun C gN=>(ab 1 (aI rfl (by simp)))) (fun lD=>(og 1 (fun _=> [(0,ae),(2,lD)]) [] rfl (.inl rfl) (SE.conv (ab 2)) ⟨rfl,rfl,trivial⟩ (fun xY _=>(ay (SX.conv (cG (dF G hK 3 43 (wL G hK) (ag (ab 0) (ag (ab 1) ax))))) (ay (SX.conv (cG (dF G hK 4 47 (vf G hK) (ag (ab 1) ax)))) (aV [] ⟨rfl,rfl,trivial⟩)))) (fun _=>(SS.conv (dY (kF (ab 2) (ee ax))))))) (by kernel_rfl) (by kernel_rfl))
abbrev v7(gV:V):M Fl:=((aX .IsNot gV .none).d fun c=>(bif c then fL else nX).cy (fun _=>nX))
def qZ(gV rW:V):M Fl:=
 ((pU rW).d fun src=>(forL src (fun oJ _=>(((aE oJ .state).d fun a=>(aX .Eq a (.str "fresh"))).d fun c=>(bif c then((bb oJ .state (.str "ready")).d fun _=>((bb oJ .i0 gV).d fun _=>(v7 gV))) else nX).cy (fun _=>nX))) []).cy (fun _=>nX))
def lS:List V→M V:=jh 2 fun vs=>match vs with
 | [gV,rW]=>qZ gV rW
 |_=>fL
theorem wG(G:gj g)(hK:g.K=hd.aO P):CS g 1 425 lS:=bl G hK rfl (by walk_at "c") fun _ gV rW=>(og 2 (fun _=> [(0,gV),(1,rW)]) [] rfl (.inl rfl) (SE.conv (ab 1)) ⟨rfl,rfl,trivial⟩ (fun oJ _=>(fy (fun _=> [(0,gV),(1,rW),(2,oJ)]) (SB.conv (cz (aL G .state (ab 2)) (iM G hK (.str "fresh") 3 25))) (ay (SX.conv (aN G .state (iM G hK (.str "ready") 4 26) (ab 2))) (ay (SX.conv (aN G .i0 (ab 0) (ab 2))) (fy (fun _=> [(0,gV),(1,rW),(2,oJ)]) (SB.conv (cz (ab 0) bO)) cC (aV [] ⟨rfl,rfl,rfl,trivial⟩) (fun _=>(aV [] ⟨rfl,rfl,rfl,trivial⟩))))) (aV [] ⟨rfl,rfl,rfl,trivial⟩) (fun _=>(aV [] ⟨rfl,rfl,trivial⟩)))) (fun _=>(aV [] trivial)))
abbrev v8(hU iF:V):M Fl:=((aX .Is hU .none).d fun c=>(bif c then(pU (.ret .none)) else nX).cy (fun _=>fL))
abbrev v9(ao hU iF:V):M Fl:=((bb ao .i0 .none).d fun _=>(v8 hU iF))
def q5(ao iF:V):M Fl:=
 ((aE ao .i0).d fun hU=>(v9 ao hU iF))
def pE:List V→M V:=jh 2 fun vs=>match vs with
 | [ao,iF]=>q5 ao iF
 |_=>fL
theorem wI(G:gj g)(hK:g.K=hd.aO P):CS g 2 432 pE:=bl G hK rfl (by walk_at "c") fun _ ao iF=>(cx 2 rfl (SE.conv (aL G .i0 (ab 0))) fun hU=>(ay (SX.conv (aN G .i0 bO (ab 0))) (fy (fun _=> [(0,ao),(1,iF),(2,hU)]) (SB.conv (cz (ab 2) bO)) Fw (aV [] ⟨rfl,rfl,rfl,trivial⟩) (fun _=>cC))))
abbrev yr(jw:V):M Fl:=(((Ao [jw]).d fun src=>(fW 9 src (fun BQ=>testM .And []) (fun BQ=>fL))).d fun v=>(pU (.ret v)))
abbrev yt(bq jw:V):M Fl:=((((tC bq).d fun _=>(Ex bq [])).d fun _=>pU ()).d fun _=>(yr jw))
abbrev yu(bq jw:V):M Fl:=((pU bq).d fun src=>(GB src (fun Pb _=>fL) []).cy (fun _=>(yt bq jw)))
def ub(bq:V):M Fl:=
 (((dB 2).d fun x=>u5 x (.et [])).d fun jw=>(yu bq jw))
def nS:List V→M V:=jh 1 fun vs=>match vs with
 | [bq]=>ub bq
 |_=>fL
theorem zC(G:gj g)(hK:g.K=hd.aO P):CS g 1 66 nS:=bl G hK rfl (by walk_at "c") fun _ bq=>(kn 1 rfl (SE.conv (JJ (dB 2) (cO 2))) fun jw=>(Jd G 2 (fun _=> [(0,bq),(1,jw)]) [] rfl (.inl rfl) (SE.conv (ab 0)) ⟨rfl,rfl,trivial⟩ (fun Pb _=>cC) (fun _=>(ay (SX.conv (cG (OW (ab 0) ax))) (SS.conv (dY (md (tg:=9) 1 [(2,1)] [(2,jw)] (CK (B8 G hK 4) (DI G) (ag (ab 1) ax)) rfl (by kernel_rfl) (by kernel_rfl) ⟨⟨_,rfl⟩,⟨_,rfl,rfl⟩,trivial⟩ rfl rfl (fun C BQ=> .nil) (fun C BQ=>Rk))))))))
abbrev Du(i6:V):M Fl:=(((Ao [i6]).d fun src=>(fW 9 src (fun Al=>testM .And []) (fun Al=>(fc i6 Al)))).d fun v=>(pU (.ret v)))
abbrev Dv(bq pJ i6:V):M Fl:=((pU bq).d fun src=>(GB src (fun rL _=>((testM .And [((fc rL (.int 0)).d fun a=>(aX .Eq a pJ)),((fc bq rL).d fun v=>(bV v))]).d fun c=>(bif c then(((((fc rL (.int 1)).d fun a=>(aX .Is a .none)).d fun c=>bif c then(pU (.int (-1))) else(fc rL (.int 1))).d fun k=>(mD i6 k rL)).d fun _=>nX) else nX).cy (fun _=>nX))) []).cy (fun _=>(Du i6)))
def zh(bq pJ:V):M Fl:=
 (((dB 2).d fun x=>u5 x (.et [])).d fun i6=>(Dv bq pJ i6))
def rB:List V→M V:=jh 2 fun vs=>match vs with
 | [bq,pJ]=>zh bq pJ
 |_=>fL
theorem EG(G:gj g)(hK:g.K=hd.aO P):CS g 1 71 rB:=bl G hK rfl (by walk_at "c") fun _ bq pJ=>(kn 2 rfl (SE.conv (JJ (dB 2) (cO 2))) fun i6=>(Jd G 3 (fun _=> [(0,bq),(1,pJ),(2,i6)]) [] rfl (.inl rfl) (SE.conv (ab 0)) ⟨rfl,rfl,rfl,trivial⟩ (fun rL _=>(fy (fun _=> [(0,bq),(1,pJ),(2,i6),(3,rL)]) (SB.conv (cL (.cons (cz (gK G (ab 3) dw) (ab 1)) (.cons (cR (gK G (ab 0) (ab 3))) .nil)))) (ay (SX.conv (Ju (ab 3) (ab 2) (ow (cz (gK G (ab 3) dw) bO) Mm (gK G (ab 3) dw)))) (aV [] ⟨rfl,rfl,rfl,rfl,trivial⟩)) (aV [] ⟨rfl,rfl,rfl,rfl,trivial⟩) (fun _=>(aV [] ⟨rfl,rfl,rfl,trivial⟩)))) (fun _=>(SS.conv (dY (md (tg:=9) 1 [(2,2)] [(2,i6)] (CK (B8 G hK 4) (DI G) (ag (ab 2) ax)) rfl (by kernel_rfl) (by kernel_rfl) ⟨⟨_,rfl⟩,⟨_,rfl,rfl⟩,trivial⟩ rfl rfl (fun C Al=> .nil) (fun C Al=>(gK G (ab 2 (dO rfl)) (ab 1 (aI rfl (by simp)))))))))))
abbrev w2(ao:V):M Fl:=(((((((aE ao .eu).d fun v=>((bV v).d fun c=>pU (.bool (!c)))).d fun v=>(pU [v])).d fun vs=>(pU (ao::vs))).d fun vs=>(pE vs)).d fun _=>pU ()).d fun _=>nX)
abbrev w3(ao:V):M Fl:=((aE ao .ni).d fun src=>(forL src (fun GJ _=>fL) []).cy (fun _=>(w2 ao)))
abbrev w4(ao:V):M Fl:=((bb ao .wake .none).d fun _=>((bb ao .state (.str "completed")).d fun _=>(w3 ao)))
abbrev w5(ao:V):M Fl:=(((df []).d fun u=>(bb ao .ik u)).d fun _=>(w4 ao))
abbrev w6(ao:V):M Fl:=((qy (fun _=>((aE ao .uI).d fun v=>(bV v))) (fun _=>fL) []).cy (fun _=>(w5 ao)))
def sv(ao:V):M Fl:=
 ((((aE ao .eO).d fun v=>(pU [v])).d fun vs=>(nS vs)).d fun src=>(forL src (fun KX _=>fL) []).cy (fun _=>(w6 ao)))
def i3:List V→M V:=jh 1 fun vs=>match vs with
 | [ao]=>sv ao
 |_=>fL
theorem xN(G:gj g)(hK:g.K=hd.aO P):CS g 3 458 i3:=bl G hK rfl (by walk_at "c") fun _ ao=>(og 1 (fun _=> [(0,ao)]) [] rfl (.inl rfl) (SE.conv (dF G hK 3 18 (zC G hK) (ag (aL G .eO (ab 0)) ax))) ⟨rfl,trivial⟩ (fun KX _=>cC) (fun _=>(rY (fun _=> [(0,ao)]) [] ⟨rfl,trivial⟩ (fun _=>(SB.conv (cR (aL G .uI (ab 0))))) (fun _=>cC) (fun _=>(ay (SX.conv (aN G .ik (ee ax) (ab 0))) (ay (SX.conv (aN G .wake bO (ab 0))) (ay (SX.conv (aN G .state (iM G hK (.str "completed") 6 34) (ab 0))) (og 2 (fun _=> [(0,ao)]) [] rfl (.inl rfl) (SE.conv (aL G .ni (ab 0))) ⟨rfl,trivial⟩ (fun GJ _=>cC) (fun _=>(ay (SX.conv (cG (dF G hK 8 69 (wI G hK) (ag (ab 0) (ag (Mn (aL G .eu (ab 0))) ax))))) (aV [] trivial)))))))))))
abbrev uZ(qJ ae fg:V):M Fl:=((testM .And [((aE qJ .eu).d fun v=>(bV v)),fL,fL,fL]).d fun c=>(bif c then fL else(pU (.next [fg]))).cy (fun vs=>match vs with| [kH]=>(pU (.next [kH]))|_=>fL))
abbrev u4(ae kM:V):M Fl:=((aE ae .tasks).d fun src=>(forL src (fun qJ vs=>match vs with| [fg]=>(uZ qJ ae fg)|_=>fL) [kM]).cy (fun vs=>match vs with| [fg]=>(pU (.ret fg))|_=>fL))
def pH(ae:V):M Fl:=
 ((pU (.bool false)).d fun kM=>(u4 ae kM))
def jk:List V→M V:=jh 1 fun vs=>match vs with
 | [ae]=>pH ae
 |_=>fL
theorem vJ(G:gj g)(hK:g.K=hd.aO P):CS g 2 479 jk:=bl G hK rfl (by walk_at "c") fun _ ae=>(cx 1 rfl (SE.conv eZ) fun kM=>(og 2 (fun vs=>match vs with| [fg]=> [(0,ae),(1,fg)] |_=> []) [kM] rfl (.inl rfl) (SE.conv (aL G .tasks (ab 0))) ⟨rfl,rfl,trivial⟩ (fun qJ vs=>match vs with| [fg]=>(fy (fun vs=>match vs with| [kH]=> [(0,ae),(1,kH),(2,qJ)] |_=> []) (SB.conv (cL (.cons (cR (aL G .eu (ab 2))) (.cons oR (.cons oR (.cons oR .nil)))))) cC (aV [fg] ⟨rfl,rfl,rfl,trivial⟩) (fun vs=>match vs with| [kH]=>(aV [kH] ⟨rfl,rfl,trivial⟩)| []=>cC|_::_::_=>cC))| []=>cC|_::_::_=>cC) (fun vs=>match vs with| [fg]=>(SS.conv (dY (ab 1)))| []=>cC|_::_::_=>cC)))
abbrev w7(ae k9:V):M Fl:=((aE ae .tasks).d fun src=>(forL src (fun D0 _=>((((jo k9).d fun _=>((((aE D0 .ni).d fun src=>(fW 9 src (fun uh=>testM .And [((aE uh .nB).d fun v=>(bV v))]) (fun uh=>(pU uh)))).d fun v=>(pU [v])).d fun vs=>(rJ k9 vs))).d fun _=>pU ()).d fun _=>nX)) []).cy (fun _=>(pU (.ret k9))))
def sx(ae:V):M Fl:=
 (((((aE ae .mn).d fun v=>(aE v .nB)).d fun v=>(bV v)).d fun c=>bif c then(((aE ae .mn).d fun v=>(pU [v])).d fun vs=>((dB 1).d fun x=>lL x vs)) else((dB 1).d fun x=>lL x [])).d fun k9=>(w7 ae k9))
def mP:List V→M V:=jh 1 fun vs=>match vs with
 | [ae]=>sx ae
 |_=>fL
theorem xO(G:gj g)(hK:g.K=hd.aO P):CS g 1 501 mP:=bl G hK rfl (by walk_at "c") fun _ ae=>(cx 1 rfl (SE.conv (ow (cR (aL G .nB (aL G .mn (ab 0)))) (jl (dB 1) (cO 1) (ag (aL G .mn (ab 0)) ax)) (jl (dB 1) (cO 1) ax))) fun k9=>(og 2 (fun _=> [(0,ae),(1,k9)]) [] rfl (.inl rfl) (SE.conv (aL G .tasks (ab 0))) ⟨rfl,rfl,trivial⟩ (fun D0 _=>(ay (SX.conv (cG (Gx (ab 1) (ag (md (tg:=9) 1 [] [] (aL G .ni (ab 2)) rfl (by kernel_rfl) (by kernel_rfl) trivial rfl rfl (fun C uh=>(.cons (cR (aL G .nB (ab 1 (aI rfl (by simp))))) .nil)) (fun C uh=>(ab 1 (aI rfl (by simp))))) ax)))) (aV [] ⟨rfl,rfl,trivial⟩))) (fun _=>(SS.conv (dY (ab 1))))))
abbrev sU(ae kO:V):M Fl:=((mP [ae]).d fun src=>(forL src (fun GK vs=>match vs with| [jz]=>fL|_=>fL) [kO]).cy (fun vs=>match vs with| [jz]=>(pU (.ret jz))|_=>fL))
def oe(ae:V):M Fl:=
 ((pU (.bool false)).d fun kO=>(sU ae kO))
def iB:List V→M V:=jh 1 fun vs=>match vs with
 | [ae]=>oe ae
 |_=>fL
theorem tJ(G:gj g)(hK:g.K=hd.aO P):CS g 2 513 iB:=bl G hK rfl (by walk_at "c") fun _ ae=>(cx 1 rfl (SE.conv eZ) fun kO=>(og 2 (fun vs=>match vs with| [jz]=> [(0,ae),(1,jz)] |_=> []) [kO] rfl (.inl rfl) (SE.conv (dF G hK 5 80 (xO G hK) (ag (ab 0) ax))) ⟨rfl,rfl,trivial⟩ (fun GK vs=>match vs with| [jz]=>cC| []=>cC|_::_::_=>cC) (fun vs=>match vs with| [jz]=>(SS.conv (dY (ab 1)))| []=>cC|_::_::_=>cC)))
def ud(ae:V):M Fl:=
 ((qy (fun _=>(testM .Or [((jk [ae]).d fun v=>(bV v)),((lY [ae]).d fun v=>(bV v)),((iB [ae]).d fun v=>(bV v))])) (fun _=>(((aE ae .settled).d fun old=>((j4 .Add old (.int 1)).d fun u=>bb ae .settled u)).d fun _=>nX)) []).cy (fun _=>nX))
def kT:List V→M V:=jh 1 fun vs=>match vs with
 | [ae]=>ud ae
 |_=>fL
theorem sg(G:gj g)(hK:g.K=hd.aO P):CS g 3 520 kT:=bl G hK rfl (by walk_at "c") fun _ ae=>(rY (fun _=> [(0,ae)]) [] ⟨rfl,trivial⟩ (fun _=>(SB.conv (cL (.cons (cR (dF G hK 1 76 (vJ G hK) (ag (ab 0) ax))) (.cons (cR (dF G hK 2 77 (AM G hK) (ag (ab 0) ax))) (.cons (cR (dF G hK 3 82 (tJ G hK) (ag (ab 0) ax))) .nil)))))) (fun _=>(ay (SX.conv (FU G .settled (ab 0) dw (.inl rfl))) (aV [] ⟨rfl,trivial⟩))) (fun _=>(aV [] trivial)))
def xc(av:V):M Fl:=
 ((bb av .now (.int 0)).d fun _=>nX)
def pX:List V→M V:=jh 1 fun vs=>match vs with
 | [av]=>xc av
 |_=>fL
theorem Cv(G:gj g)(hK:g.K=hd.aO P):CS g 1 85 pX:=bl G hK rfl (by walk_at "c") fun _ av=>(ay (SX.conv (aN G .now dw (ab 0))) (aV [] trivial))
def BL:List V→VA:=RQ 105
theorem KA(hK:g.K=hd.aO P):vb g.K 88 85:=by rw [hK];exact⟨by kernel_rfl,by kernel_rfl,by kernel_rfl,by kernel_rfl,by kernel_rfl⟩
abbrev zM(av:V):M Fl:=((((dB 15).d fun x=>lL x []).d fun u=>(bb av .mT u)).d fun _=>((bb av .nB (.bool false)).d fun _=>nX))
def vh(av fk Aj:V):M Fl:=
 ((bb av .number fk).d fun _=>((bb av .owner Aj).d fun _=>(zM av)))
def oV:List V→M V:=jh 3 fun vs=>match vs with
 | [av,fk,Aj]=>vh av fk Aj
 |_=>fL
theorem AG(G:gj g)(hK:g.K=hd.aO P):CS g 1 404 oV:=bl G hK rfl (by walk_at "c") fun _ av fk Aj=>(ay (SX.conv (aN G .number (ab 1) (ab 0))) (ay (SX.conv (aN G .owner (ab 2) (ab 0))) (ay (SX.conv (aN G .mT (jl (dB 15) (cO 15) ax) (ab 0))) (ay (SX.conv (aN G .nB eZ (ab 0))) (aV [] trivial)))))
def yz:List V→VA:=RQ 106
theorem Ii(hK:g.K=hd.aO P):vb g.K 407 404:=by rw [hK];exact⟨by kernel_rfl,by kernel_rfl,by kernel_rfl,by kernel_rfl,by kernel_rfl⟩
abbrev vS(av:V):M Fl:=((bb av .leaving .none).d fun _=>((bb av .line (.int 0)).d fun _=>nX))
abbrev vT(av:V):M Fl:=(((df []).d fun u=>(bb av .Ic u)).d fun _=>((bb av .resume .none).d fun _=>(vS av)))
abbrev vU(av:V):M Fl:=(((df []).d fun u=>(bb av .bases u)).d fun _=>(vT av))
abbrev vV(av:V):M Fl:=((bb av .frame .none).d fun _=>((bb av .result .none).d fun _=>(vU av)))
abbrev vW(av:V):M Fl:=(((df []).d fun u=>(bb av .stack u)).d fun _=>(vV av))
abbrev vX(av:V):M Fl:=((bb av .pending (.int 0)).d fun _=>((bb av .vL (.bool false)).d fun _=>(vW av)))
abbrev vY(av:V):M Fl:=((bb av .inside (.int 0)).d fun _=>((bb av .i0 .none).d fun _=>(vX av)))
abbrev vZ(av:V):M Fl:=((bb av .answer .none).d fun _=>((bb av .eu (.bool false)).d fun _=>(vY av)))
abbrev v5(av:V):M Fl:=(((df []).d fun u=>(bb av .ni u)).d fun _=>((bb av .raised .none).d fun _=>(vZ av)))
abbrev uS(av:V):M Fl:=(((df []).d fun u=>(bb av .uI u)).d fun _=>(v5 av))
abbrev uT(av:V):M Fl:=((bb av .lK .none).d fun _=>((bb av .call .none).d fun _=>(uS av)))
abbrev uU(av:V):M Fl:=(((df []).d fun u=>(bb av .ik u)).d fun _=>((bb av .wake .none).d fun _=>(uT av)))
abbrev uV(av:V):M Fl:=((((dB 2).d fun x=>u5 x (.aU [])).d fun u=>(bb av .eO u)).d fun _=>(uU av))
abbrev uW(av eT:V):M Fl:=((bb av .IW eT).d fun _=>((bb av .state (.str "fresh")).d fun _=>(uV av)))
def qY(av fk nY eT:V):M Fl:=
 ((bb av .number fk).d fun _=>((bb av .name nY).d fun _=>(uW av eT)))
def lP:List V→M V:=jh 4 fun vs=>match vs with
 | [av,fk,nY,eT]=>qY av fk nY eT
 |_=>fL
theorem wC(G:gj g)(hK:g.K=hd.aO P):CS g 1 134 lP:=bl G hK rfl (by walk_at "c") fun _ av fk nY eT=>(ay (SX.conv (aN G .number (ab 1) (ab 0))) (ay (SX.conv (aN G .name (ab 2) (ab 0))) (ay (SX.conv (aN G .IW (ab 3) (ab 0))) (ay (SX.conv (aN G .state (iM G hK (.str "fresh") 4 25) (ab 0))) (ay (SX.conv (aN G .eO (JK (dB 2) (cO 2)) (ab 0))) (ay (SX.conv (aN G .ik (ee ax) (ab 0))) (ay (SX.conv (aN G .wake bO (ab 0))) (ay (SX.conv (aN G .lK bO (ab 0))) (ay (SX.conv (aN G .call bO (ab 0))) (ay (SX.conv (aN G .uI (ee ax) (ab 0))) (ay (SX.conv (aN G .ni (ee ax) (ab 0))) (ay (SX.conv (aN G .raised bO (ab 0))) (ay (SX.conv (aN G .answer bO (ab 0))) (ay (SX.conv (aN G .eu eZ (ab 0))) (ay (SX.conv (aN G .inside dw (ab 0))) (ay (SX.conv (aN G .i0 bO (ab 0))) (ay (SX.conv (aN G .pending dw (ab 0))) (ay (SX.conv (aN G .vL eZ (ab 0))) (ay (SX.conv (aN G .stack (ee ax) (ab 0))) (ay (SX.conv (aN G .frame bO (ab 0))) (ay (SX.conv (aN G .result bO (ab 0))) (ay (SX.conv (aN G .bases (ee ax) (ab 0))) (ay (SX.conv (aN G .Ic (ee ax) (ab 0))) (ay (SX.conv (aN G .resume bO (ab 0))) (ay (SX.conv (aN G .leaving bO (ab 0))) (ay (SX.conv (aN G .line dw (ab 0))) (aV [] trivial)))))))))))))))))))))))))))
def rV:List V→VA:=RQ 102
theorem Cu(hK:g.K=hd.aO P):vb g.K 137 134:=by rw [hK];exact⟨by kernel_rfl,by kernel_rfl,by kernel_rfl,by kernel_rfl,by kernel_rfl⟩
abbrev qM(av:V):M Fl:=((bb av .cells .none).d fun _=>((bb av .xZ (.bool false)).d fun _=>nX))
abbrev qN(av:V):M Fl:=((bb av .body .none).d fun _=>((bb av .frame .none).d fun _=>(qM av)))
abbrev qO(av:V):M Fl:=(((df []).d fun u=>(bb av .line u)).d fun _=>(qN av))
abbrev qP(av:V):M Fl:=(((df []).d fun u=>(bb av .nu u)).d fun _=>(qO av))
abbrev qQ(av:V):M Fl:=((((dB 2).d fun x=>u5 x (.cI [])).d fun u=>(bb av .eO u)).d fun _=>((bb av .writer .none).d fun _=>(qP av)))
def mM(av fk uF:V):M Fl:=
 ((bb av .number fk).d fun _=>((bb av .entries uF).d fun _=>(qQ av)))
def ji:List V→M V:=jh 3 fun vs=>match vs with
 | [av,fk,uF]=>mM av fk uF
 |_=>fL
theorem rC(G:gj g)(hK:g.K=hd.aO P):CS g 1 218 ji:=bl G hK rfl (by walk_at "c") fun _ av fk uF=>(ay (SX.conv (aN G .number (ab 1) (ab 0))) (ay (SX.conv (aN G .entries (ab 2) (ab 0))) (ay (SX.conv (aN G .eO (OY (dB 2) (cO 2)) (ab 0))) (ay (SX.conv (aN G .writer bO (ab 0))) (ay (SX.conv (aN G .nu (ee ax) (ab 0))) (ay (SX.conv (aN G .line (ee ax) (ab 0))) (ay (SX.conv (aN G .body bO (ab 0))) (ay (SX.conv (aN G .frame bO (ab 0))) (ay (SX.conv (aN G .cells bO (ab 0))) (ay (SX.conv (aN G .xZ eZ (ab 0))) (aV [] trivial)))))))))))
def mz:List V→VA:=RQ 103
theorem vH(hK:g.K=hd.aO P):vb g.K 221 218:=by rw [hK];exact⟨by kernel_rfl,by kernel_rfl,by kernel_rfl,by kernel_rfl,by kernel_rfl⟩
abbrev x6(av:V):M Fl:=((((dB 14).d fun x=>lL x []).d fun u=>(bb av .dN u)).d fun _=>((bb av .serve .none).d fun _=>nX))
abbrev x7(av:V):M Fl:=(((my 407 yz oV [(.int 0),.none]).d fun u=>(bb av .mn u)).d fun _=>(x6 av))
abbrev x8(av:V):M Fl:=((bb av .cS (.int 0)).d fun _=>((bb av .settled (.int 0)).d fun _=>(x7 av)))
abbrev x9(av:V):M Fl:=((((dB 15).d fun x=>lL x []).d fun u=>(bb av .tasks u)).d fun _=>(x8 av))
abbrev ya(av:V):M Fl:=(((my 88 BL pX []).d fun u=>(bb av .lB u)).d fun _=>(x9 av))
def tW(av xq xp:V):M Fl:=
 ((bb av .wb xq).d fun _=>((bb av .choose xp).d fun _=>(ya av)))
def nQ:List V→M V:=jh 3 fun vs=>match vs with
 | [av,xq,xp]=>tW av xq xp
 |_=>fL
theorem zz(G:gj g)(hK:g.K=hd.aO P):CS g 3 534 nQ:=bl G hK rfl (by walk_at "c") fun _ av xq xp=>(ay (SX.conv (aN G .wb (ab 1) (ab 0))) (ay (SX.conv (aN G .choose (ab 2) (ab 0))) (ay (SX.conv (aN G .lB (Iq (nm:=BL) G hK 3 20 (KA hK) (Cv G hK) ax) (ab 0))) (ay (SX.conv (aN G .tasks (jl (dB 15) (cO 15) ax) (ab 0))) (ay (SX.conv (aN G .cS dw (ab 0))) (ay (SX.conv (aN G .settled dw (ab 0))) (ay (SX.conv (aN G .mn (Iq (nm:=yz) G hK 4 66 (Ii hK) (AG G hK) (ag dw (ag bO ax))) (ab 0))) (ay (SX.conv (aN G .dN (jl (dB 14) (cO 14) ax) (ab 0))) (ay (SX.conv (aN G .serve bO (ab 0))) (aV [] trivial))))))))))
def wd:List V→VA:=RQ 104
theorem Gm(hK:g.K=hd.aO P):vb g.K 544 534:=by rw [hK];exact⟨by kernel_rfl,by kernel_rfl,by kernel_rfl,by kernel_rfl,by kernel_rfl⟩
abbrev Dg(ae i5:V):M Fl:=((((aE ae .tasks).d fun v=>((jo v).d fun _=>(fQ v [i5]))).d fun _=>pU ()).d fun _=>(pU (.ret i5)))
abbrev Dh(eT i5 ae:V):M Fl:=((((aE eT .mT).d fun v=>((jo v).d fun _=>(fQ v [i5]))).d fun _=>pU ()).d fun _=>(Dg ae i5))
abbrev Di(eT i5 ae:V):M Fl:=(((mL .And [((aE eT .owner).d fun a=>((aX .IsNot a .none).d fun c=>pU (.bool c))),((aE eT .owner).d fun v=>(aE v .eu))]).d fun u=>(bb i5 .eu u)).d fun _=>(Dh eT i5 ae))
abbrev Dj(ae nY eT:V):M Fl:=(((((Ig 544 ae).d fun _=>(gz [ae])).d fun v=>(pU [v,nY,eT])).d fun vs=>(my 137 rV lP vs)).d fun i5=>(Di eT i5 ae))
def zd(ae nY eT Fm:V):M Fl:=
 (((((aE ae .tasks).d fun v=>(pU [v])).d fun vs=>(E9 vs)).d fun a=>(((aE ae .wb).d fun v=>(aE v .tasks)).d fun b=>(aX .GtE a b))).d fun c=>(bif c then fL else nX).cy (fun _=>(Dj ae nY eT)))
def oo:List V→M V:=jh 4 fun vs=>match vs with
 | [ae,nY,eT,Fm]=>zd ae nY eT Fm
 |_=>fL
theorem EC(G:gj g)(hK:g.K=hd.aO P):CS g 3 418 oo:=bl G hK rfl (by walk_at "c") fun _ ae nY eT Fm=>(fy (fun _=> [(0,ae),(1,nY),(2,eT),(3,Fm)]) (SB.conv (cz (CK (B8 G hK 5) xI (ag (aL G .tasks (ab 0)) ax)) (aL G .tasks (aL G .wb (ab 0))))) cC (aV [] ⟨rfl,rfl,rfl,rfl,trivial⟩) (fun _=>(cx 4 rfl (SE.conv (Iq (nm:=rV) G hK 7 38 (Cu hK) (wC G hK) (ag (Ml (C:=544) G (ab 0) (by rw [hK];kernel_rfl) (by rw [hK];kernel_rfl) (by decide+kernel) (kL hK) (lZ G hK) ax) (ag (ab 1) (ag (ab 2) ax))))) fun i5=>(ay (SX.conv (aN G .eu (jR (.cons (kF (aL G .owner (ab 2)) bO) (.cons (aL G .eu (aL G .owner (ab 2))) .nil))) (ab 4))) (ay (SX.conv (cG (kE (aL G .mT (ab 2)) (ag (ab 4) ax)))) (ay (SX.conv (cG (kE (aL G .tasks (ab 0)) (ag (ab 4) ax)))) (SS.conv (dY (ab 4)))))))))
abbrev Dm(ae:V):M Fl:=((aE ae .tasks).d fun src=>(forL src (fun kh _=>(((((aE ae .lB).d fun v=>(((aE kh .wake).d fun v=>(pU [v])).d fun vs=>(pU (v::vs)))).d fun vs=>(qE vs)).d fun v=>(bV v)).d fun c=>(bif c then(((j8 [ae,kh]).d fun _=>pU ()).d fun _=>(((gU [kh]).d fun _=>pU ()).d fun _=>nX)) else nX).cy (fun _=>nX))) []).cy (fun _=>nX))
abbrev Dn(ae jx:V):M Fl:=(((((aE ae .lB).d fun v=>(pU [v,jx])).d fun vs=>(qb vs)).d fun _=>pU ()).d fun _=>(Dm ae))
abbrev Dp(jx ae:V):M Fl:=((aX .Is jx .none).d fun c=>(bif c then fL else nX).cy (fun _=>(Dn ae jx)))
def zf(ae:V):M Fl:=
 (((((aE ae .tasks).d fun src=>(fW 9 src (fun gN=>testM .And []) (fun gN=>(aE gN .wake)))).d fun v=>(pU [v])).d fun vs=>(rz vs)).d fun jx=>(Dp jx ae))
def rA:List V→M V:=jh 1 fun vs=>match vs with
 | [ae]=>zf ae
 |_=>fL
theorem EF(G:gj g)(hK:g.K=hd.aO P):CS g 4 563 rA:=bl G hK rfl (by walk_at "c") fun _ ae=>(cx 2 rfl (SE.conv (dF G hK 3 22 (ED G hK) (ag (md (tg:=9) 1 [] [] (aL G .tasks (ab 0)) rfl (by kernel_rfl) (by kernel_rfl) trivial rfl rfl (fun C gN=> .nil) (fun C gN=>(aL G .wake (ab 1 (aI rfl (by simp)))))) ax))) fun jx=>(fy (fun _=> [(0,ae),(2,jx)]) (SB.conv (cz (ab 2) bO)) cC (aV [] ⟨rfl,rfl,trivial⟩) (fun _=>(ay (SX.conv (cG (dF G hK 6 23 (CB G hK) (ag (aL G .lB (ab 0)) (ag (ab 2) ax))))) (og 1 (fun _=> [(0,ae),(2,jx)]) [] rfl (.inl rfl) (SE.conv (aL G .tasks (ab 0))) ⟨rfl,rfl,trivial⟩ (fun kh _=>(fy (fun _=> [(0,ae),(1,kh),(2,jx)]) (SB.conv (cR (dF G hK 7 24 (DO G hK) (ag (aL G .lB (ab 0)) (ag (aL G .wake (ab 1)) ax))))) (ay (SX.conv (cG (dF G hK 8 43 (wL G hK) (ag (ab 0) (ag (ab 1) ax))))) (ay (SX.conv (cG (dF G hK 9 47 (vf G hK) (ag (ab 1) ax)))) (aV [] ⟨rfl,rfl,rfl,trivial⟩))) (aV [] ⟨rfl,rfl,rfl,trivial⟩) (fun _=>(aV [] ⟨rfl,rfl,trivial⟩)))) (fun _=>(aV [] trivial)))))))
abbrev Bp(bX ki pK:V):M Fl:=(((((E9 [bX]).d fun b=>(aX .Lt ki b)).d fun c=>bif c then(fc bX ki) else((j4 .Mod ki (.int 26)).d fun k=>(fc (.tup [(.int 2),(.int 2),(.int 0),(.int 0),(.int 0),(.int 2),(.int 1),(.int 0),(.int 3),(.int 0),(.int 0),(.int 0),(.int 0),(.int 1),(.int 0),(.int 0),(.int 2),(.int 2),(.int 1),(.int 1),(.int 1),(.int 0),(.int 0),(.int 0),(.int 0),(.int 0)]) k))).d fun a=>(j4 .Mod a pK)).d fun v=>(pU (.ret v)))
abbrev Bq(oE ki bX pK:V):M Fl:=((((jo oE).d fun _=>(fQ oE [ki])).d fun _=>pU ()).d fun _=>(Bp bX ki pK))
def xe(bX oE pK:V):M Fl:=
 ((((jo oE).d fun _=>(I4 oE [])).d fun a=>(j4 .Add a (.int 1))).d fun ki=>(Bq oE ki bX pK))
def eG:List V→M V:=jh 3 fun vs=>match vs with
 | [bX,oE,pK]=>xe bX oE pK
 |_=>fL
theorem jv(G:gj g)(hK:g.K=hd.aO P):CS g 1 601 eG:=bl G hK rfl (by walk_at "c") fun _ bX oE pK=>(cx 3 rfl (SE.conv (sk (Tj (ab 1) ax) dw)) fun ki=>(ay (SX.conv (cG (kE (ab 1) (ag (ab 3) ax)))) (SS.conv (dY (sk (ow (cz (ab 3) (CK (B8 G hK 4) xI (ag (ab 0) ax))) (gK G (ab 0) (ab 3)) (gK G (iM G hK (.tup [(.int 2),(.int 2),(.int 0),(.int 0),(.int 0),(.int 2),(.int 1),(.int 0),(.int 3),(.int 0),(.int 0),(.int 0),(.int 0),(.int 1),(.int 0),(.int 0),(.int 2),(.int 2),(.int 1),(.int 1),(.int 1),(.int 0),(.int 0),(.int 0),(.int 0),(.int 0)]) 5 96) (sk (ab 3) dw))) (ab 2))))))
def vj(ak bD:V):M Fl:=
 ((((itemF ak .ip).d fun v=>(fc v bD)).d fun v=>(itemF v .cJ)).d fun v=>(pU (.ret v)))
def eF:List V→M V:=jh 2 fun vs=>match vs with
 | [ak,bD]=>vj ak bD
 |_=>fL
theorem i4(G:gj g)(hK:g.K=hd.aO P):CS g 1 608 eF:=bl G hK rfl (by walk_at "c") fun _ ak bD=>(SS.conv (dY (bo .cJ (gK G (bo .ip (ab 0)) (ab 1)))))
abbrev C7(ak tR:V):M Fl:=(((itemF ak .line).d fun src=>(fW 9 src (fun hZ=>testM .And [(testM .Or [((((itemF ak .ip).d fun v=>(fc v hZ)).d fun v=>(itemF v .jG)).d fun a=>(aX .Is a .none)),((((itemF ak .ip).d fun v=>(fc v hZ)).d fun v=>(itemF v .jG)).d fun b=>(aX .Lt tR b))])]) (fun hZ=>(pU hZ)))).d fun v=>(pU (.ret v)))
def y6(ak:V):M Fl:=
 ((((itemF ak .iW).d fun v=>(aE v .lB)).d fun v=>(aE v .now)).d fun tR=>(C7 ak tR))
def lR:List V→M V:=jh 1 fun vs=>match vs with
 | [ak]=>y6 ak
 |_=>fL
theorem wF(G:gj g)(hK:g.K=hd.aO P):CS g 1 613 lR:=bl G hK rfl (by walk_at "c") fun _ ak=>(kn 1 rfl (SE.conv (aL G .now (aL G .lB (bo .iW (ab 0))))) fun tR=>(SS.conv (dY (md (tg:=9) 1 [(2,1),(3,0)] [(2,tR),(3,ak)] (bo .line (ab 0)) rfl (by kernel_rfl) (by kernel_rfl) ⟨⟨_,rfl⟩,⟨_,rfl,rfl⟩,⟨⟨_,rfl⟩,⟨_,rfl,rfl⟩,trivial⟩⟩ rfl rfl (fun C hZ=>(.cons (cL (.cons (cz (bo .jG (gK G (bo .ip (ab 3 (dO rfl))) (ab 1 (aI rfl (by simp))))) bO) (.cons (cz (ab 2 (dO rfl)) (bo .jG (gK G (bo .ip (ab 3 (dO rfl))) (ab 1 (aI rfl (by simp)))))) .nil))) .nil)) (fun C hZ=>(ab 1 (aI rfl (by simp))))))))
def pG(ak:V):M Fl:=
 ((mL .And [((itemF ak .within).d fun a=>((df []).d fun b=>((aX .NotEq a b).d fun c=>pU (.bool c)))),(((((itemF ak .within).d fun v=>(fc v (.int 0))).d fun v=>(pU [v])).d fun vs=>(pU (ak::vs))).d fun vs=>(eF vs))]).d fun v=>(pU (.ret v)))
def eE:List V→M V:=jh 1 fun vs=>match vs with
 | [ak]=>pG ak
 |_=>fL
theorem kY(G:gj g)(hK:g.K=hd.aO P):CS g 2 620 eE:=bl G hK rfl (by walk_at "c") fun _ ak=>(SS.conv (dY (jR (.cons (kF (bo .within (ab 0)) (ee ax)) (.cons (dF G hK 1 98 (i4 G hK) (ag (ab 0) (ag (gK G (bo .within (ab 0)) dw) ax))) .nil)))))
abbrev yl(ak eQ:V):M Fl:=((mL .Or [((itemF ak .fY).d fun a=>((aX .Eq a (.int 0)).d fun c=>pU (.bool c))),((lU [eQ,(.tup [(.str "write"),.none])]).d fun a=>((aX .Eq a (.int 0)).d fun c=>pU (.bool c)))]).d fun v=>(pU (.ret v)))
abbrev ym(ak eQ:V):M Fl:=(((itemF ak .fY).d fun a=>(aX .Eq a (.int 2))).d fun c=>(bif c then(((lU [eQ,(.tup [(.str "wait"),.none])]).d fun a=>((aX .Eq a (.int 0)).d fun c=>pU (.bool c))).d fun v=>(pU (.ret v))) else nX).cy (fun _=>(yl ak eQ)))
abbrev yn(ak eQ:V):M Fl:=(((eE [ak]).d fun v=>(bV v)).d fun c=>(bif c then(pU (.ret (.bool false))) else nX).cy (fun _=>(ym ak eQ)))
abbrev yo(dJ ak eQ:V):M Fl:=((testM .Or [(aX .Eq dJ (.tup [(.str "write"),.none])),(aX .Eq dJ (.tup [(.str "wait"),.none]))]).d fun c=>(bif c then(((itemF ak .within).d fun a=>((df []).d fun b=>((aX .Eq a b).d fun c=>pU (.bool c)))).d fun v=>(pU (.ret v))) else nX).cy (fun _=>(yn ak eQ)))
def tY(ak dJ:V):M Fl:=
 (((itemF ak .gX).d fun v=>(aE v .eO)).d fun eQ=>(yo dJ ak eQ))
def kS:List V→M V:=jh 2 fun vs=>match vs with
 | [ak,dJ]=>tY ak dJ
 |_=>fL
theorem r9(G:gj g)(hK:g.K=hd.aO P):CS g 3 627 kS:=bl G hK rfl (by walk_at "c") fun _ ak dJ=>(cx 2 rfl (SE.conv (aL G .eO (bo .gX (ab 0)))) fun eQ=>(fy (fun _=> [(0,ak),(1,dJ),(2,eQ)]) (SB.conv (cL (.cons (cz (ab 1) (iM G hK (.tup [(.str "write"),.none]) 3 95)) (.cons (cz (ab 1) (iM G hK (.tup [(.str "wait"),.none]) 4 93)) .nil)))) (SS.conv (dY (kF (bo .within (ab 0)) (ee ax)))) (aV [] ⟨rfl,rfl,rfl,trivial⟩) (fun _=>(fy (fun _=> [(0,ak),(1,dJ),(2,eQ)]) (SB.conv (cR (dF G hK 5 100 (kY G hK) (ag (ab 0) ax)))) (SS.conv (dY eZ)) (aV [] ⟨rfl,rfl,rfl,trivial⟩) (fun _=>(fy (fun _=> [(0,ak),(1,dJ),(2,eQ)]) (SB.conv (cz (bo .fY (ab 0)) dw)) (SS.conv (dY (kF (dF G hK 6 17 (tG G hK) (ag (ab 2) (ag (iM G hK (.tup [(.str "wait"),.none]) 4 93) ax))) dw))) (aV [] ⟨rfl,rfl,rfl,trivial⟩) (fun _=>(SS.conv (dY (jR (.cons (kF (bo .fY (ab 0)) dw) (.cons (kF (dF G hK 6 17 (tG G hK) (ag (ab 2) (ag (iM G hK (.tup [(.str "write"),.none]) 3 95) ax))) dw) .nil))))))))))))
abbrev CP(aK:V):M Fl:=(((pY [aK,.none]).d fun _=>pU ()).d fun _=>nX)
abbrev CQ(ak eX aK:V):M Fl:=((((itemF ak .within).d fun v=>((jo v).d fun _=>(fQ v [eX]))).d fun _=>pU ()).d fun _=>(CP aK))
abbrev CT(ak eX aK:V):M Fl:=((((itemF ak .line).d fun src=>(fW 12 src (fun dP=>testM .And [(aX .NotEq dP eX)]) (fun dP=>(pU dP)))).d fun u=>(b0 ak .line u)).d fun _=>(CQ ak eX aK))
abbrev CU(nD eX ak dS aK:V):M Fl:=((testM .Or [((BZ nD).d fun a=>((df [eX]).d fun b=>(aX .NotEq a b))),((eE [ak]).d fun v=>(bV v)),(testM .And [(bV dS),((itemF ak .within).d fun a=>((df []).d fun b=>(aX .NotEq a b)))])]).d fun c=>(bif c then((b0 ak .fX (.bool false)).d fun _=>nX) else nX).cy (fun _=>(CT ak eX aK)))
abbrev CV(ak dS eX aK:V):M Fl:=(((lR [ak]).d fun src=>(fW 9 src (fun dP=>testM .And [(testM .Or [((itemF ak .fY).d fun a=>(aX .Eq a (.int 2))),((eF [ak,dP]).d fun a=>(aX .Eq a dS))])]) (fun dP=>(pU dP)))).d fun nD=>(CU nD eX ak dS aK))
abbrev CW(aK dS ak eX:V):M Fl:=((testM .And [((aE aK .key).d fun a=>(aX .Eq a (.tup [(.str "come"),.none]))),(bV dS),((itemF ak .within).d fun a=>((df []).d fun b=>(aX .NotEq a b)))]).d fun c=>(bif c then((((((itemF ak .gX).d fun v=>(pU [v,(.tup [(.str "wait"),.none]),(.bool true)])).d fun vs=>(pU (aK::vs))).d fun vs=>(iA vs)).d fun _=>pU ()).d fun _=>(pU (.ret .none))) else nX).cy (fun _=>(CV ak dS eX aK)))
abbrev CX(ak eX aK:V):M Fl:=((eF [ak,eX]).d fun dS=>(CW aK dS ak eX))
def y4(ak aK:V):M Fl:=
 (((aE aK .values).d fun v=>(fc v (.int 0))).d fun eX=>(CX ak eX aK))
def oi:List V→M V:=jh 2 fun vs=>match vs with
 | [ak,aK]=>y4 ak aK
 |_=>fL
theorem wD(G:gj g)(hK:g.K=hd.aO P):CS g 4 632 oi:=bl G hK rfl (by walk_at "c") fun _ ak aK=>(kn 2 rfl (SE.conv (gK G (aL G .values (ab 1)) dw)) fun eX=>(kn 3 rfl (SE.conv (dF G hK 5 98 (i4 G hK) (ag (ab 0) (ag (ab 2) ax)))) fun dS=>(fy (fun _=> [(0,ak),(1,aK),(2,eX),(3,dS)]) (SB.conv (cL (.cons (cz (aL G .key (ab 1)) (iM G hK (.tup [(.str "come"),.none]) 6 92)) (.cons (cR (ab 3)) (.cons (cz (bo .within (ab 0)) (ee ax)) .nil))))) (ay (SX.conv (cG (dF G hK 7 60 (tI G hK) (ag (ab 1) (ag (bo .gX (ab 0)) (ag (iM G hK (.tup [(.str "wait"),.none]) 8 93) (ag eZ ax))))))) Fw) (aV [] ⟨rfl,rfl,rfl,rfl,trivial⟩) (fun _=>(gW (tg:=9) 4 1 [(3,3),(4,0)] [(3,dS),(4,ak)] rfl (dF G hK 9 99 (wF G hK) (ag (ab 0) ax)) rfl (by kernel_rfl) (by kernel_rfl) ⟨⟨_,rfl⟩,⟨_,rfl,rfl⟩,⟨⟨_,rfl⟩,⟨_,rfl,rfl⟩,trivial⟩⟩ rfl rfl (fun C dP=>(.cons (cL (.cons (cz (bo .fY (ab 4 (dO rfl))) dw) (.cons (cz (dF G hK 2 98 (i4 G hK) (ag (ab 4 (dO rfl)) (ag (ab 1 (aI rfl (by simp))) ax)) (aI rfl (by simp))) (ab 3 (dO rfl))) .nil))) .nil)) (fun C dP=>(ab 1 (aI rfl (by simp)))) (fun nD=>(fy (fun _=> [(0,ak),(1,aK),(2,eX),(3,dS),(4,nD)]) (SB.conv (cL (.cons (cz (JN (ab 4)) (ee (ag (ab 2) ax))) (.cons (cR (dF G hK 10 100 (kY G hK) (ag (ab 0) ax))) (.cons (cL (.cons (cR (ab 3)) (.cons (cz (bo .within (ab 0)) (ee ax)) .nil))) .nil))))) (ay (SX.conv (mH .fX eZ (ab 0))) (aV [] ⟨rfl,rfl,rfl,rfl,rfl,trivial⟩)) (aV [] ⟨rfl,rfl,rfl,rfl,rfl,trivial⟩) (fun _=>(ay (SX.conv (mH .line (md (tg:=12) 1 [(2,2)] [(2,eX)] (bo .line (ab 0)) rfl (by kernel_rfl) (by kernel_rfl) ⟨⟨_,rfl⟩,⟨_,rfl,rfl⟩,trivial⟩ rfl rfl (fun C dP=>(.cons (cz (ab 1 (aI rfl (by simp))) (ab 2 (dO rfl))) .nil)) (fun C dP=>(ab 1 (aI rfl (by simp))))) (ab 0))) (ay (SX.conv (cG (kE (bo .within (ab 0)) (ag (ab 2) ax)))) (ay (SX.conv (cG (dF G hK 11 59 (Cy G hK) (ag (ab 1) (ag bO ax))))) (aV [] trivial))))))) (by kernel_rfl) (by kernel_rfl))))))
abbrev Bl(ao hV dX:V):M Fl:=((mL .And [((aE ao .answer).d fun a=>((iE [(.str "late")]).d fun b=>((aX .Eq a b).d fun c=>pU (.bool c)))),((aX .Eq hV dX).d fun c=>pU (.bool c))]).d fun v=>(pU (.ret v)))
abbrev Bm(ak bD ao hV dX:V):M Fl:=((((itemF ak .line).d fun src=>(fW 12 src (fun dP=>testM .And [(aX .NotEq dP bD)]) (fun dP=>(pU dP)))).d fun u=>(b0 ak .line u)).d fun _=>(Bl ao hV dX))
abbrev Bn(dX ao hV ak bD:V):M Fl:=((aX .Eq dX (.str "else")).d fun c=>(bif c then((mL .And [((aE ao .answer).d fun a=>((iE [(.str "refused")]).d fun b=>((aX .Eq a b).d fun c=>pU (.bool c)))),((aX .Eq hV (.int 0)).d fun c=>pU (.bool c))]).d fun v=>(pU (.ret v))) else nX).cy (fun _=>(Bm ak bD ao hV dX)))
abbrev Bo(dX ak bD ao hV:V):M Fl:=((testM .Or [(aX .Is dX .none),((itemF ak .within).d fun b=>(FZ bD b))]).d fun c=>(bif c then(pU (.ret (.bool false))) else nX).cy (fun _=>(Bn dX ao hV ak bD)))
def rR(ak ao bD hV:V):M Fl:=
 ((((itemF ak .ip).d fun v=>(fc v bD)).d fun v=>(itemF v .bZ)).d fun dX=>(Bo dX ak bD ao hV))
def fR:List V→M V:=jh 4 fun vs=>match vs with
 | [ak,ao,bD,hV]=>rR ak ao bD hV
 |_=>fL
theorem Cx(G:gj g)(hK:g.K=hd.aO P):CS g 1 654 fR:=bl G hK rfl (by walk_at "c") fun _ ak ao bD hV=>(cx 4 rfl (SE.conv (bo .bZ (gK G (bo .ip (ab 0)) (ab 2)))) fun dX=>(fy (fun _=> [(0,ak),(1,ao),(2,bD),(3,hV),(4,dX)]) (SB.conv (cL (.cons (cz (ab 4) bO) (.cons (Ta G (ab 2) (bo .within (ab 0))) .nil)))) (SS.conv (dY eZ)) (aV [] ⟨rfl,rfl,rfl,rfl,rfl,trivial⟩) (fun _=>(fy (fun _=> [(0,ak),(1,ao),(2,bD),(3,hV),(4,dX)]) (SB.conv (cz (ab 4) jS)) (SS.conv (dY (jR (.cons (kF (aL G .answer (ab 1)) (iU (ag jS ax))) (.cons (kF (ab 3) dw) .nil))))) (aV [] ⟨rfl,rfl,rfl,rfl,rfl,trivial⟩) (fun _=>(ay (SX.conv (mH .line (md (tg:=12) 1 [(2,2)] [(2,bD)] (bo .line (ab 0)) rfl (by kernel_rfl) (by kernel_rfl) ⟨⟨_,rfl⟩,⟨_,rfl,rfl⟩,trivial⟩ rfl rfl (fun C dP=>(.cons (cz (ab 1 (aI rfl (by simp))) (ab 2 (dO rfl))) .nil)) (fun C dP=>(ab 1 (aI rfl (by simp))))) (ab 0))) (SS.conv (dY (jR (.cons (kF (aL G .answer (ab 1)) (iU (ag jS ax))) (.cons (kF (ab 3) (ab 4)) .nil)))))))))))
abbrev zI(av kU nW:V):M Fl:=((bb av .tasks kU).d fun _=>((bb av .heap nW).d fun _=>nX))
abbrev zJ(av jy qu kU nW:V):M Fl:=((bb av .members jy).d fun _=>((bb av .text qu).d fun _=>(zI av kU nW)))
abbrev zK(av pI jy qu kU nW:V):M Fl:=((bb av .depth pI).d fun _=>(zJ av jy qu kU nW))
abbrev zL(av uG pI jy qu kU nW:V):M Fl:=((bb av .steps uG).d fun _=>(zK av pI jy qu kU nW))
def qp(av Ak uG pI jy qu kU nW:V):M Fl:=
 ((bb av .width Ak).d fun _=>(zL av uG pI jy qu kU nW))
def lO:List V→M V:=fun vs=>match vs with
 | [v]=>jh 8 (fun vs=>match vs with
  | [av,Ak,uG,pI,jy,qu,kU,nW]=>qp av Ak uG pI jy qu kU nW
  |_=>fL) (v:: [.int 32,.int 1000000,.int 50,.int 10000,.int 100000,.int 50,.int 1000000])
 |_=>fL
theorem AF(G:gj g)(hK:g.K=hd.aO P):CS g 1 383 lO:=by
 refine Kx (k:=0) (n:=8) (dr:= [.int 32 758,.int 1000000 761,.int 50 762,.int 10000 765,.int 100000 768,.int 50 769,.int 1000000 772]) G (show g.K.lookup 383=some ⟨_,_,.func _,_⟩ from by rw [hK];rfl) (by rw [hK];exact⟨rfl,rfl,rfl,rfl,rfl,by kernel_rfl,by rfl,by rfl,by kernel_rfl,rfl,rfl,rfl⟩) (fun S=> .cons (.int _ _)<| .cons (.int _ _)<| .cons (.int _ _)<| .cons (.int _ _)<| .cons (.int _ _)<| .cons (.int _ _)<| .cons (.int _ _) .nil) (by rw [hK];intro r S;kernel_rfl) fun L vs hl=>?_
 match vs,hl with
 | [av,Ak,uG,pI,jy,qu,kU,nW],_=>
  exact(ay (SX.conv (aN G .width (ab 1) (ab 0))) (ay (SX.conv (aN G .steps (ab 2) (ab 0))) (ay (SX.conv (aN G .depth (ab 3) (ab 0))) (ay (SX.conv (aN G .members (ab 4) (ab 0))) (ay (SX.conv (aN G .text (ab 5) (ab 0))) (ay (SX.conv (aN G .tasks (ab 6) (ab 0))) (ay (SX.conv (aN G .heap (ab 7) (ab 0))) (aV [] trivial))))))))
def yy:List V→VA:=RQ 107
theorem Ih(hK:g.K=hd.aO P):vb g.K 386 383:=by rw [hK];exact⟨by kernel_rfl,by kernel_rfl,by kernel_rfl,by kernel_rfl,by kernel_rfl⟩
abbrev Mi(s:Stmt)(n q:Str)(frees:List Str):vE:=⟨n,q,hd.ar s,hd.bd s,hd.sc s,frees⟩
def ON:vE:=Mi (hd.F0 (hd.fB 109) 6) "chooser" "law.<locals>.chooser" ["wishes", "steps"]
def OP:vE:=Mi (hd.F0 (hd.fB 109) 13) "serve" "law.<locals>.serve" ["room"]
def OR:vE:=Mi (hd.F0 (hd.fB 103) 0) "is_open" "_law_tend.<locals>.is_open" ["room"]
abbrev q0:Addr×Addr×Pos×Str:=(670,668,hd.po (hd.F0 (hd.fB 109) 6), "law.<locals>.chooser")
abbrev q1:Addr×Addr×Pos×Str:=(670,668,hd.po (hd.F0 (hd.fB 109) 13), "law.<locals>.serve")
abbrev q2:Addr×Addr×Pos×Str:=(638,634,hd.po (hd.F0 (hd.fB 103) 0), "_law_tend.<locals>.is_open")
structure wt(g:Gl)(P:Params):Prop where
 ok:gj g
 hK:g.K=hd.aO P
 D:QS g
 d0:g.l0 0=ON
 d1:g.l0 1=OP
 d2:g.l0 2=OR
 t0:q0∈g.tabs
 t1:q1∈g.tabs
 t2:q2∈g.tabs
theorem EO{names:List (Str×NameKind)}{sh:List (Nat×VA)}:∀(j:Nat) (n:Str) (x:VA),([]:List Str)[j]? =some n→([]:List VA)[j]? =some x→∃i kk,names[i]? =some (n,kk)∧sh.lookup i=some x:=fun _ _ _ h=>by simp at h
theorem wX{names:List (Str×NameKind)}{sh:List (Nat×VA)}{f:Str}{fs:List Str}{c:VA}{cs:List VA}(h:∃i kk,names[i]? =some (f,kk)∧sh.lookup i=some c)(r:∀(j:Nat) (n:Str) (x:VA),fs[j]? =some n→cs[j]? =some x→∃i kk,names[i]? =some (n,kk)∧sh.lookup i=some x):
  ∀(j:Nat) (n:Str) (x:VA),(f::fs)[j]? =some n→(c::cs)[j]? =some x→∃i kk,names[i]? =some (n,kk)∧sh.lookup i=some x
 |0,n,x,a,b=>by simp at a b;subst a b;exact h
 |j+1,n,x,a,b=>r j n x (by simpa using a) (by simpa using b)
theorem idxs{names:List (Str×NameKind)}{m:Nat}(hl:names.length=m){i:Nat}{q:Str×NameKind}(h:names[i]? =some q):i<m:=hl▸(aF.mp h).1
theorem OO:Em ON 1 [2,1]:=by
 refine⟨fun _ _ _ _ _ _=>rfl,rfl,by kernel_rfl,by rfl,by rfl,rfl,rfl,rfl,by rfl,fun i n h=>?_,by decide,by show(["wishes", "steps"]:List Str).Nodup;decide⟩
 match i,idxs (m:=4) (by kernel_rfl) h,h with
 |0,_,h=>cases h
 |1,_,_=>simp
 |2,_,_=>simp
 |3,_,h=>cases h
theorem OQ:Em OP 1 [1]:=by
 refine⟨fun _ _ _ _ _ _=>rfl,rfl,by kernel_rfl,by rfl,by rfl,rfl,rfl,rfl,by rfl,fun i n h=>?_,by decide,by show(["room"]:List Str).Nodup;simp⟩
 match i,idxs (m:=3) (by kernel_rfl) h,h with
 |0,_,h=>cases h
 |1,_,_=>simp
 |2,_,h=>cases h
theorem OS:Em OR 1 [1]:=by
 refine⟨fun _ _ _ _ _ _=>rfl,rfl,by kernel_rfl,by rfl,by rfl,rfl,rfl,rfl,by rfl,fun i n h=>?_,by decide,by show(["room"]:List Str).Nodup;simp⟩
 match i,idxs (m:=3) (by kernel_rfl) h,h with
 |0,_,h=>cases h
 |1,_,_=>simp
 |2,_,h=>cases h
def qt(dE:VA)(dJ:V):M Fl:=
 ((((d8 dE).d fun v=>(pU [v,dJ])).d fun vs=>(kS vs)).d fun v=>(pU (.ret v)))
def ru:List VA→List V→M V:=AD 1 fun cs vs=>match cs,vs with
 | [dE], [dJ]=>qt dE dJ
 |_,_=>fL
theorem Kn(A:wt g P):CC g 6 2 ru:=by
 have G:=A.ok
 have hK:=A.hK
 refine rp (k:=5) (n:=1) (D:=OR) (xU:= [1]) G A.d2 OS fun cl doc pm ct c L a cs vs hc hl=>?_
 match cs,vs,hc,hl with
 | [dE], [dJ],_,_=>
  exact(SS.conv (dY (dF G hK 2 101 (r9 G hK) (ag (kZ 1) (ag (ab 0) ax)))))
abbrev Br(iY:VA)(iG:V):M Fl:=((((d8 iY).d fun v=>(fc v (.int (-1)))).d fun k=>(fc iG k)).d fun v=>(pU (.ret v)))
def rS(i9:VA)(iY:VA)(iG:V):M Fl:=
 ((((d8 iY).d fun v=>((jo v).d fun _=>(((((d8 i9).d fun v=>(((((d8 iY).d fun v=>(pU [v])).d fun vs=>(E9 vs)).d fun a=>((((d8 i9).d fun v=>(pU [v])).d fun vs=>(E9 vs)).d fun b=>(j4 .Mod a b))).d fun k=>(fc v k))).d fun a=>((E9 [iG]).d fun b=>(j4 .Mod a b))).d fun v=>(pU [v])).d fun vs=>(fQ v vs)))).d fun _=>pU ()).d fun _=>(Br iY iG))
def DN:List VA→List V→M V:=AD 1 fun cs vs=>match cs,vs with
 | [i9,iY], [iG]=>rS i9 iY iG
 |_,_=>fL
theorem LJ(A:wt g P):CC g 3 0 DN:=by
 have G:=A.ok
 have hK:=A.hK
 refine rp (k:=2) (n:=1) (D:=ON) (xU:= [2,1]) G A.d0 OO fun cl doc pm ct c L a cs vs hc hl=>?_
 match cs,vs,hc,hl with
 | [i9,iY], [iG],_,_=>
  exact(ay (SX.conv (cG (kE (kZ 1) (ag (sk (gK G (kZ 2) (sk (CK (B8 G hK 3) xI (ag (kZ 1) ax)) (CK (B8 G hK 3) xI (ag (kZ 2) ax)))) (CK (B8 G hK 3) xI (ag (ab 0) ax))) ax)))) (SS.conv (dY (gK G (ab 0) (gK G (kZ 1) Mm)))))
abbrev zV(fp:V):M Fl:=(((aE fp .caller).d fun v=>(bb v .wake .none)).d fun _=>(pU (.ret fp)))
abbrev zW(fp:V):M Fl:=(((aE fp .caller).d fun v=>(bb v .state (.str "meeting"))).d fun _=>(zV fp))
abbrev zX(aH fp:V):M Fl:=(((((aE aH .eO).d fun v=>(pU [v,fp])).d fun vs=>(lV vs)).d fun _=>pU ()).d fun _=>((bb fp .state (.str "served")).d fun _=>(zW fp)))
abbrev zY(fp aH:V):M Fl:=((aX .Is fp .none).d fun c=>(bif c then fL else nX).cy (fun _=>(zX aH fp)))
def vp(aH km:V):M Fl:=
 ((aE aH .entries).d fun src=>(forL src (fun pd _=>((((aE aH .eO).d fun v=>(pU [v,pd])).d fun vs=>(rB vs)).d fun src=>(forL src (fun tN _=>((((M.tO km).d fun _=>(vc 2 ru km [tN])).d fun v=>(bV v)).d fun c=>(bif c then((((aE aH .eO).d fun v=>(pU [v,tN])).d fun vs=>(pZ vs)).d fun fp=>(zY fp aH)) else nX).cy (fun _=>nX))) []).cy (fun _=>nX))) []).cy (fun _=>(pU (.ret .none))))
def lW:List V→M V:=jh 2 fun vs=>match vs with
 | [aH,km]=>vp aH km
 |_=>fL
theorem AJ(A:wt g P):CS g 9 291 lW:=by
 have G:=A.ok
 have hK:=A.hK
 exact bl G hK rfl (by walk_at "c") fun _ aH km=>(og 2 (fun _=> [(0,aH),(1,km)]) [] rfl (.inl rfl) (SE.conv (aL G .entries (ab 0))) ⟨rfl,rfl,trivial⟩ (fun pd _=>(og 3 (fun _=> [(0,aH),(1,km),(2,pd)]) [] rfl (.inl rfl) (SE.conv (dF G hK 5 19 (EG G hK) (ag (aL G .eO (ab 0)) (ag (ab 2) ax)))) ⟨rfl,rfl,rfl,trivial⟩ (fun tN _=>(fy (fun _=> [(0,aH),(1,km),(2,pd),(3,tN)]) (SB.conv (cR (Rg (ab 1) (Kn A) (ag (ab 3) ax)))) (cx 4 rfl (SE.conv (dF G hK 6 16 (Cz G hK) (ag (aL G .eO (ab 0)) (ag (ab 3) ax)))) fun fp=>(fy (fun _=> [(0,aH),(1,km),(2,pd),(3,tN),(4,fp)]) (SB.conv (cz (ab 4) bO)) cC (aV [] ⟨rfl,rfl,rfl,rfl,rfl,trivial⟩) (fun _=>(ay (SX.conv (cG (dF G hK 7 15 (tH G hK) (ag (aL G .eO (ab 0)) (ag (ab 4) ax))))) (ay (SX.conv (aN G .state (iM G hK (.str "served") 8 11) (ab 4))) (ay (SX.conv (aN G .state (iM G hK (.str "meeting") 9 29) (aL G .caller (ab 4)))) (ay (SX.conv (aN G .wake bO (aL G .caller (ab 4)))) (SS.conv (dY (ab 4)))))))))) (aV [] ⟨rfl,rfl,rfl,rfl,trivial⟩) (fun _=>(aV [] ⟨rfl,rfl,rfl,trivial⟩)))) (fun _=>(aV [] ⟨rfl,rfl,trivial⟩)))) (fun _=>(SS.conv (dY bO))))
abbrev yp(iG lE:V):M Fl:=((pU iG).d fun src=>(forL src (fun uB _=>(((aE uB .number).d fun a=>((aE lE .number).d fun b=>(aX .Eq a b))).d fun c=>(bif c then(pU (.ret uB)) else nX).cy (fun _=>nX))) []).cy (fun _=>fL))
def tZ(ae iG:V):M Fl:=
 (((aE ae .choose).d fun f=>(M.tO f).d fun _=>(vc 0 DN f [iG])).d fun lE=>(yp iG lE))
def nR:List V→M V:=jh 2 fun vs=>match vs with
 | [ae,iG]=>tZ ae iG
 |_=>fL
theorem zB(A:wt g P):CS g 6 582 nR:=by
 have G:=A.ok
 have hK:=A.hK
 exact bl G hK rfl (by walk_at "c") fun _ ae iG=>(cx 2 rfl (SE.conv (JL G .choose (ab 0) (LJ A) (ag (ab 1) ax))) fun lE=>(og 3 (fun _=> [(0,ae),(1,iG),(2,lE)]) [] rfl (.inl rfl) (SE.conv (ab 1)) ⟨rfl,rfl,rfl,trivial⟩ (fun uB _=>(fy (fun _=> [(0,ae),(1,iG),(2,lE),(3,uB)]) (SB.conv (cz (aL G .number (ab 3)) (aL G .number (ab 2)))) (SS.conv (dY (ab 3))) (aV [] ⟨rfl,rfl,rfl,rfl,trivial⟩) (fun _=>(aV [] ⟨rfl,rfl,rfl,trivial⟩)))) (fun _=>cC)))
abbrev C8(dE:VA)(mW:V):M Fl:=((aX .IsNot mW .none).d fun c=>(bif c then(((((d8 dE).d fun v=>(pU [v,mW])).d fun vs=>(oi vs)).d fun _=>pU ()).d fun _=>nX) else(((((((d8 dE).d fun v=>(itemF v .gX)).d fun v=>(pU [v])).d fun vs=>(jA vs)).d fun v=>(bV v)).d fun c=>pU (!c)).d fun c=>(bif c then(pU (.ret .none)) else nX).cy (fun _=>nX))).cy (fun _=>nX))
def y7(ak:V):M Fl:=
 ((r0 ak).d fun dE=>oF ((qy (fun _=>(bV (.bool true))) (fun _=>(((((d8 dE).d fun v=>(itemF v .gX)).d fun v=>(pU [v,(.iC 2 [dE])])).d fun vs=>(lW vs)).d fun mW=>(C8 dE mW))) []).cy (fun _=>fL)))
def j6:List V→M V:=jh 1 fun vs=>match vs with
 | [ak]=>y7 ak
 |_=>fL
theorem rE(A:wt g P):CS g 11 639 j6:=by
 have G:=A.ok
 have hK:=A.hK
 exact bl G hK rfl (by walk_at "c") fun _ ak=>(An 0 [] rfl rfl rfl trivial rfl fun dE=>(ND G A.D q2 A.t2 rfl rfl (by kernel_rfl) 2 A.d2 1 rfl [dE] (by kernel_rfl) rfl (wX ⟨0,.cell,rfl,rfl⟩ EO) rfl rfl rfl (rY (fun _=> [(1,(.iC 2 [dE]))]) [] ⟨rfl,trivial⟩ (fun _=>(SB.conv (cR eZ))) (fun _=>(cx 2 rfl (SE.conv (dF G hK 3 58 (AJ A) (ag (bo .gX (kZ 0)) (ag (ab 1) ax)))) fun mW=>(fy (fun _=> [(1,(.iC 2 [dE])),(2,mW)]) (SB.conv (cz (ab 2) bO)) (ay (SX.conv (cG (dF G hK 4 102 (wD G hK) (ag (kZ 0) (ag (ab 2) ax))))) (aV [] ⟨rfl,rfl,trivial⟩)) (fy (fun _=> [(1,(.iC 2 [dE])),(2,mW)]) (SB.conv (tu (cR (dF G hK 5 61 (sM G hK) (ag (bo .gX (kZ 0)) ax))))) Fw (aV [] ⟨rfl,rfl,trivial⟩) (fun _=>(aV [] ⟨rfl,rfl,trivial⟩))) (fun _=>(aV [] ⟨rfl,trivial⟩))))) (fun _=>cC))))
def ua(dE:VA)(I2:V):M Fl:=
 (((((d8 dE).d fun v=>(pU [v])).d fun vs=>(j6 vs)).d fun _=>pU ()).d fun _=>nX)
def Gj:List VA→List V→M V:=AD 1 fun cs vs=>match cs,vs with
 | [dE], [I2]=>ua dE I2
 |_,_=>fL
theorem OA(A:wt g P):CC g 12 1 Gj:=by
 have G:=A.ok
 have hK:=A.hK
 refine rp (k:=11) (n:=1) (D:=OP) (xU:= [1]) G A.d1 OQ fun cl doc pm ct c L a cs vs hc hl=>?_
 match cs,vs,hc,hl with
 | [dE], [I2],_,_=>
  exact(ay (SX.conv (cG (dF G hK 2 103 (rE A) (ag (kZ 1) ax)))) (aV [] trivial))
abbrev Bw(hG:V):M Fl:=((((dB 14).d fun x=>lL x []).d fun b=>((aX .NotEq hG b).d fun c=>pU (.bool c))).d fun v=>(pU (.ret v)))
abbrev Bx(hG ae:V):M Fl:=((pU hG).d fun src=>(forL src (fun A5 _=>((((aE ae .serve).d fun f=>(M.tO f).d fun _=>(vc 1 Gj f [A5])).d fun _=>pU ()).d fun _=>nX)) []).cy (fun _=>(Bw hG)))
abbrev By(ae hG:V):M Fl:=(((aE ae .serve).d fun a=>(aX .Is a .none)).d fun c=>(bif c then(pU (.ret (.bool false))) else nX).cy (fun _=>(Bx hG ae)))
abbrev Bz(ae hG:V):M Fl:=((((dB 14).d fun x=>lL x []).d fun u=>(bb ae .dN u)).d fun _=>(By ae hG))
def xk(ae:V):M Fl:=
 ((aE ae .dN).d fun hG=>(Bz ae hG))
def qc:List V→M V:=jh 1 fun vs=>match vs with
 | [ae]=>xk ae
 |_=>fL
theorem CD(A:wt g P):CS g 17 575 qc:=by
 have G:=A.ok
 have hK:=A.hK
 exact bl G hK rfl (by walk_at "c") fun _ ae=>(cx 1 rfl (SE.conv (aL G .dN (ab 0))) fun hG=>(ay (SX.conv (aN G .dN (jl (dB 14) (cO 14) ax) (ab 0))) (fy (fun _=> [(0,ae),(1,hG)]) (SB.conv (cz (aL G .serve (ab 0)) bO)) (SS.conv (dY eZ)) (aV [] ⟨rfl,rfl,trivial⟩) (fun _=>(og 2 (fun _=> [(0,ae),(1,hG)]) [] rfl (.inl rfl) (SE.conv (ab 1)) ⟨rfl,rfl,trivial⟩ (fun A5 _=>(ay (SX.conv (cG (JL G .serve (ab 0) (OA A) (ag (ab 2) ax)))) (aV [] ⟨rfl,rfl,trivial⟩))) (fun _=>(SS.conv (dY (kF (ab 1) (jl (dB 14) (cO 14) ax))))))))))
abbrev Dq(ae:V):M Fl:=(((mQ [ae]).d fun a=>((df []).d fun b=>(aX .Eq a b))).d fun c=>(bif c then(pU (.ret .none)) else nX).cy (fun _=>(((rA [ae]).d fun _=>pU ()).d fun _=>nX)))
abbrev Dr(lg ae:V):M Fl:=((bV lg).d fun c=>(bif c then((nR [ae,lg]).d fun v=>(pU (.ret v))) else nX).cy (fun _=>(Dq ae)))
abbrev Ds(ae:V):M Fl:=((oX [ae]).d fun lg=>(Dr lg ae))
abbrev Dt(ae:V):M Fl:=((qy (fun _=>(testM .Or [((tB [ae]).d fun v=>(bV v)),((qc [ae]).d fun v=>(bV v))])) (fun _=>(((kT [ae]).d fun _=>pU ()).d fun _=>nX)) []).cy (fun _=>(Ds ae)))
def zg(ae:V):M Fl:=
 ((qy (fun _=>(bV (.bool true))) (fun _=>(((kT [ae]).d fun _=>pU ()).d fun _=>(Dt ae))) []).cy (fun _=>fL))
def jj:List V→M V:=jh 1 fun vs=>match vs with
 | [ae]=>zg ae
 |_=>fL
theorem wM(A:wt g P):CS g 18 589 jj:=by
 have G:=A.ok
 have hK:=A.hK
 exact bl G hK rfl (by walk_at "c") fun _ ae=>(rY (fun _=> [(0,ae)]) [] ⟨rfl,trivial⟩ (fun _=>(SB.conv (cR eZ))) (fun _=>(ay (SX.conv (cG (dF G hK 2 83 (sg G hK) (ag (ab 0) ax)))) (rY (fun _=> [(0,ae)]) [] ⟨rfl,trivial⟩ (fun _=>(SB.conv (cL (.cons (cR (dF G hK 3 88 (Gr G hK) (ag (ab 0) ax))) (.cons (cR (dF G hK 4 89 (CD A) (ag (ab 0) ax))) .nil))))) (fun _=>(ay (SX.conv (cG (dF G hK 2 83 (sg G hK) (ag (ab 0) ax)))) (aV [] ⟨rfl,trivial⟩))) (fun _=>(cx 1 rfl (SE.conv (dF G hK 5 85 (AK G hK) (ag (ab 0) ax))) fun lg=>(fy (fun _=> [(0,ae),(1,lg)]) (SB.conv (cR (ab 1))) (SS.conv (dY (dF G hK 6 90 (zB A) (ag (ab 0) (ag (ab 1) ax))))) (aV [] ⟨rfl,rfl,trivial⟩) (fun _=>(fy (fun _=> [(0,ae),(1,lg)]) (SB.conv (cz (dF G hK 7 86 (xP G hK) (ag (ab 0) ax)) (ee ax))) (SS.conv (dY bO)) (aV [] ⟨rfl,rfl,trivial⟩) (fun _=>(ay (SX.conv (cG (dF G hK 8 87 (EF G hK) (ag (ab 0) ax)))) (aV [] ⟨rfl,trivial⟩))))))))))) (fun _=>cC))
abbrev Bc(dk ak bD:V):M Fl:=(((itemF dk .bZ).d fun a=>(aX .Eq a (.str "else"))).d fun c=>(bif c then((((itemF ak .line).d fun src=>(fW 12 src (fun dP=>testM .And [(aX .NotEq dP bD)]) (fun dP=>(pU dP)))).d fun u=>(b0 ak .line u)).d fun _=>nX) else nX).cy (fun _=>nX))
abbrev Bd(ak ao dk bD:V):M Fl:=(((((itemF ak .gX).d fun v=>(pU [v,ao])).d fun vs=>(j7 vs)).d fun _=>pU ()).d fun _=>(Bc dk ak bD))
abbrev Be(ak ao dk bD:V):M Fl:=(((j6 [ak]).d fun _=>pU ()).d fun _=>(Bd ak ao dk bD))
abbrev Bf(ak iD bD dk ao:V):M Fl:=(((kS [ak,iD]).d fun v=>(bV v)).d fun c=>(bif c then((((((((itemF ak .iW).d fun v=>(((itemF ak .gX).d fun v=>(((((df [bD]).d fun v=>(((itemF dk .bZ).d fun v=>(pU [v])).d fun vs=>(pU (v::vs)))).d fun vs=>(pU (iD::vs))).d fun vs=>(pU (ao::vs))).d fun vs=>(pU (v::vs)))).d fun vs=>(pU (v::vs)))).d fun vs=>(jF vs)).d fun v=>(pU [v])).d fun vs=>(pU (ak::vs))).d fun vs=>(oi vs)).d fun _=>pU ()).d fun _=>nX) else(((((itemF ak .iW).d fun v=>(((itemF ak .gX).d fun v=>(((((df [bD]).d fun v=>(((itemF dk .bZ).d fun v=>(pU [v])).d fun vs=>(pU (v::vs)))).d fun vs=>(pU (iD::vs))).d fun vs=>(pU (ao::vs))).d fun vs=>(pU (v::vs)))).d fun vs=>(pU (v::vs)))).d fun vs=>(fK vs)).d fun _=>pU ()).d fun _=>nX)).cy (fun _=>(Be ak ao dk bD)))
abbrev Bg(ak ao iD bD dk:V):M Fl:=(((((itemF ak .gX).d fun v=>(pU [v,ao,(.bool true)])).d fun vs=>(nz vs)).d fun _=>pU ()).d fun _=>(Bf ak iD bD dk ao))
abbrev Bh(ak bD ao iD dk:V):M Fl:=((((itemF ak .line).d fun v=>((jo v).d fun _=>(fQ v [bD]))).d fun _=>pU ()).d fun _=>(Bg ak ao iD bD dk))
abbrev Bi(ak dk tS bD ao:V):M Fl:=(((itemF ak .fY).d fun a=>(aX .Lt a (.int 2))).d fun c=>(bif c then((((itemF dk .cJ).d fun v=>(bV v)).d fun c=>bif c then(pU (.tup [(.str "write"),.none])) else(pU (.tup [(.str "read"),.none]))).d fun tT=>(pU (.next [tT]))) else(pU (.next [tS]))).cy (fun vs=>match vs with| [iD]=>(Bh ak bD ao iD dk)|_=>fL))
abbrev Bj(ak dk bD ao:V):M Fl:=((pU (.tup [(.str "come"),.none])).d fun tS=>(Bi ak dk tS bD ao))
def xd(ak ao bD:V):M Fl:=
 (((itemF ak .ip).d fun v=>(fc v bD)).d fun dk=>(Bj ak dk bD ao))
def jt:List V→M V:=jh 3 fun vs=>match vs with
 | [ak,ao,bD]=>xd ak ao bD
 |_=>fL
theorem Cw(A:wt g P):CS g 12 644 jt:=by
 have G:=A.ok
 have hK:=A.hK
 exact bl G hK rfl (by walk_at "c") fun _ ak ao bD=>(cx 3 rfl (SE.conv (gK G (bo .ip (ab 0)) (ab 2))) fun dk=>(cx 4 rfl (SE.conv (iM G hK (.tup [(.str "come"),.none]) 5 92)) fun tS=>(fy (fun vs=>match vs with| [iD]=> [(0,ak),(1,ao),(2,bD),(3,dk),(4,iD)] |_=> []) (SB.conv (cz (bo .fY (ab 0)) dw)) (cx 4 rfl (SE.conv (ow (cR (bo .cJ (ab 3))) (iM G hK (.tup [(.str "write"),.none]) 6 95) (iM G hK (.tup [(.str "read"),.none]) 7 94))) fun tT=>(aV [tT] ⟨rfl,rfl,rfl,rfl,rfl,trivial⟩)) (aV [tS] ⟨rfl,rfl,rfl,rfl,rfl,trivial⟩) (fun vs=>match vs with| [iD]=>(ay (SX.conv (cG (kE (bo .line (ab 0)) (ag (ab 2) ax)))) (ay (SX.conv (cG (dF G hK 8 51 (yT G hK) (ag (bo .gX (ab 0)) (ag (ab 1) (ag eZ ax)))))) (fy (fun _=> [(0,ak),(1,ao),(2,bD),(3,dk),(4,iD)]) (SB.conv (cR (dF G hK 9 101 (r9 G hK) (ag (ab 0) (ag (ab 4) ax))))) (ay (SX.conv (cG (dF G hK 10 102 (wD G hK) (ag (ab 0) (ag (dF G hK 11 55 (wH G hK) (ag (bo .iW (ab 0)) (ag (bo .gX (ab 0)) (ag (ab 1) (ag (ab 4) (ag (ee (ag (ab 2) ax)) (ag (bo .bZ (ab 3)) ax))))))) ax))))) (aV [] ⟨rfl,rfl,rfl,rfl,rfl,trivial⟩)) (ay (SX.conv (cG (dF G hK 12 56 (vI G hK) (ag (bo .iW (ab 0)) (ag (bo .gX (ab 0)) (ag (ab 1) (ag (ab 4) (ag (ee (ag (ab 2) ax)) (ag (bo .bZ (ab 3)) ax))))))))) (aV [] ⟨rfl,rfl,rfl,rfl,rfl,trivial⟩)) (fun _=>(ay (SX.conv (cG (dF G hK 13 103 (rE A) (ag (ab 0) ax)))) (ay (SX.conv (cG (dF G hK 14 52 (wJ G hK) (ag (bo .gX (ab 0)) (ag (ab 1) ax))))) (fy (fun _=> [(0,ak),(1,ao),(2,bD),(3,dk),(4,iD)]) (SB.conv (cz (bo .bZ (ab 3)) jS)) (ay (SX.conv (mH .line (md (tg:=12) 1 [(2,2)] [(2,bD)] (bo .line (ab 0)) rfl (by kernel_rfl) (by kernel_rfl) ⟨⟨_,rfl⟩,⟨_,rfl,rfl⟩,trivial⟩ rfl rfl (fun C dP=>(.cons (cz (ab 1 (aI rfl (by simp))) (ab 2 (dO rfl))) .nil)) (fun C dP=>(ab 1 (aI rfl (by simp))))) (ab 0))) (aV [] ⟨rfl,rfl,rfl,rfl,rfl,trivial⟩)) (aV [] ⟨rfl,rfl,rfl,rfl,rfl,trivial⟩) (fun _=>(aV [] trivial)))))))))| []=>cC|_::_::_=>cC))))
abbrev zN(ak ao:V):M Fl:=(((((itemF ak .gX).d fun v=>(pU [v,ao])).d fun vs=>(j7 vs)).d fun _=>pU ()).d fun _=>nX)
abbrev zO(ak ao:V):M Fl:=(((j6 [ak]).d fun _=>pU ()).d fun _=>(zN ak ao))
abbrev zP(ak bD ao:V):M Fl:=((((itemF ak .within).d fun src=>(fW 13 src (fun dP=>testM .And [(aX .NotEq dP bD)]) (fun dP=>(pU dP)))).d fun u=>(b0 ak .within u)).d fun _=>(zO ak ao))
def vi(ak ao bD:V):M Fl:=
 (((((itemF ak .gX).d fun v=>(pU [v,ao,(.bool true)])).d fun vs=>(nz vs)).d fun _=>pU ()).d fun _=>(zP ak bD ao))
def lQ:List V→M V:=jh 3 fun vs=>match vs with
 | [ak,ao,bD]=>vi ak ao bD
 |_=>fL
theorem AH(A:wt g P):CS g 12 649 lQ:=by
 have G:=A.ok
 have hK:=A.hK
 exact bl G hK rfl (by walk_at "c") fun _ ak ao bD=>(ay (SX.conv (cG (dF G hK 3 51 (yT G hK) (ag (bo .gX (ab 0)) (ag (ab 1) (ag eZ ax)))))) (ay (SX.conv (mH .within (md (tg:=13) 1 [(2,2)] [(2,bD)] (bo .within (ab 0)) rfl (by kernel_rfl) (by kernel_rfl) ⟨⟨_,rfl⟩,⟨_,rfl,rfl⟩,trivial⟩ rfl rfl (fun C dP=>(.cons (cz (ab 1 (aI rfl (by simp))) (ab 2 (dO rfl))) .nil)) (fun C dP=>(ab 1 (aI rfl (by simp))))) (ab 0))) (ay (SX.conv (cG (dF G hK 4 103 (rE A) (ag (ab 0) ax)))) (ay (SX.conv (cG (dF G hK 5 52 (wJ G hK) (ag (bo .gX (ab 0)) (ag (ab 1) ax))))) (aV [] trivial)))))
abbrev CY(ak ao bD:V):M Fl:=(((jt [ak,ao,bD]).d fun _=>pU ()).d fun _=>nX)
abbrev CZ(aM dx ak ao bD:V):M Fl:=(((itemF aM .bZ).d fun a=>(aX .IsNot a .none)).d fun c=>(bif c then((((((itemF aM .bZ).d fun a=>(aX .Eq a (.str "else"))).d fun c=>bif c then(pU (.int 1)) else(itemF aM .bZ)).d fun b=>(j4 .Add dx b)).d fun u=>(b0 aM .jG u)).d fun _=>nX) else nX).cy (fun _=>(CY ak ao bD)))
abbrev C0(aM dx ak ao bD:V):M Fl:=((b0 aM .since dx).d fun _=>(CZ aM dx ak ao bD))
abbrev C1(ak bD:V):M Fl:=((mL .And [((itemF ak .within).d fun b=>((FZ bD b).d fun c=>pU (.bool c))),((itemF ak .line).d fun b=>((FZ bD b).d fun c=>pU (.bool (!c))))]).d fun v=>(pU (.ret v)))
abbrev C2(aM dx bD ao ak:V):M Fl:=((mL .Or [((itemF aM .bc).d fun a=>((aX .Eq a (.int 5)).d fun c=>pU (.bool c))),(((((((itemF aM .since).d fun b=>(j4 .Sub dx b)).d fun v=>(pU [v])).d fun vs=>(pU (bD::vs))).d fun vs=>(pU (ao::vs))).d fun vs=>(pU (ak::vs))).d fun vs=>(fR vs))]).d fun v=>(pU (.ret v)))
abbrev C3(aM ao cB dx ak bD:V):M Fl:=((testM .And [((itemF aM .bc).d fun a=>(aX .Eq a (.int 1))),((itemF aM .rest).d fun a=>(aX .Gt a (.int 0)))]).d fun c=>(bif c then(((((((itemF aM .rest).d fun v=>(pU [v])).d fun vs=>(pU (ao::vs))).d fun vs=>(pU (cB::vs))).d fun vs=>(iL vs)).d fun _=>pU ()).d fun _=>nX) else(((itemF aM .bc).d fun a=>(aX .Lt a (.int 3))).d fun c=>(bif c then((b0 aM .bc (.int 2)).d fun _=>(C0 aM dx ak ao bD)) else((testM .And [((itemF aM .bc).d fun a=>(aX .Eq a (.int 3))),((aE ao .answer).d fun a=>((iE [(.str "called")]).d fun b=>(aX .Eq a b)))]).d fun c=>(bif c then(((((((itemF aM .gO).d fun v=>(pU [v])).d fun vs=>(pU (ao::vs))).d fun vs=>(pU (cB::vs))).d fun vs=>(iL vs)).d fun _=>pU ()).d fun _=>(C1 ak bD)) else(((itemF aM .bc).d fun a=>(aX .Eq a (.int 4))).d fun c=>(bif c then(((lQ [ak,ao,bD]).d fun _=>pU ()).d fun _=>nX) else(((i3 [ao]).d fun _=>pU ()).d fun _=>(C2 aM dx bD ao ak))).cy (fun _=>nX))).cy (fun _=>nX))).cy (fun _=>nX))).cy (fun _=>(pU (.ret (.bool true)))))
abbrev C4(ao aM cB dx ak bD:V):M Fl:=(((aE ao .raised).d fun a=>(aX .IsNot a .none)).d fun c=>(bif c then(pU (.ret (.bool false))) else nX).cy (fun _=>(C3 aM ao cB dx ak bD)))
abbrev C5(aM ao cB dx ak bD:V):M Fl:=(((itemF aM .bc).d fun old=>((j4 .Add old (.int 1)).d fun u=>b0 aM .bc u)).d fun _=>(C4 ao aM cB dx ak bD))
abbrev C6(ak bD ao cB dx:V):M Fl:=(((itemF ak .ip).d fun v=>(fc v bD)).d fun aM=>(C5 aM ao cB dx ak bD))
abbrev Bk(cB ak bD ao:V):M Fl:=(((aE cB .lB).d fun v=>(aE v .now)).d fun dx=>(C6 ak bD ao cB dx))
def y5(ak ao bD:V):M Fl:=
 ((itemF ak .iW).d fun cB=>(Bk cB ak bD ao))
def j5:List V→M V:=jh 3 fun vs=>match vs with
 | [ak,ao,bD]=>y5 ak ao bD
 |_=>fL
theorem Ez(A:wt g P):CS g 13 661 j5:=by
 have G:=A.ok
 have hK:=A.hK
 exact bl G hK rfl (by walk_at "c") fun _ ak ao bD=>(cx 3 rfl (SE.conv (bo .iW (ab 0))) fun cB=>(cx 4 rfl (SE.conv (aL G .now (aL G .lB (ab 3)))) fun dx=>(cx 5 rfl (SE.conv (gK G (bo .ip (ab 0)) (ab 2))) fun aM=>(ay (SX.conv (Sq .bc (ab 5) dw (.inl rfl))) (fy (fun _=> [(0,ak),(1,ao),(2,bD),(3,cB),(4,dx),(5,aM)]) (SB.conv (cz (aL G .raised (ab 1)) bO)) (SS.conv (dY eZ)) (aV [] ⟨rfl,rfl,rfl,rfl,rfl,rfl,trivial⟩) (fun _=>(fy (fun _=> [(0,ak),(1,ao),(2,bD),(3,cB),(4,dx),(5,aM)]) (SB.conv (cL (.cons (cz (bo .bc (ab 5)) dw) (.cons (cz (bo .rest (ab 5)) dw) .nil)))) (ay (SX.conv (cG (dF G hK 6 46 (vd G hK) (ag (ab 3) (ag (ab 1) (ag (bo .rest (ab 5)) ax)))))) (aV [] ⟨rfl,rfl,rfl,rfl,rfl,rfl,trivial⟩)) (fy (fun _=> [(0,ak),(1,ao),(2,bD),(3,cB),(4,dx),(5,aM)]) (SB.conv (cz (bo .bc (ab 5)) dw)) (ay (SX.conv (mH .bc dw (ab 5))) (ay (SX.conv (mH .since (ab 4) (ab 5))) (fy (fun _=> [(0,ak),(1,ao),(2,bD),(3,cB),(4,dx),(5,aM)]) (SB.conv (cz (bo .bZ (ab 5)) bO)) (ay (SX.conv (mH .jG (sk (ab 4) (ow (cz (bo .bZ (ab 5)) jS) dw (bo .bZ (ab 5)))) (ab 5))) (aV [] ⟨rfl,rfl,rfl,rfl,rfl,rfl,trivial⟩)) (aV [] ⟨rfl,rfl,rfl,rfl,rfl,rfl,trivial⟩) (fun _=>(ay (SX.conv (cG (dF G hK 7 104 (Cw A) (ag (ab 0) (ag (ab 1) (ag (ab 2) ax)))))) (aV [] ⟨rfl,rfl,rfl,rfl,rfl,rfl,trivial⟩)))))) (fy (fun _=> [(0,ak),(1,ao),(2,bD),(3,cB),(4,dx),(5,aM)]) (SB.conv (cL (.cons (cz (bo .bc (ab 5)) dw) (.cons (cz (aL G .answer (ab 1)) (iU (ag jS ax))) .nil)))) (ay (SX.conv (cG (dF G hK 6 46 (vd G hK) (ag (ab 3) (ag (ab 1) (ag (bo .gO (ab 5)) ax)))))) (SS.conv (dY (jR (.cons (VJ G (ab 2) (bo .within (ab 0))) (.cons (OZ G (ab 2) (bo .line (ab 0))) .nil)))))) (fy (fun _=> [(0,ak),(1,ao),(2,bD),(3,cB),(4,dx),(5,aM)]) (SB.conv (cz (bo .bc (ab 5)) dw)) (ay (SX.conv (cG (dF G hK 8 105 (AH A) (ag (ab 0) (ag (ab 1) (ag (ab 2) ax)))))) (aV [] ⟨rfl,rfl,rfl,rfl,rfl,rfl,trivial⟩)) (ay (SX.conv (cG (dF G hK 9 73 (xN G hK) (ag (ab 1) ax)))) (SS.conv (dY (jR (.cons (kF (bo .bc (ab 5)) dw) (.cons (dF G hK 10 106 (Cx G hK) (ag (ab 0) (ag (ab 1) (ag (ab 2) (ag (sk (ab 4) (bo .since (ab 5))) ax))))) .nil)))))) (fun _=>(aV [] ⟨rfl,rfl,rfl,rfl,rfl,rfl,trivial⟩))) (fun _=>(aV [] ⟨rfl,rfl,rfl,rfl,rfl,rfl,trivial⟩))) (fun _=>(aV [] ⟨rfl,rfl,rfl,rfl,rfl,rfl,trivial⟩))) (fun _=>(SS.conv (dY eZ))))))))))
abbrev yb(ak eN mh qV eB:V):M Fl:=((testM .And [((itemF ak .fY).d fun a=>(aX .Lt a (.int 2))),((xK eN (fun mC pM=>testM .And [(aX .Eq mC mh)]) (fun mC pM=>(pU pM)) (fun mC pM hZ=>(pU hZ))).d fun b=>(aX .NotEq qV b))]).d fun c=>(bif c then(pU (.ret (.bool false))) else nX).cy (fun _=>((joinM eB qV).d fun yw=>(pU (.next [yw])))))
abbrev yd(ak mh eN eB:V):M Fl:=(((((itemF ak .gX).d fun v=>(aE v .eO)).d fun v=>((tC v).d fun _=>((((df []).d fun v=>(pU [v])).d fun vs=>(pU (mh::vs))).d fun vs=>(wQ v vs)))).d fun src=>(fW 9 src (fun mB=>testM .And []) (fun mB=>((aE mB .values).d fun v=>(fc v (.int 0)))))).d fun qV=>(yb ak eN mh qV eB))
abbrev ye(eB c7 kj:V):M Fl:=((aX .NotEq eB c7).d fun c=>(bif c then(pU (.ret (.bool false))) else nX).cy (fun _=>(pU (.next [kj]))))
abbrev yf(fT ak cM:V):M Fl:=((testM .And [((df []).d fun b=>(aX .NotEq fT b)),(((eE [ak]).d fun v=>(bV v)).d fun c=>pU (!c)),(testM .Or [((itemF ak .fY).d fun a=>(aX .NotEq a (.int 1))),((df []).d fun b=>(aX .Eq cM b))])]).d fun c=>(bif c then(pU (.ret (.bool false))) else nX).cy (fun _=>((itemF ak .fX).d fun v=>(pU (.ret v)))))
abbrev yg(c7 ak fT cM:V):M Fl:=((testM .And [((df []).d fun b=>(aX .NotEq c7 b)),((itemF ak .within).d fun a=>((df []).d fun b=>(aX .Eq a b)))]).d fun c=>(bif c then(pU (.ret (.bool false))) else nX).cy (fun _=>(yf fT ak cM)))
abbrev yh(ak c7 eB dQ cM:V):M Fl:=(((itemF ak .fY).d fun a=>(aX .Eq a (.int 2))).d fun c=>(bif c then(((BZ c7).d fun src=>(fW 9 src (fun hZ=>testM .And [(((eF [ak,hZ]).d fun v=>(bV v)).d fun c=>pU (!c))]) (fun hZ=>(pU hZ)))).d fun kj=>(ye eB c7 kj)) else(pU (.next [dQ]))).cy (fun vs=>match vs with| [fT]=>(yg c7 ak fT cM)|_=>fL))
abbrev yi(ak eN qU c7 dQ cM:V):M Fl:=((iE [(.tup [(.str "wait"),.none]),(.tup [(.str "come"),.none]),(.tup [(.str "read"),.none]),(.tup [(.str "write"),.none])]).d fun src=>(forL src (fun mh vs=>match vs with| [eB]=>(yd ak mh eN eB)|_=>fL) [qU]).cy (fun vs=>match vs with| [eB]=>(yh ak c7 eB dQ cM)|_=>fL))
abbrev yj(ak eN c7 dQ cM:V):M Fl:=((df []).d fun qU=>(yi ak eN qU c7 dQ cM))
abbrev yk(dQ cM ak c7:V):M Fl:=((((iE [(.tup [(.str "read"),.none]),dQ]).d fun v=>(((iE [(.tup [(.str "write"),.none]),cM]).d fun v=>(pU [v])).d fun vs=>(pU (v::vs)))).d fun vs=>(df vs)).d fun eN=>(yj ak eN c7 dQ cM))
abbrev w0(c7 ak dQ:V):M Fl:=((fW 9 c7 (fun hZ=>testM .And [((eF [ak,hZ]).d fun v=>(bV v))]) (fun hZ=>(pU hZ))).d fun cM=>(yk dQ cM ak c7))
abbrev w1(c7 ak:V):M Fl:=((fW 9 c7 (fun hZ=>testM .And [(((eF [ak,hZ]).d fun v=>(bV v)).d fun c=>pU (!c))]) (fun hZ=>(pU hZ))).d fun dQ=>(w0 c7 ak dQ))
def tX(ak:V):M Fl:=
 ((lR [ak]).d fun c7=>(w1 c7 ak))
def jn:List V→M V:=jh 1 fun vs=>match vs with
 | [ak]=>tX ak
 |_=>fL
theorem zA(A:wt g P):CS g 3 666 jn:=by
 have G:=A.ok
 have hK:=A.hK
 exact bl G hK rfl (by walk_at "c") fun _ ak=>(cx 1 rfl (SE.conv (dF G hK 8 99 (wF G hK) (ag (ab 0) ax))) fun c7=>(gW (tg:=9) 2 1 [(3,0)] [(3,ak)] rfl (ab 1) rfl (by kernel_rfl) (by kernel_rfl) ⟨⟨_,rfl⟩,⟨_,rfl,rfl⟩,trivial⟩ rfl rfl (fun C hZ=>(.cons (tu (cR (dF G hK 2 98 (i4 G hK) (ag (ab 3 (dO rfl)) (ag (ab 1 (aI rfl (by simp))) ax)) (aI rfl (by simp))))) .nil)) (fun C hZ=>(ab 1 (aI rfl (by simp)))) (fun dQ=>(gW (tg:=9) 3 1 [(3,0)] [(3,ak)] rfl (ab 1) rfl (by kernel_rfl) (by kernel_rfl) ⟨⟨_,rfl⟩,⟨_,rfl,rfl⟩,trivial⟩ rfl rfl (fun C hZ=>(.cons (cR (dF G hK 2 98 (i4 G hK) (ag (ab 3 (dO rfl)) (ag (ab 1 (aI rfl (by simp))) ax)) (aI rfl (by simp)))) .nil)) (fun C hZ=>(ab 1 (aI rfl (by simp)))) (fun cM=>(cx 4 rfl (SE.conv (ee (ag (iU (ag (iM G hK (.tup [(.str "read"),.none]) 9 94) (ag (ab 2) ax))) (ag (iU (ag (iM G hK (.tup [(.str "write"),.none]) 10 95) (ag (ab 3) ax))) ax)))) fun eN=>(cx 5 rfl (SE.conv (ee ax)) fun qU=>(og 6 (fun vs=>match vs with| [eB]=> [(0,ak),(1,c7),(2,dQ),(3,cM),(4,eN),(5,eB)] |_=> []) [qU] rfl (.inr ⟨rfl,rfl⟩) (SE.conv (iU (ag (iM G hK (.tup [(.str "wait"),.none]) 11 93) (ag (iM G hK (.tup [(.str "come"),.none]) 12 92) (ag (iM G hK (.tup [(.str "read"),.none]) 9 94) (ag (iM G hK (.tup [(.str "write"),.none]) 10 95) ax)))))) ⟨rfl,rfl,rfl,rfl,rfl,rfl,trivial⟩ (fun mh vs=>match vs with| [eB]=>(gW (tg:=9) 7 1 [] [] rfl (JM G (aL G .eO (bo .gX (ab 0))) (ag (ab 6) (ag (ee ax) ax))) rfl (by kernel_rfl) (by kernel_rfl) trivial rfl rfl (fun C mB=> .nil) (fun C mB=>(gK G (aL G .values (ab 1 (aI rfl (by simp)))) dw)) (fun qV=>(fy (fun _=> [(0,ak),(1,c7),(2,dQ),(3,cM),(4,eN),(5,eB),(6,mh),(7,qV)]) (SB.conv (cL (.cons (cz (bo .fY (ab 0)) dw) (.cons (cz (ab 7) (OX 1 2 3 [(4,6)] [(4,mh)] (ab 4) rfl (by kernel_rfl) (by kernel_rfl) ⟨⟨_,rfl⟩,⟨_,rfl,rfl⟩,trivial⟩ rfl rfl rfl rfl rfl rfl (by decide) (fun C mC pM=>(.cons (cz (ab 1 (aI rfl (by simp))) (ab 4 (dO rfl))) .nil)) (fun C mC pM=>(ab 2 (aI rfl (by simp)))) (fun C mC pM hZ=>(ab 3 (aI rfl (by simp)))))) .nil)))) (SS.conv (dY eZ)) (aV [] ⟨rfl,rfl,rfl,rfl,rfl,rfl,rfl,rfl,trivial⟩) (fun _=>(cx 5 rfl (SE.conv (Rm (ab 5) (ab 7))) fun yw=>(aV [yw] ⟨rfl,rfl,rfl,rfl,rfl,rfl,trivial⟩))))) (by kernel_rfl) (by kernel_rfl))| []=>cC|_::_::_=>cC) (fun vs=>match vs with| [eB]=>(fy (fun vs=>match vs with| [fT]=> [(0,ak),(1,c7),(2,fT),(3,cM),(4,eN),(5,eB)] |_=> []) (SB.conv (cz (bo .fY (ab 0)) dw)) (gW (tg:=9) 2 1 [(3,0)] [(3,ak)] rfl (JN (ab 1)) rfl (by kernel_rfl) (by kernel_rfl) ⟨⟨_,rfl⟩,⟨_,rfl,rfl⟩,trivial⟩ rfl rfl (fun C hZ=>(.cons (tu (cR (dF G hK 2 98 (i4 G hK) (ag (ab 3 (dO rfl)) (ag (ab 1 (aI rfl (by simp))) ax)) (aI rfl (by simp))))) .nil)) (fun C hZ=>(ab 1 (aI rfl (by simp)))) (fun kj=>(fy (fun _=> [(0,ak),(1,c7),(2,kj),(3,cM),(4,eN),(5,eB)]) (SB.conv (cz (ab 5) (ab 1))) (SS.conv (dY eZ)) (aV [] ⟨rfl,rfl,rfl,rfl,rfl,rfl,trivial⟩) (fun _=>(aV [kj] ⟨rfl,rfl,rfl,rfl,rfl,rfl,trivial⟩)))) (by kernel_rfl) (by kernel_rfl)) (aV [dQ] ⟨rfl,rfl,rfl,rfl,rfl,rfl,trivial⟩) (fun vs=>match vs with| [fT]=>(fy (fun _=> [(0,ak),(1,c7),(2,fT),(3,cM),(4,eN),(5,eB)]) (SB.conv (cL (.cons (cz (ab 1) (ee ax)) (.cons (cz (bo .within (ab 0)) (ee ax)) .nil)))) (SS.conv (dY eZ)) (aV [] ⟨rfl,rfl,rfl,rfl,rfl,rfl,trivial⟩) (fun _=>(fy (fun _=> [(0,ak),(1,c7),(2,fT),(3,cM),(4,eN),(5,eB)]) (SB.conv (cL (.cons (cz (ab 2) (ee ax)) (.cons (tu (cR (dF G hK 13 100 (kY G hK) (ag (ab 0) ax)))) (.cons (cL (.cons (cz (bo .fY (ab 0)) dw) (.cons (cz (ab 3) (ee ax)) .nil))) .nil))))) (SS.conv (dY eZ)) (aV [] ⟨rfl,rfl,rfl,rfl,rfl,rfl,trivial⟩) (fun _=>(SS.conv (dY (bo .fX (ab 0))))))))| []=>cC|_::_::_=>cC))| []=>cC|_::_::_=>cC))))) (by kernel_rfl) (by kernel_rfl))) (by kernel_rfl) (by kernel_rfl)))
abbrev Pg(bg dT:V):M Fl:=((((jo bg).d fun _=>(fQ bg [dT])).d fun _=>pU ()).d fun _=>nX)
abbrev Pj(dT bg:V):M Fl:=((((tC dT).d fun _=>((((pn [(.bc,(pU (.int 0))),(.since,(pU (.int 0))),(.jG,(pU .none))]).d fun fs=>(dB 3).d fun x=>u5 x (.aU (i8 [] fs))).d fun v=>(pU [v])).d fun vs=>(uO dT vs))).d fun _=>pU ()).d fun _=>(Pg bg dT))
abbrev Pk(bX bY dT bg:V):M Fl:=((((eG [bX,bY,(.int 3)]).d fun b=>(j4 .Add (.int 1) b)).d fun u=>(b0 dT .gO u)).d fun _=>(Pj dT bg))
abbrev Pl(bX bY dT bg:V):M Fl:=((((iE [.none,.none,(.str "else"),(.int 1),(.int 2),(.int 3)]).d fun v=>((eG [bX,bY,(.int 6)]).d fun k=>(fc v k))).d fun u=>(b0 dT .bZ u)).d fun _=>(Pk bX bY dT bg))
abbrev Pm(dE:VA)(eL bp:V):M Fl:=((testM .Or [(((((d8 dE).d fun v=>(pU [v])).d fun vs=>(jn vs)).d fun v=>(bV v)).d fun c=>pU (!c)),(((((d8 dE).d fun v=>(((((aE eL .number).d fun a=>(j4 .Sub a (.int 1))).d fun v=>(pU [v])).d fun vs=>(pU (eL::vs))).d fun vs=>(pU (v::vs)))).d fun vs=>(j5 vs)).d fun v=>(bV v)).d fun c=>pU (!c))]).d fun c=>(bif c then(pU (.ret (.bool false))) else nX).cy (fun _=>((jj [bp]).d fun qW=>(pU (.next [qW])))))
abbrev Pn(dE:VA)(bp mZ:V):M Fl:=((qy (fun vs=>match vs with| [eL]=>(aX .IsNot eL .none)|_=>fL) (fun vs=>match vs with| [eL]=>(Pm dE eL bp)|_=>fL) [mZ]).cy (fun vs=>match vs with| [eL]=>nX|_=>fL))
abbrev Po(dE:VA)(ed:V):M Fl:=((mL .And [((d8 dE).d fun v=>(itemF v .fX)),(((d8 dE).d fun v=>(itemF v .within)).d fun a=>((df []).d fun b=>((aX .Eq a b).d fun c=>pU (.bool c)))),(((d8 dE).d fun v=>(itemF v .line)).d fun a=>((df []).d fun b=>((aX .Eq a b).d fun c=>pU (.bool c)))),((aE ed .eO).d fun a=>(((dB 3).d fun x=>u5 x (.aU [])).d fun b=>((Mr a b).d fun c=>pU (.bool c))))]).d fun v=>(pU (.ret v)))
abbrev Pp(dE:VA)(bp ed:V):M Fl:=(((jj [bp]).d fun mZ=>(Pn dE bp mZ)).cy (fun _=>(Po dE ed)))
abbrev Pq(mY bp ed:V):M Fl:=((r0 mY).d fun dE=>oF ((bb bp .serve (.iC 1 [dE])).d fun _=>(Pp dE bp ed)))
abbrev MS(mY bp ed:V):M Fl:=((b0 mY .fX (.bool true)).d fun _=>(Pq mY bp ed))
abbrev MT(bp ed cb bg:V):M Fl:=(((pn [(.iW,(pU bp)),(.gX,(pU ed)),(.fY,(pU cb)),(.ip,(pU bg)),(.line,((dB 12).d fun x=>lL x [])),(.within,((dB 13).d fun x=>lL x []))]).d fun fs=>(dB 3).d fun x=>u5 x (.aU (i8 [] fs))).d fun mY=>(MS mY bp ed))
abbrev MU(cb bp bg:V):M Fl:=((((((aX .Eq cb (.int 2)).d fun c=>bif c then(df [(.str "wait"),(.str "come")]) else(df [(.str "read"),(.str "write")])).d fun v=>(pU [v])).d fun vs=>(pU ((.int 30)::vs))).d fun vs=>(my 221 mz ji vs)).d fun ed=>(MT bp ed cb bg))
abbrev MV(lF cb bp bg:V):M Fl:=(((lS [.none,lF]).d fun _=>pU ()).d fun _=>(MU cb bp bg))
abbrev MW(bg bp cb:V):M Fl:=((fW 9 bg (fun xv=>testM .And []) (fun xv=>(((((aE bp .mn).d fun v=>(pU [v,(.int 1)])).d fun vs=>(pU ((.str "visitor")::vs))).d fun vs=>(pU (bp::vs))).d fun vs=>(oo vs)))).d fun lF=>(MV lF cb bp bg))
abbrev MX(rP jU bg cb:V):M Fl:=((r0 rP).d fun iY=>oF ((r0 jU).d fun i9=>oF ((((my 386 yy lO []).d fun v=>(pU [v,(.iC 0 [i9,iY])])).d fun vs=>(my 544 wd nQ vs)).d fun bp=>(MW bg bp cb))))
abbrev MY(jU bg cb:V):M Fl:=(((dB 17).d fun x=>lL x []).d fun rP=>(MX rP jU bg cb))
abbrev MZ(bY bX bg cb:V):M Fl:=((mL .Or [(((fc bY (.int 0)).d fun a=>(j4 .Add a (.int 1))).d fun k=>(Gv bX k)),(df [(.int 0)])]).d fun jU=>(MY jU bg cb))
abbrev M9(bX bY bg cb:V):M Fl:=(((eG [bX,bY,(.int 4)]).d fun b=>(j4 .Add (.int 3) b)).d fun src=>(yE src (fun KY _=>(((pn [(.cJ,((eG [bX,bY,(.int 2)]).d fun a=>((aX .Eq a (.int 1)).d fun c=>pU (.bool c)))),(.rest,(eG [bX,bY,(.int 3)]))]).d fun fs=>(dB 3).d fun x=>u5 x (.aU (i8 [] fs))).d fun dT=>(Pl bX bY dT bg))) []).cy (fun _=>(MZ bY bX bg cb)))
abbrev Na(bX bY cb:V):M Fl:=(((dB 16).d fun x=>lL x []).d fun bg=>(M9 bX bY bg cb))
abbrev Nb(bX bY:V):M Fl:=((eG [bX,bY,(.int 3)]).d fun cb=>(Na bX bY cb))
def Qx(bX:V):M Fl:=
 (((dB 1).d fun x=>lL x [(.int (-1))]).d fun bY=>(Nb bX bY))
def L8:List V→M V:=jh 1 fun vs=>match vs with
 | [bX]=>Qx bX
 |_=>fL
theorem Q9(A:wt g P):CS g 19 671 L8:=by
 have G:=A.ok
 have hK:=A.hK
 exact bl G hK rfl (by walk_at "c") fun _ bX=>(cx 1 rfl (SE.conv (jl (dB 1) (cO 1) (ag Mm ax))) fun bY=>(cx 2 rfl (SE.conv (dF G hK 15 97 (jv G hK) (ag (ab 0) (ag (ab 1) (ag dw ax))))) fun cb=>(cx 3 rfl (SE.conv (jl (dB 16) (cO 16) ax)) fun bg=>(Je 4 (fun _=> [(0,bX),(1,bY),(2,cb),(3,bg)]) [] rfl (.inl rfl) (B8 G hK 16) (SE.conv (sk dw (dF G hK 15 97 (jv G hK) (ag (ab 0) (ag (ab 1) (ag dw ax)))))) ⟨rfl,rfl,rfl,rfl,trivial⟩ (fun KY _=>(cx 5 rfl (SE.conv (Ip (dB 3) (cO 3) (.cons (f:= .cJ) rfl (kF (dF G hK 15 97 (jv G hK) (ag (ab 0) (ag (ab 1) (ag dw ax)))) dw) (.cons (f:= .rest) rfl (dF G hK 15 97 (jv G hK) (ag (ab 0) (ag (ab 1) (ag dw ax)))) .nil)) (by simp) (bG rfl))) fun dT=>(ay (SX.conv (mH .bZ (gK G (iU (ag bO (ag bO (ag jS (ag dw (ag dw (ag dw ax))))))) (dF G hK 15 97 (jv G hK) (ag (ab 0) (ag (ab 1) (ag dw ax))))) (ab 5))) (ay (SX.conv (mH .gO (sk dw (dF G hK 15 97 (jv G hK) (ag (ab 0) (ag (ab 1) (ag dw ax))))) (ab 5))) (ay (SX.conv (cG (Mp G (ab 5) (ag (Ip (dB 3) (cO 3) (.cons (f:= .bc) rfl dw (.cons (f:= .since) rfl dw (.cons (f:= .jG) rfl bO .nil))) (by simp) (bG rfl)) ax)))) (ay (SX.conv (cG (kE (ab 3) (ag (ab 5) ax)))) (aV [] ⟨rfl,rfl,rfl,rfl,trivial⟩))))))) (fun _=>(kn 14 rfl (SE.conv (jR (.cons (Rj (ab 0) (sk (gK G (ab 1) dw) dw)) (.cons (ee (ag dw ax)) .nil)))) fun jU=>(kn 13 rfl (SE.conv (jl (dB 17) (cO 17) ax)) fun rP=>(An 13 [(0,bX),(1,bY),(2,cb),(3,bg),(14,jU)] rfl rfl rfl ⟨rfl,rfl,rfl,rfl,rfl,trivial⟩ rfl fun iY=>(An 14 [(0,bX),(1,bY),(2,cb),(3,bg)] rfl rfl rfl ⟨rfl,rfl,rfl,rfl,trivial⟩ rfl fun i9=>(ND G A.D q0 A.t0 rfl rfl (by kernel_rfl) 0 A.d0 6 rfl [i9,iY] (by kernel_rfl) rfl (wX ⟨14,.cell,rfl,rfl⟩ (wX ⟨13,.cell,rfl,rfl⟩ EO)) rfl rfl rfl (kn 7 rfl (SE.conv (Iq (nm:=wd) G hK 17 84 (Gm hK) (zz G hK) (ag (Iq (nm:=yy) G hK 18 65 (Ih hK) (AF G hK) ax) (ag (ab 6) ax)))) fun bp=>(gW (tg:=9) 8 1 [(3,7)] [(3,bp)] rfl (ab 3) rfl (by kernel_rfl) (by kernel_rfl) ⟨⟨_,rfl⟩,⟨_,rfl,rfl⟩,trivial⟩ rfl rfl (fun C xv=> .nil) (fun C xv=>(dF G hK 2 67 (EC G hK) (ag (ab 3 (dO rfl)) (ag jS (ag (aL G .mn (ab 3 (dO rfl))) (ag dw ax)))) (aI rfl (by simp)))) (fun lF=>(ay (SX.conv (cG (dF G hK 19 68 (wG G hK) (ag bO (ag (ab 8) ax))))) (cx 9 rfl (SE.conv (Iq (nm:=mz) G hK 20 48 (vH hK) (rC G hK) (ag dw (ag (ow (cz (ab 2) dw) (ee (ag jS (ag jS ax))) (ee (ag jS (ag jS ax)))) ax)))) fun ed=>(kn 12 rfl (SE.conv (Ip (dB 3) (cO 3) (.cons (f:= .iW) rfl (ab 7) (.cons (f:= .gX) rfl (ab 9) (.cons (f:= .fY) rfl (ab 2) (.cons (f:= .ip) rfl (ab 3) (.cons (f:= .line) rfl (jl (dB 12) (cO 12) ax) (.cons (f:= .within) rfl (jl (dB 13) (cO 13) ax) .nil)))))) (by simp) (bG rfl))) fun mY=>(ay (SX.conv (mH .fX eZ (ab 12))) (An 12 [(0,bX),(1,bY),(2,cb),(3,bg),(6,(.iC 0 [i9,iY])),(7,bp),(8,lF),(9,ed)] rfl rfl rfl ⟨rfl,rfl,rfl,rfl,rfl,rfl,rfl,rfl,trivial⟩ rfl fun dE=>(ND G A.D q1 A.t1 rfl rfl (by kernel_rfl) 1 A.d1 10 rfl [dE] (by kernel_rfl) rfl (wX ⟨12,.cell,rfl,rfl⟩ EO) rfl rfl rfl (ay (SX.conv (aN G .serve (ab 10) (ab 7))) (UE (fun _=> [(0,bX),(1,bY),(2,cb),(3,bg),(6,(.iC 0 [i9,iY])),(7,bp),(8,lF),(9,ed),(10,(.iC 1 [dE]))]) (cx 11 rfl (SE.conv (dF G hK 21 91 (wM A) (ag (ab 7) ax))) fun mZ=>(rY (fun vs=>match vs with| [eL]=> [(0,bX),(1,bY),(2,cb),(3,bg),(6,(.iC 0 [i9,iY])),(7,bp),(8,lF),(9,ed),(10,(.iC 1 [dE])),(11,eL)] |_=> []) [mZ] ⟨rfl,rfl,rfl,rfl,rfl,rfl,rfl,rfl,rfl,rfl,trivial⟩ (fun vs=>match vs with| [eL]=>(SB.conv (cz (ab 11) bO))| []=>oR|_::_::_=>oR) (fun vs=>match vs with| [eL]=>(fy (fun _=> [(0,bX),(1,bY),(2,cb),(3,bg),(6,(.iC 0 [i9,iY])),(7,bp),(8,lF),(9,ed),(10,(.iC 1 [dE])),(11,eL)]) (SB.conv (cL (.cons (tu (cR (dF G hK 22 108 (zA A) (ag (kZ 12) ax)))) (.cons (tu (cR (dF G hK 23 107 (Ez A) (ag (kZ 12) (ag (ab 11) (ag (sk (aL G .number (ab 11)) dw) ax)))))) .nil)))) (SS.conv (dY eZ)) (aV [] ⟨rfl,rfl,rfl,rfl,rfl,rfl,rfl,rfl,rfl,rfl,trivial⟩) (fun _=>(cx 11 rfl (SE.conv (dF G hK 21 91 (wM A) (ag (ab 7) ax))) fun qW=>(aV [qW] ⟨rfl,rfl,rfl,rfl,rfl,rfl,rfl,rfl,rfl,rfl,trivial⟩))))| []=>cC|_::_::_=>cC) (fun vs=>match vs with| [eL]=>(aV [] ⟨rfl,rfl,rfl,rfl,rfl,rfl,rfl,rfl,rfl,trivial⟩)| []=>cC|_::_::_=>cC))) (fun _=>(SS.conv (dY (jR (.cons (bo .fX (kZ 12)) (.cons (kF (bo .within (kZ 12)) (ee ax)) (.cons (kF (bo .line (kZ 12)) (ee ax)) (.cons (Rh G (aL G .eO (ab 9)) (JK (dB 3) (cO 3))) .nil))))))))))))))))) (by kernel_rfl) (by kernel_rfl)))))))))))))
end
set_option genInjectivity false
noncomputable def Wp{α:Type}(m:M α)(H:Hp)(Q:α→Hp→Prop):Prop:=∃a H',m H=some (a,H')∧Q a H'
section
variable {α β:Type}{H:Hp}
theorem Wp.mono(h:Wp m H Q)(q:∀a H',Q a H'→Q' a H'):Wp m H Q':=let⟨a,H',e,x⟩:=h;⟨a,H',e,q _ _ x⟩
theorem wp_pure(q:Q a H):Wp (pU a) H Q:=⟨_,_,rfl,q⟩
theorem wp_bind(h:Wp m H fun a H'=>Wp (f a) H' Q):Wp (m.d f) H Q:=
 eY h fun a aG e1 h=>eY h fun b H' e q=>⟨b,H',by unfold M.d;rw [e1];exact e,q⟩
theorem So(h:Wp m H fun r H'=>match r with| .ret v=>Q (.ret v) H'| .next vs=>Wp (k vs) H' Q):Wp (m.cy k) H Q:=
 wp_bind (h.mono fun r H' q=>by cases r;exact wp_pure q;exact q)
theorem UM(hl:vs.length=n)(h:Wp (m vs) H fun r H'=>match r with| .ret v=>Q v H'| .next _=>Q .none H'):Wp (jh n m vs) H Q:=
 eY h fun r H' e q=>by
  unfold Wp jh
  rw [if_pos hl,e]
  cases r<;>exact⟨_,_,rfl,q⟩
theorem FQ(h:Wp m H fun r H'=>match r with| .ret v=>Q (.ret v) H'| .next _=>False):Wp (oF m) H Q:=
 eY h fun r H' e q=>by
  cases r with
  |next _=>exact q.elim
  |ret v=>exact⟨.ret v,H',by unfold oF;rw [e],q⟩
theorem Kl(h:Wp (u5 (nm vs) (.inst C [])) H fun r H'=>Wp (m (r::vs)) H' fun u iw=>u= .none∧Q r iw):Wp (my C nm m vs) H Q:=
 wp_bind (h.mono fun r H' h=>wp_bind (h.mono fun u iw h=>h.1▸wp_pure h.2))
theorem FO(h:Wp (m cs vs) H Q):Wp (vc d m (.iC d cs) vs) H Q:=
 by refine(?_:Wp (if d=d then m cs vs else fL) H Q);rw [if_pos rfl];exact h
theorem Cb(hn:cs.Nodup)(h:Wp (jh n (m cs) vs) H Q):Wp (AD n m cs vs) H Q:=by
 unfold Wp AD;rw [if_pos hn];exact h
theorem HP(hn:H.get ⟨8,H.next⟩=none)(q:Q ⟨8,H.next⟩ (H.set ⟨8,H.next⟩ (.cell v))):Wp (r0 v) H Q:=
 ⟨_,_,by unfold r0 dB M.d u5;simp only [hn,pU],q⟩
end
section
variable {H:Hp}{x:VA}
theorem PY{c fs u}(e1:H.get x=some (.inst c fs))(e2:il fs f=some u)(q:Q u H):Wp (aE (.ref x) f) H Q:=
 ⟨u,H,by simp only [aE,e1,e2],q⟩
theorem PZ{c fs}(e1:H.get x=some (.inst c fs))(e2:fs.length≤500)(q:Q () (H.set x (.inst c (jB fs f u)))):Wp (bb (.ref x) f u) H Q:=
 ⟨(),_,by simp only [bb,e1,e2,if_true],q⟩
theorem N7{fs u}(e1:H.get x=some (.aU fs))(e2:il fs f=some u)(q:Q u H):Wp (itemF (.ref x) f) H Q:=
 ⟨u,H,by simp only [itemF,e1,e2],q⟩
theorem HO{fs}(e1:H.get x=some (.aU fs))(e2:fs.length≤500)(q:Q () (H.set x (.aU (jB fs f u)))):Wp (b0 (.ref x) f u) H Q:=
 ⟨(),_,by simp only [b0,e1,e2,if_true],q⟩
theorem r7(e:H.get x=none)(q:Q (.ref x) (H.set x o)):Wp (u5 x o) H Q:=
 ⟨_,_,by simp only [u5,e],q⟩
theorem Aq(hl:vs.length≤1000000)(e:H.get x=none)(q:Q (.ref x) (H.set x (.list vs))):Wp (lL x vs) H Q:=
 ⟨_,_,by simp only [lL,u5,e,hl,if_true],q⟩
theorem jX(q:Q ⟨t,H.next⟩ H):Wp (dB t) H Q:=⟨_,_,rfl,q⟩
theorem N9(hl:vs.length≤1000000)(q:Q (.tup vs) H):Wp (iE vs) H Q:=
 ⟨_,_,if_pos hl,q⟩
theorem N8(hl:vs.length≤1000000)(q:Q (.lst vs) H):Wp (df vs) H Q:=
 ⟨_,_,if_pos hl,q⟩
theorem Ei{ls}(e1:H.get x=some (.list ls))(e2:ls.length≤1000000)(q:Q .none (H.set x (.list (ls++ [u])))):Wp (fQ (.ref x) [u]) H Q:=
 ⟨_,_,by simp only [fQ,e1,e2,if_true],q⟩
theorem Sn{ls u}(e1:H.get x=some (.list ls))(e2:ls.length≤1000000)(e3:ls.getLast? =some u)(q:Q u (H.set x (.list ls.dropLast))):Wp (I4 (.ref x) []) H Q:=
 ⟨_,_,by simp only [I4,e1,e2,e3,if_true],q⟩
theorem Ej{ls ms}(e1:H.get x=some (.list ls))(e2:H.get y=some (.list ms))(e3:ls.length+ms.length≤1000000)(q:Q .none (H.set x (.list (ls++ms)))):Wp (rJ (.ref x) [.ref y]) H Q:=
 ⟨_,_,by simp only [rJ,e1,e2,e3,if_true],q⟩
theorem PX{ls}(e1:H.get x=some (.list ls))(q:Q () H):Wp (jo (.ref x)) H Q:=
 ⟨_,_,by simp only [jo,e1],q⟩
theorem Kj{fs}(e1:H.get x=some (.inst c fs))(q:Q () H):Wp (Ig c (.ref x)) H Q:=
 ⟨_,_,by simp only [Ig,e1,if_true],q⟩
theorem ko{v}(e1:H.get x=some (.cell v))(q:Q v H):Wp (d8 x) H Q:=
 ⟨_,_,by simp only [d8,e1],q⟩
end
section
noncomputable def Old(H:Hp)(y:VA):Prop:=100≤y.t∨y.n<H.next
noncomputable def eP(H:Hp):Prop:=∀y:VA,y.t<100→H.next≤y.n→H.get y=none
structure cZ(X:VA→Prop)(H H':Hp):Prop where
 next:H.next≤H'.next
 keep:∀y,¬X y→Old H y→H'.get y=H.get y∧H'.pv y=H.pv y
 fresh:eP H→eP H'
variable {X Y:VA→Prop}{H aG H':Hp}
theorem cZ.refl:cZ X H H:=⟨az _,fun _ _ _=>⟨rfl,rfl⟩,id⟩
theorem Old.on(h:Old H y)(s:cZ X H H'):Old H' y:=h.imp id fun q=>aT q s.next
theorem cZ.trans(a:cZ X H aG)(b:cZ X aG H'):cZ X H H':=⟨ai a.next b.next,fun y hx ho=>
 let⟨e1,e2⟩:=a.keep y hx ho;let⟨f1,f2⟩:=b.keep y hx (ho.on a);⟨f1.trans e1,f2.trans e2⟩,fun f=>b.fresh (a.fresh f)⟩
theorem cZ.mono(a:cZ X H H')(h:∀y,X y→Y y):cZ Y H H':=⟨a.next,fun y hy ho=>a.keep y (fun q=>hy (h y q)) ho,a.fresh⟩
theorem dm(hx:X x)(ho:Old H x):cZ X H (H.set x o):=by
 refine⟨eJ _,fun y hy _=>?_,fun f y ht hn=>?_⟩
 ·have:y≠x:=fun e=>hy (e▸hx)
  exact⟨by simp [this],by simp [this]⟩
 ·haveI hn:H.next+1≤y.n:=hn
  have:y≠x:=by
   rintro rfl
   rcases ho with h|h
   ·lia
   ·lia
  simp only [Hp.FA,if_neg this]
  exact f y ht (by exact cY ‹_›)
theorem gP(ht:t<100):cZ X H (H.set ⟨t,H.next⟩ o):=by
 refine⟨eJ _,fun y _ ho=>?_,fun f y hy hn=>?_⟩
 ·have:y≠⟨t,H.next⟩:=by
   rintro rfl
   rcases ho with h|h
   ·exact absurd ht (cg.mpr h)
   ·exact dZ _ h
  exact⟨by simp [this],by simp [this]⟩
 ·haveI hn:H.next+1≤y.n:=hn
  have:y≠⟨t,H.next⟩:=by rintro rfl;dsimp only at hn;exact dZ _ ‹_›
  simp only [Hp.FA,if_neg this]
  exact f y hy (by exact cY ‹_›)
theorem cZ.get(a:cZ X H H')(hx:¬X y)(ho:Old H y)(e:H.get y=some o):H'.get y=some o:=(a.keep y hx ho).1.trans e
theorem eP.old(f:eP H)(e:H.get y=some o):Old H y:=by
 by_cases h:100≤y.t
 ·exact .inl h
 ·refine .inr (Ox fun q=>?_)
  rw [f y (Ox h) q] at e;exact nn e
theorem FP{vs:List V}(I:Nat→List V→Hp→Prop)(hi:∀i st H,I i st H→item H i=some vs[i]?)
  (pF:∀i v st H,vs[i]? =some v→I i st H→Wp (mb v st) H fun r H'=>match r with| .ret u=>Q (.ret u) H'| .next uk=>I (i+1) uk H') (vM:∀st H,I vs.length st H→Q (.next st) H) (n:Nat):
  ∀(i:Nat) (st:List V) (H:Hp),vs.length<n+i→i≤vs.length→I i st H→Wp (sP item mb n i st) H Q:=by
 induction n with
 |zero=>exact fun i _ _ h hl _=>absurd (aT h (ai (fZ (H2 i)) hl)) (dZ _)
 |succ n ih=>
  intro i st H h hl hI
  unfold Wp sP
  rw [hi i st H hI]
  induction hv:vs[i]? with
  |none=>exact ie _ _ rfl (vM _ _ ((Cj hl (iI.mp hv))▸hI))
  |some v=>
   refine eY (pF i v st H hv hI) fun r H' e q=>?_
   dsimp only
   rw [e]
   induction r with
   |ret u=>exact ie _ _ rfl q
   |next uk=>exact ih (i+1) uk H' (LF h (SW n i)) (aF.mp hv).1 q
theorem ia{vs:List V}{st:List V}(hl:vs.length<10000000)(I:Nat→List V→Hp→Prop)(tM:∀i st H,I i st H→∀j,itemAt H src j=some vs[j]?)(h0:I 0 st H)
  (pF:∀i v st H,vs[i]? =some v→I i st H→Wp (mb v st) H fun r H'=>match r with| .ret u=>Q (.ret u) H'| .next uk=>I (i+1) uk H') (vM:∀st H,I vs.length st H→Q (.next st) H):Wp (forL src mb st) H Q:=
 FP I (fun i st H h=>tM i st H h i) pF vM 10000000 0 st H hl (dM _) h0
theorem c6(h:H.get x=some (.list vs))(j:Nat):itemAt H (.ref x) j=some vs[j]? :=by
 refine(?_:(match H.get x with|some (.list vs)=>some vs[j]? |_=>none)=_)
 (refine h.symm▸?_;with_reducible rfl)
theorem gp(j:Nat):itemAt H (.lst vs) j=some vs[j]? :=rfl
theorem item_tup(j:Nat):itemAt H (.tup vs) j=some vs[j]? :=rfl
theorem Ek{mt:List V→M Bool}(I:Nat→List V→Hp→Prop)
  (pF:∀k st H,I k st H→Wp (mt st) H fun b aG=>if b=true then Wp (mb st) aG fun r H'=>(match r with| .ret u=>Q (.ret u) H'| .next uk=>∃k',k'<k∧I k' uk H') else Q (.next st) aG):
  ∀(n k:Nat) (st:List V) (H:Hp),k<n→I k st H→Wp (uu mt mb n st) H Q
 |0,_,_,_,h,_=>absurd h (oP _)
 |n+1,k,st,H,h,hI=>by
  unfold Wp uu
  refine eY (pF k st H hI) fun b aG e q=>?_
  rw [e]
  cases b with
  |false=>exact⟨_,_,rfl,by simpa using q⟩
  |true=>
   rw [if_pos rfl] at q
   refine eY (q) fun r H' e' q=>?_
   dsimp only
   rw [e']
   cases r with
   |ret u=>exact⟨_,_,rfl,q⟩
   |next uk=>
    refine aS (q) fun k' hk ZD=>?_
    exact Ek I pF n k' uk H' (by omega) ZD
theorem pw{mt:List V→M Bool}{st:List V}(I:Nat→List V→Hp→Prop)(k:Nat)(hk:k<10000000)(h0:I k st H)
  (pF:∀k st H,I k st H→Wp (mt st) H fun b aG=>if b=true then Wp (mb st) aG fun r H'=>(match r with| .ret u=>Q (.ret u) H'| .next uk=>∃k',k'<k∧I k' uk H') else Q (.next st) aG):Wp (qy mt mb st) H Q:=
 Ek I pF 10000000 k st H hk h0
theorem HN{vs:List V}(I:Nat→Hp→Prop)(hi:∀i H,I i H→itemAt H src i=some vs[i]?)
  (pF:∀i v H,vs[i]? =some v→I i H→Wp (mb v) H fun _ H'=>I (i+1) H') (vM:∀H,I vs.length H→Q () H) (n:Nat):
  ∀(i:Nat) (H:Hp),vs.length<n+i→i≤vs.length→I i H→Wp (i7 src mb n i) H Q:=by
 induction n with
 |zero=>exact fun i _ h hl _=>absurd (aT h (ai (fZ (H2 i)) hl)) (dZ _)
 |succ n ih=>
  intro i H h hl hI
  unfold Wp i7
  rw [hi i H hI]
  induction hv:vs[i]? with
  |none=>exact ie _ _ rfl (vM _ ((Cj hl (iI.mp hv))▸hI))
  |some v=>
   refine eY (pF i v H hv hI) fun r H' e q=>?_
   dsimp only
   rw [e]
   exact ih (i+1) H' (LF h (SW n i)) (aF.mp hv).1 q
theorem HQ(h:Wp (mc v) H fun b aG=>if b=true then Wp (me v) aG fun u bh=>∃ls,bh.get acc=some (.list ls)∧ls.length≤1000000∧Q () (bh.set acc (.list (ls++ [u]))) else Q () aG):Wp (vz mc me acc v) H Q:=by
 refine wp_bind (h.mono fun b aG q=>?_)
 induction b with
 |false=>rw [if_neg aw] at q;exact wp_pure q
 |true=>
  rw [if_pos rfl] at q
  exact wp_bind (q.mono fun u bh q=>j9 q fun ls g hl q=>wp_bind (Ei g hl (wp_pure q)))
theorem HM{vs:List V}{bs:V→Bool}{es:V→V}{kX:Hp}(hv:vs.length≤1000000){Q:Unit→Hp→Prop}(P:Hp→Prop)
  (tM:∀H,P H→cZ (fun y=>y=acc) kX H→∀j,itemAt H src j=some vs[j]?)
  (hc:∀v∈vs,∀H,P H→cZ (fun y=>y=acc) kX H→Wp (mc v) H fun b H'=>b=bs v∧P H'∧cZ (fun _=>False) H H') (he:∀v∈vs,bs v=true→∀H,P H→cZ (fun y=>y=acc) kX H→Wp (me v) H fun u H'=>u=es v∧P H'∧cZ (fun _=>False) H H')
  (hP:∀H o,P H→P (H.set acc o)) (ho:Old kX acc)
  (vM:∀H,P H→cZ (fun y=>y=acc) kX H→H.get acc=some (.list ((vs.filter bs).map es))→Q () H) (p0:P kX) (g0:kX.get acc=some (.list [])):Wp (i7 src (vz mc me acc) 10000000 0) kX Q:=by
 refine HN (fun i H=>P H∧cZ (fun y=>y=acc) kX H∧H.get acc=some (.list (((vs.take i).filter bs).map es))) (fun i H z=>tM H z.1 z.2.1 i) (fun i v H Yr z=>fC z fun p s g=>HQ ?_) (fun H z=>fC z fun p s g=>vM H p s (by rw [nO] at g;exact g)) 10000000 0 kX (bN hv (by decide)) (dM _) (fM p0 .refl (by rw [List.take_zero];exact g0))
 have hm:v∈vs:=aB Yr
 have tk:(vs.take (i+1)).filter bs=(vs.take i).filter bs++(if bs v=true then [v] else []):=by
  rw [jO,Yr,jr]
  induction hb:bs v<;>simp [hb]
 refine(hc v hm H p s).mono fun b aG z=>fC z fun e p1 s1=>?_
 have HV:=s.trans (s1.mono fun _ q=>q.elim)
 have g1:=s1.get id (ho.on s) g
 rw [e]
 by_cases hb:bs v=true
 ·rw [if_pos hb] at tk ⊢
  refine(he v hm hb aG p1 HV).mono fun u bh z=>fC z fun e2 p2 s2=>?_
  have Kc:=HV.trans (s2.mono fun _ q=>q.elim)
  refine⟨_,s2.get id (ho.on HV) g1,?_,hP _ _ p2,Kc.trans (dm rfl (ho.on Kc)),?_⟩
  ·rw [aq];exact ai (cX ..) (ai (va _ _) hv)
  ·rw [e2,tk,dK];exact if_pos rfl
 ·rw [if_neg hb] at tk ⊢
  exact fM p1 HV (by rw [tk,oH];exact g1)
theorem pR(h:itemAt H src 0≠none)(q:Q () H):Wp (hasItems src) H Q:=by
 unfold Wp hasItems
 induction hi:itemAt H src 0 with
 |none=>exact absurd hi h
 |some _=>exact ie _ _ rfl q
theorem gT(Yo:tg<100){vs:List V}(bs:V→Bool)(es:V→V)(P:Hp→Prop)(hf:eP H)(hv:vs.length≤1000000){Q:V→Hp→Prop}(p0:P H)(tM:∀H',P H'→cZ (fun _=>False) H H'→∀j,itemAt H' src j=some vs[j]?)
  (hP:∀H' x o,H.next≤x.n→x.t=tg→P H'→P (H'.set x o))
  (hc:∀v∈vs,∀H',P H'→cZ (fun _=>False) H H'→Wp (mc v) H' fun b iw=>b=bs v∧P iw∧cZ (fun _=>False) H' iw) (he:∀v∈vs,bs v=true→∀H',P H'→cZ (fun _=>False) H H'→Wp (me v) H' fun u iw=>u=es v∧P iw∧cZ (fun _=>False) H' iw)
  (vM:∀H' x,P H'→cZ (fun _=>False) H H'→x.t=tg→H.next≤x.n→x.n<H'.next→H'.get x=some (.list ((vs.filter bs).map es))→Q (.ref x) H'):Wp (fW tg src mc me) H Q:=by
 haveI nn:H.get ⟨tg,H.next⟩=none:=hf _ Yo (az _)
 unfold fW
 refine wp_bind (pR (by refine(ah (tM H p0 .refl 0))▸?_;simp) (wp_bind (jX (wp_bind (Aq (dM _) nn (wp_bind ?_))))))
 haveI s0:cZ (fun _=>False) H (H.set ⟨tg,H.next⟩ (.list [])):=gP Yo
 haveI hold:Old (H.set ⟨tg,H.next⟩ (.list [])) ⟨tg,H.next⟩:= .inr (aW _)
 have back:∀{H'},cZ (fun y=>y=⟨tg,H.next⟩) (H.set ⟨tg,H.next⟩ (.list [])) H'→cZ (fun _=>False) H H':=fun {H'} s=>⟨ai s0.next s.next,fun y _ ho=>by
  have:y≠⟨tg,H.next⟩:=by
   rintro rfl
   rcases ho with h|h
   ·exact absurd h (by refine(?_:¬(100≤tg));exact Nat.not_le_of_lt ‹_›)
   ·exact dZ _ h
  refine cQ (s0.keep y id ho) fun a b=>?_
  refine cQ (s.keep y this (ho.on s0)) fun c d=>?_
  exact⟨c.trans a,d.trans b⟩,fun f=>s.fresh (s0.fresh f)⟩
 exact HM (bs:=bs) (es:=es) hv P (fun H' p s=>tM H' p (back s)) (fun v hm H' p s=>hc v hm H' p (back s)) (fun v hm hb H' p s=>he v hm hb H' p (back s)) (fun H' o p=>hP H' _ o (az _) rfl p) hold
  (fun H' p s g=>wp_pure (vM H' _ p (back s) rfl (az _) (show H.next<H'.next from aT (aW _) s.next) g)) (hP _ _ _ (az _) rfl p0) (if_pos rfl)
end
set_option hygiene false in
local macro_rules |`(tactic|walk_at "i")=>`(tactic|first|exact s'.fresh R.fr|exact R.Un s' rfl rfl rfl rfl|exact R.WV s' rfl rfl|exact R.Uh s' rfl|exact R.Uo s' rfl rfl|exact R.Ul s' rfl rfl rfl|exact R.Uj s' rfl|exact R.Up s' rfl|exact R.Uk s' rfl|exact R.SI s' rfl rfl|exact R.SH s' rfl|exact R.Ui s' rfl|exact R.Um s' rfl|exact R.Ug s' rfl|exact R.Vg s' rfl|exact R.ok|exact ⟨R.c0.q, R.c0.line, R.c0.within, R.c0.steps⟩)
set_option hygiene false in
local macro_rules |`(tactic|walk_at "l")=>`(tactic|with_reducible first|assumption|exact au|refine aZ (by assumption) (by first|assumption|exact au|refine aZ (by assumption) (by first|assumption|exact au|refine aZ (by assumption) (by first|assumption|exact au|refine aZ (by assumption) (by fail)))))
set_option hygiene false in
local macro_rules |`(tactic|walk_at "s")=>`(tactic|first|exact oN|exact xy|exact ui|exact pq|exact rZ|exact we|exact NI|exact Hd|exact Fz|exact mS|exact AN|exact Gs|exact yU|exact vg|exact DQ|exact DP)
set_option hygiene false in
local macro_rules |`(tactic|walk_at "r")=>`(tactic|repeat with_reducible first|refine Wp.b ?_|refine Wp.p ?_|refine Wp.tup (by kernel_rfl) ?_|refine Wp.lst (by kernel_rfl) ?_|refine Wp.aE (by walk_at "l") (by with_unfolding_all rfl) ?_|refine Wp.bb (by walk_at "l") (by walk_at "s") (by kernel_rfl) ?_|refine Wp.itemF (by walk_at "l") (by with_unfolding_all rfl) ?_|refine Wp.b0 (by walk_at "l") (by walk_at "s") (by kernel_rfl) ?_|refine Wp.cy ?_)
section
structure TS where
 state:V
 ik:V
 wake:V
 lK:V
 call:V
 raised:V
 answer:V
 inside:V
 qa:VA
noncomputable def bK(i:Int)(τ:TS):List (Fd×V):= [(.number,.int i),(.name,.str "visitor"),(.IW,.ref ⟨106,0⟩),(.state,τ.state),(.eO,.ref τ.qa),(.ik,τ.ik),(.wake,τ.wake),(.lK,τ.lK),(.call,τ.call),(.uI,.lst []),(.ni,.lst []),
 (.raised,τ.raised),(.answer,τ.answer),(.eu,.bool false),(.inside,τ.inside),(.i0,.none),(.pending,.int 0),(.vL,.bool false),(.stack,.lst []),(.frame,.none),(.result,.none),(.bases,.lst []),(.Ic,.lst []),(.resume,.none),(.leaving,.none),(.line,.int 0)]
variable {i:Int}{τ:TS}{v:V}
theorem lI:il (bK i τ) .number=some (.int i):=rfl
theorem ng:il (bK i τ) .state=some τ.state:=rfl
theorem Hh:il (bK i τ) .eO=some (.ref τ.qa):=rfl
theorem yJ:il (bK i τ) .wake=some τ.wake:=rfl
theorem Eh:il (bK i τ) .call=some τ.call:=rfl
theorem FE:il (bK i τ) .uI=some (.lst []):=rfl
theorem r4:il (bK i τ) .ni=some (.lst []):=rfl
theorem Hi:il (bK i τ) .raised=some τ.raised:=rfl
theorem uo:il (bK i τ) .answer=some τ.answer:=rfl
theorem B0:il (bK i τ) .eu=some (.bool false):=rfl
theorem zo:il (bK i τ) .inside=some τ.inside:=rfl
theorem NU:il (bK i τ) .i0=some .none:=rfl
theorem oN:jB (bK i τ) .state v=bK i {τ with state:=v}:=rfl
theorem Hd:jB (bK i τ) .ik v=bK i {τ with ik:=v}:=rfl
theorem ui:jB (bK i τ) .wake v=bK i {τ with wake:=v}:=rfl
theorem NI:jB (bK i τ) .lK v=bK i {τ with lK:=v}:=rfl
theorem xy:jB (bK i τ) .call v=bK i {τ with call:=v}:=rfl
theorem rZ:jB (bK i τ) .raised v=bK i {τ with raised:=v}:=rfl
theorem pq:jB (bK i τ) .answer v=bK i {τ with answer:=v}:=rfl
theorem we:jB (bK i τ) .inside v=bK i {τ with inside:=v}:=rfl
theorem Fz:jB (bK i τ) .i0 .none=bK i τ:=rfl
structure CR where
 number:Int
 caller:VA
 target:VA
 key:V
 values:V
 state:V
 deadline:V
 jK:V
 cond:V
 found:V
noncomputable def cN(c:CR):List (Fd×V):= [(.number,.int c.number),(.caller,.ref c.caller),(.target,.ref c.target),(.key,c.key),(.values,c.values),(.state,c.state),(.deadline,c.deadline),(.mj,c.jK),(.fj,c.cond),(.found,c.found)]
section
variable {κ:CR}
theorem yQ:il (cN κ) .number=some (.int κ.number):=rfl
theorem jQ:il (cN κ) .caller=some (.ref κ.caller):=rfl
theorem tv:il (cN κ) .target=some (.ref κ.target):=rfl
theorem kC:il (cN κ) .key=some κ.key:=rfl
theorem yR:il (cN κ) .values=some κ.values:=rfl
theorem Cq:il (cN κ) .deadline=some κ.deadline:=rfl
theorem DL:il (cN κ) .mj=some κ.jK:=rfl
theorem DK:il (cN κ) .fj=some κ.cond:=rfl
theorem yU:jB (cN κ) .target (.ref x)=cN {κ with target:=x}:=rfl
theorem Gs:jB (cN κ) .key v=cN {κ with key:=v}:=rfl
theorem mS:jB (cN κ) .state v=cN {κ with state:=v}:=rfl
theorem vg:jB (cN κ) .deadline v=cN {κ with deadline:=v}:=rfl
theorem DQ:jB (cN κ) .mj v=cN {κ with jK:=v}:=rfl
theorem DP:jB (cN κ) .fj v=cN {κ with cond:=v}:=rfl
theorem AN:jB (cN κ) .found v=cN {κ with found:=v}:=rfl
end
section
variable {α β:Type}{H:Hp}{x y:VA}{o:ib}
theorem Old.set(h:Old H y):Old (H.set x o) y:=h.imp id j0
theorem au:(H.set x o).get x=some o:=if_pos rfl
theorem aZ(h:y≠x)(e:H.get y=r):(H.set x o).get y=r:=(if_neg h).trans e
theorem Wp.b(h:Wp m H fun a H'=>Wp (k a) H' Q):Wp (m.d k) H Q:=wp_bind h
theorem Wp.b2(h:Wp m H fun a H=>Wp (k1 a) H fun a H=>Wp (k2 a) H Q):Wp ((m.d k1).d k2) H Q:=Wp.b (Wp.b (h))
theorem Wp.b3(h:Wp m H fun a H=>Wp (k1 a) H fun a H=>Wp (k2 a) H fun a H=>Wp (k3 a) H Q):Wp (((m.d k1).d k2).d k3) H Q:=Wp.b (Wp.b (Wp.b (h)))
theorem Wp.b4(h:Wp m H fun a H=>Wp (k1 a) H fun a H=>Wp (k2 a) H fun a H=>Wp (k3 a) H fun a H=>Wp (k4 a) H Q):Wp ((((m.d k1).d k2).d k3).d k4) H Q:=Wp.b (Wp.b (Wp.b (Wp.b (h))))
theorem Wp.b5(h:Wp m H fun a H=>Wp (k1 a) H fun a H=>Wp (k2 a) H fun a H=>Wp (k3 a) H fun a H=>Wp (k4 a) H fun a H=>Wp (k5 a) H Q):Wp (((((m.d k1).d k2).d k3).d k4).d k5) H Q:=Wp.b (Wp.b (Wp.b (Wp.b (Wp.b (h)))))
theorem Wp.b6(h:Wp m H fun a H=>Wp (k1 a) H fun a H=>Wp (k2 a) H fun a H=>Wp (k3 a) H fun a H=>Wp (k4 a) H fun a H=>Wp (k5 a) H fun a H=>Wp (k6 a) H Q):Wp ((((((m.d k1).d k2).d k3).d k4).d k5).d k6) H Q:=Wp.b (Wp.b (Wp.b (Wp.b (Wp.b (Wp.b (h))))))
theorem Wp.p(h:Q a H):Wp (pU a) H Q:=⟨_,_,rfl,h⟩
theorem Wp.f(hn:vs.length=n)(h:Wp (m vs) H fun r H'=>Q (match r with| .ret v=>v| .next _=> .none) H'):Wp (jh n m vs) H Q:=
 UM hn (h.mono fun r _ q=>by induction r<;>exact q)
theorem Wp.aE{f:Fd}(h:H.get x=some (.inst c fs))(e:il fs f=some u)(q:Q u H):Wp (aE (.ref x) f) H Q:=PY h e q
theorem Wp.bb{f:Fd}(h:H.get x=some (.inst c fs))(e':jB fs f u=FY)(e:pB fs.length 500=true)(q:Q () (H.set x (.inst c FY))):Wp (bb (.ref x) f u) H Q:=PZ h (bG e) (e'▸q)
theorem Wp.itemF{f:Fd}(h:H.get x=some (.aU fs))(e:il fs f=some u)(q:Q u H):Wp (itemF (.ref x) f) H Q:=N7 h e q
theorem Wp.b0{f:Fd}(h:H.get x=some (.aU fs))(e':jB fs f u=FY)(e:pB fs.length 500=true)(q:Q () (H.set x (.aU FY))):Wp (b0 (.ref x) f u) H Q:=HO h (bG e) (e'▸q)
theorem Wp.tup(e:pB vs.length 1000000=true)(q:Q (.tup vs) H):Wp (iE vs) H Q:=N9 (bG e) q
theorem Wp.lst(e:pB vs.length 1000000=true)(q:Q (.lst vs) H):Wp (df vs) H Q:=N8 (bG e) q
theorem Wp.cy(h:Wp m H fun r H'=>match r with| .ret v=>Q (.ret v) H'| .next vs=>Wp (k vs) H' Q):Wp (m.cy k) H Q:=So h
theorem Wp.eq{a b:V}(h1:BP H a=some d)(h2:BP H b=some e)(h3:(small d&&small e)=true)(h4:PyData.eqv d e=c)(q:Q c H):Wp (aX .Eq a b) H Q:=
 ⟨c,H,by refine(?_:Oj a b H=_);unfold Oj;(refine h1.symm▸?_;refine h2.symm▸?_);simp [h3,h4],q⟩
theorem Wp.ne{a b:V}(h1:BP H a=some d)(h2:BP H b=some e)(h3:(small d&&small e)=true)(h4:PyData.eqv d e=c)(q:Q (!c) H):Wp (aX .NotEq a b) H Q:=
 wp_bind (Wp.eq h1 h2 h3 h4 (Wp.p q))
end
theorem cZ.fO(hx:X x)(ho:Old kX x)(s:cZ X kX H):cZ X kX (H.set x o):=s.trans (dm hx (ho.on s))
theorem r5{a r:V}(ho:Old H t)(h:H.get t=some (.inst 137 (bK i τ)))(q:∀H',cZ (fun y=>y=t) H H'→
  H'.get t=some (.inst 137 (bK i {τ with state:= .str "ready",ik:= .lst [],wake:= .none,lK:= .none,answer:=a,raised:=r}))→Q .none H'):Wp (mR [.ref t,a,r]) H Q:=by
 refine Wp.f rfl ?_
 unfold D7
 walk_at "r"
 exact q _ (.fO rfl ho (.fO rfl ho (.fO rfl ho (.fO rfl ho (.fO rfl ho (.fO rfl ho .refl)))))) au
end
section
variable {H:Hp}{i:Int}{τ:TS}{κ:CR}{t c:VA}
noncomputable abbrev S_(s:Str):V:= .str s
noncomputable abbrev T1(s:Str):V:= .tup [.str s]
theorem AV(hc:H.get c=some (.inst 31 (cN κ)))(ht:H.get κ.caller=some (.inst 137 (bK i τ)))(oc:Old H c)(ot:Old H κ.caller)(n1:c≠κ.caller)(n2:κ.caller≠c)
  (q:∀H',cZ (fun y=>y=c∨y=κ.caller) H H'→H'.get c=some (.inst 31 (cN {κ with state:=S_ "over",found:= .tup [T1 "called",.none]}))→
   H'.get κ.caller=some (.inst 137 (bK i {τ with state:=S_ "ready",ik:= .lst [],wake:= .none,lK:= .none,call:= .none,answer:=T1 "called",raised:= .none}))→Q .none H'):Wp (oW [.ref c,.none]) H Q:=by
 refine Wp.f rfl ?_
 unfold vn
 walk_at "r"
 refine r5 (i:=i) (τ:={τ with call:= .none}) ?_ ?_ fun H' s g=>?_
 ·exact ot.set.set.set
 ·exact au
 ·refine Wp.p (Wp.p (q _ ?_ ?_ g))
  ·exact cZ.trans (.fO (.inr rfl) ot (.fO (.inl rfl) oc (.fO (.inl rfl) oc .refl))) (s.mono fun y e=> .inr e)
  ·exact(s.get n1 oc.set.set.set (aZ n1 au))
theorem DC(ht:H.get t=some (.inst 137 (bK i τ)))(hi:τ.inside= .int 0)(q:Q (.bool false) H):Wp (qf [.ref t]) H Q:=by
 refine Wp.f rfl ?_
 unfold xl
 refine Wp.b ⟨true,H,?_,Wp.cy (Wp.p q)⟩
 unfold testM M.d aE bV
 simp only [ht]
 rfl
end
section
variable {H:Hp}
theorem Wp.Oi{a b:Str}(h3:(small (.str a)&&small (.str b))=true)(h4:(a==b)=c)(q:Q c H):Wp (aX .Eq (.str a) (.str b)) H Q:=Wp.eq (d:= .str a) (e:= .str b) rfl rfl h3 h4 q
theorem Wp.Vh{a b:Int}(q:Q (!(a==b)) H):Wp (aX .NotEq (.int a) (.int b)) H Q:=Wp.ne (d:= .int a) (e:= .int b) rfl rfl rfl rfl q
theorem Wp.JO{a b:Int}(q:Q (a==b) H):Wp (aX .Eq (.int a) (.int b)) H Q:=Wp.eq (d:= .int a) (e:= .int b) rfl rfl rfl rfl q
theorem yB:∀l:List Int,qw (l.map V.int)=some (l.map PyData.int)
 | []=>rfl
 |i::l=>by rw [bw,qw,yB l];rfl
theorem lay_ints:∀l:List Int,PyData.canLayAll0 (l.map PyData.int)=true
 | []=>rfl
 |i::l=>by rw [bw,PyData.canLayAll0,lay_ints l];rfl
theorem AO:∀l:List Int,PyData.depthAll (l.map PyData.int)=0
 | []=>rfl
 |i::l=>by rw [bw,PyData.depthAll,AO l];rfl
theorem r3(l:List Int):small (.list (l.map PyData.int))=true:=by
 haveI h1:=lay_ints l
 haveI h2:=AO l
 refine(?_:(PyData.canLay0 (.list _)&&decide (PyData.depth (.list _)≤100))=true)
 rw [PyData.canLay0,PyData.depth,h1,h2];rfl
theorem AU:∀l m:List Int,PyData.eqvAll (l.map PyData.int) (m.map PyData.int)=decide (l=m)
 | [], []=>rfl
 | [],_::_=>rfl
 |_::_, []=>rfl
 |i::l,j::m=>by
  rw [bw,bw,PyData.eqvAll,AU l m,PyData.eqv]
  by_cases h:i=j<;>by_cases h2:l=m<;>simp [h,h2]
theorem uH{l:List Int}(h:listOf H v=some (l.map V.int)):BP H v=some (.list (l.map PyData.int)):=by
 unfold listOf at h
 split at h
 ·rename_i x
  split at h
  ·rename_i vs hx
   cases h
   refine(?_:(match H.get x with|some (.list vs)=>(qw vs).map PyData.list|some (.cI [])=>_|some (.aU [])=>_|_=>_)=_)
   refine hx.symm▸?_
   refine(?_:(qw _).map PyData.list=_)
   rw [yB];rfl
  ·exact nn h
 ·apply Vk h
  refine(?_:(qw _).map PyData.list=_)
  rw [yB];rfl
 ·exact nn h
theorem Wp.XJ{a b:V}{l m:List Int}(h1:listOf H a=some (l.map V.int))(h2:listOf H b=some (m.map V.int))(q:Q (decide (l=m)) H):Wp (aX .Eq a b) H Q:=
 Wp.eq (uH h1) (uH h2) (by rw [r3,r3];rfl) (AU l m) q
theorem Wp.YJ{a b:V}{l m:List Int}(h1:listOf H a=some (l.map V.int))(h2:listOf H b=some (m.map V.int))(q:Q (!decide (l=m)) H):Wp (aX .NotEq a b) H Q:=
 Wp.ne (uH h1) (uH h2) (by rw [r3,r3];rfl) (AU l m) q
theorem Wp.YK{l:List VA}(h1:listOf H a=some (l.map V.ref))(q:Q (!l.isEmpty) H):Wp (aX .NotEq a (.lst [])) H Q:=by
 cases l with
 |nil=>exact Wp.YJ (l:= []) (m:= []) h1 rfl q
 |cons x l=>
  refine ie true H ?_ q
  haveI hn:BP H a=none∧lenOf H a=some (l.length+1):=by
   unfold listOf at h1
   split at h1
   ·rename_i y
    split at h1
    ·rename_i vs hx
     cases h1
     constructor
     ·refine(?_:(match H.get y with|some (.list vs)=>(qw vs).map PyData.list|some (.cI [])=>_|some (.aU [])=>_|_=>_)=_)
      refine hx.symm▸?_;rfl
     ·refine(?_:(match H.get y with|some (.list vs)=>some vs.length|_=>none)=_)
      refine hx.symm▸?_;simp
    ·exact nn h1
   ·apply Vk h1
    exact iN rfl (by refine(?_:some _=_);simp)
   ·exact nn h1
  refine(?_:((Oj a (.lst [])).d fun c=>pU (!c)) H=_)
  unfold M.d Oj
  (refine hn.1.symm▸?_;refine hn.2.symm▸?_)
  rfl
noncomputable abbrev eM(k:Str):V:= .tup [.str k,.none]
noncomputable def QR(H:Hp)(qd:VA)(ks:List Str)(q:Str→List VA):Prop:=∃es:List (Str×VA),H.get qd=some (.cI (es.map fun p=>(p.1,V.ref p.2)))∧(es.map (·.1)).Nodup∧(es.map (·.2)).Nodup∧
 (∀p∈es,p.1∈ks∧p.2.t=11∧q p.1≠ []∧H.get p.2=some (.list ((q p.1).map V.ref)))∧∀k,q k≠ []→∃a,(k,a)∈es
theorem kG:∀{es:List (Str×VA)},(es.map (·.1)).Nodup→(k,a)∈es→lJ (es.map fun p=>(p.1,V.ref p.2)) k=some (.ref a)
 | [],_,h=>by cases h
 |(k',a')::es,hn,h=>by
  simp only [bw,eI] at hn
  unfold lJ
  rw [bw,iK]
  rcases bF.mp h with e|h
  ·cases e;simp
  ·have:k'≠k:=by
    rintro rfl
    exact hn.1 (aP.mpr ⟨_,h,rfl⟩)
   simp only [this,decide_false]
   exact kG hn.2 h
theorem AZ{es:List (Str×VA)}(h:∀a,(k,a)∉es):lJ (es.map fun p=>(p.1,V.ref p.2)) k=none:=by
 unfold lJ
 rw [FX,Ls]
 intro p hp
 refine aS (aP.mp hp) fun q hq cj=>?_
 apply sb cj
 simp only [decide_eq_true_eq]
 rintro rfl
 exact h q.2 hq
theorem QR.look(R:QR H qd ks q)(k:Str):∃es,H.get qd=some (.cI es)∧((q k= []∧lJ es k=none)∨∃a,a.t=11∧lJ es k=some (.ref a)∧q k≠ []∧H.get a=some (.list ((q k).map V.ref))):=by
 refine xS (R) fun es e n1 n2 h1 h2=>?_
 refine dG _ e ?_
 by_cases h:q k= []
 ·refine .inl ⟨h,AZ fun a ha=>(h1 _ ha).2.2.1 h⟩
 ·refine dh (h2 k h) fun a ha=>?_
  refine ou (h1 _ ha) fun _ t _ g=>?_
  exact .inr ⟨a,t,kG n1 ha,h,g⟩
variable {qd c:VA}{ks:List Str}{q:Str→List VA}{k:Str}{κ:CR}
theorem m5[DecidableEq α]:∀{l ks:List α},l.Nodup→(∀x∈l,x∈ks)→l.length≤ks.length
 | [],_,_,_=>dM _
 |a::l,ks,hn,h=>by
  have hn:=eI.mp hn
  have ha:a∈ks:=h a (by simp)
  have:=m5 (l:=l) (ks:=ks.erase a) hn.2 fun x hx=>(List.mem_erase_of_ne (show x≠a from fun e=>hn.1 (e▸hx))).mpr (h x (by simp [hx]))
  rw [List.length_erase_of_mem ha] at this
  have:0<ks.length:=List.length_pos_of_mem ha
  simp only [r8]
  lia
noncomputable def qx(q:Str→List VA)(k:Str)(l:List VA):Str→List VA:=fun j=>if j=k then l else q j
theorem uN:qx q k l k=l:=if_pos rfl
theorem pQ(h:j≠k):qx q k l j=q j:=if_neg h
theorem EL{es:List (Str×VA)}(n1:(es.map (·.1)).Nodup)(h:∀p∈es,p.1∈ks):es.length≤ks.length:=by
 have:=m5 n1 fun x hx=>by refine aS (aP.mp hx) fun p hp u6=>?_;subst u6;exact h p hp
 rwa [aq] at this
theorem QR.put{es:List (Str×VA)}(hl:l≠ [])(e:H.get qd=some (.cI (es.map fun p=>(p.1,V.ref p.2))))(n1:(es.map (·.1)).Nodup)(n2:(es.map (·.2)).Nodup)
  (h1:∀p∈es,p.1∈ks∧p.2.t=11∧q p.1≠ []∧H.get p.2=some (.list ((q p.1).map V.ref))) (h2:∀k,q k≠ []→∃a,(k,a)∈es) (ha:(k,a)∈es)
  (e':H'.get qd=H.get qd) (g:H'.get a=some (.list (l.map V.ref))) (o:∀y:VA,y.t=11→y≠a→H.get y≠none→H'.get y=H.get y):QR H' qd ks (qx q k l):=by
 haveI inj:∀p∈es,p.2=a→p.1=k:=fun p hp h=>by
  refine dh (aQ.mp hp) fun i hi=>?_
  refine dh (aQ.mp ha) fun j hj=>?_
  haveI a1:(es.map (·.2))[i]? =some a:=by(refine(ah (aC))▸?_;refine hi.symm▸?_);exact congrArg some h
  have a2:(es.map (·.2))[j]? =some a:=by(refine(ah (aC))▸?_;refine hj.symm▸?_);rfl
  have:i=j:=(jN (aF.mp a1).1 n2).mp (a1.trans a2.symm)
  subst this;rw [hi] at hj;apply pe hj;rfl
 refine IE es (e'.trans e) n1 n2 (fun p hp=>?_) (fun j hj=>?_)
 ·refine ou (h1 p hp) fun x1 x2 x3 x4=>?_
  by_cases hk:p.1=k
  ·have:p.2=a:=by
    refine dh (aQ.mp hp) fun i hi=>?_
    refine dh (aQ.mp ha) fun j hj=>?_
    haveI a1:(es.map (·.1))[i]? =some k:=by(refine(ah (aC))▸?_;refine hi.symm▸?_);exact congrArg some hk
    have a2:(es.map (·.1))[j]? =some k:=by(refine(ah (aC))▸?_;refine hj.symm▸?_);rfl
    have:i=j:=(jN (aF.mp a1).1 n1).mp (a1.trans a2.symm)
    subst this;rw [hi] at hj;apply pe hj;rfl
   (refine this.symm▸?_;refine hk.symm▸?_;refine uN.symm▸?_)
   exact qI (hk▸x1) (this▸x2) hl g
  ·refine(ah (pQ hk))▸?_
   exact qI x1 x2 x3 ((o _ x2 (fun h=>hk (inj p hp h)) (by refine x4.symm▸?_;simp)).trans x4)
 ·by_cases hk:j=k
  ·exact mK a (hk▸ha)
  ·rw [pQ hk] at hj;exact h2 j hj
theorem QR.ins(hl:l≠ [])(hk:k∈ks)(e:H.get qd=some (.cI (es.map fun p=>(p.1,V.ref p.2))))(n1:(es.map (·.1)).Nodup)(n2:(es.map (·.2)).Nodup)
  (h1:∀p∈es,p.1∈ks∧p.2.t=11∧q p.1≠ []∧H.get p.2=some (.list ((q p.1).map V.ref))) (h2:∀k,q k≠ []→∃a,(k,a)∈es) (hq:q k= []) (ta:a.t=11) (fa:H.get a=none)
  (e':H'.get qd=some (.cI ((es++ [(k,a)]).map fun p=>(p.1,V.ref p.2)))) (g:H'.get a=some (.list (l.map V.ref))) (o:∀y:VA,y.t=11→y≠a→H.get y≠none→H'.get y=H.get y):QR H' qd ks (qx q k l):=by
 haveI nk:∀p∈es,p.1≠k:=fun p hp e=>(h1 p hp).2.2.1 (e▸hq)
 haveI na:∀p∈es,p.2≠a:=fun p hp e=>by have:=(h1 p hp).2.2.2;rw [e,fa] at this;exact nn this
 refine IE _ e' ?_ ?_ (fun p hp=>?_) (fun j hj=>?_)
 ·rw [dK,fq]
  refine fM n1 (by simp) (fun x hx y hy=>?_)
  refine aS (aP.mp hx) fun p hp cj=>?_
  apply sb cj
  simp at hy;apply iH hy;exact nk p hp
 ·rw [dK,fq]
  refine fM n2 (by simp) (fun x hx y hy=>?_)
  refine aS (aP.mp hx) fun p hp cj=>?_
  apply sb cj
  simp at hy;apply iH hy;exact na p hp
 ·rcases eH.mp hp with hp|hp
  ·refine ou (h1 p hp) fun x1 x2 x3 x4=>?_
   refine(ah (pQ (nk p hp)))▸?_
   exact qI x1 x2 x3 ((o _ x2 (na p hp) (by refine x4.symm▸?_;simp)).trans x4)
  ·simp at hp;apply iH hp
   refine uN.symm▸?_;exact qI hk ta hl g
 ·by_cases Yd:j=k
  ·exact mK a (by apply sb Yd;simp)
  ·rw [pQ Yd] at hj
   refine dh (h2 j hj) fun b hb=>?_
   exact mK b (by simp [hb])
theorem QR.sub{es:List (Str×VA)}(e:H.get qd=some (.cI (es.map fun p=>(p.1,V.ref p.2))))(n1:(es.map (·.1)).Nodup)(n2:(es.map (·.2)).Nodup)
  (h1:∀p∈es,p.1∈ks∧p.2.t=11∧q p.1≠ []∧H.get p.2=some (.list ((q p.1).map V.ref))) (h2:∀k,q k≠ []→∃a,(k,a)∈es)
  (e':H'.get qd=some (.cI (if l= [] then CF (es.map fun p=>(p.1,V.ref p.2)) k else yH (es.map fun p=>(p.1,V.ref p.2)) k (.ref a')))) (hq:q k≠ []) (ta:a'.t=11) (fa:H.get a'=none) (g:l≠ []→H'.get a'=some (.list (l.map V.ref)))
  (o:∀y:VA,y.t=11→y≠a'→H.get y≠none→H'.get y=H.get y):QR H' qd ks (qx q k l):=by
 have na:∀p∈es,p.2≠a':=fun p hp e=>by have:=(h1 p hp).2.2.2;(replace this:=(e)▸this;replace this:=(fa)▸this);exact nn this
 refine dh (h2 k hq) fun a ha=>?_
 by_cases hl:l= []
 ·subst hl
  replace e':=(if_pos rfl)▸e'
  have de:CF (es.map fun p=>(p.1,V.ref p.2)) k=(es.filter fun p=>decide (p.1≠k)).map fun p=>(p.1,V.ref p.2):=by
   unfold CF;rw [jD];rfl
  replace e':=(de)▸e'
  refine IE _ e' (iP.nodup (iP.map _ (wm)) n1) (iP.nodup (iP.map _ (wm)) n2) (fun p hp=>?_) (fun j hj=>?_)
  ·refine cQ (bH.mp hp) fun hp hk=>?_
   haveI hk:p.1≠k:=by simpa using hk
   refine ou (h1 p hp) fun x1 x2 x3 x4=>?_
   refine(ah (pQ hk))▸?_
   exact qI x1 x2 x3 ((o _ x2 (na p hp) (by rw [x4];simp)).trans x4)
  ·by_cases hk:j=k
   ·subst hk;replace hj:=(uN)▸hj;exact absurd rfl hj
   ·replace hj:=(pQ hk)▸hj
    refine dh (h2 j hj) fun b hb=>?_
    exact mK b (bH.mpr ⟨hb,by simpa using hk⟩)
 ·replace e':=(if_neg hl)▸e'
  haveI se:yH (es.map fun p=>(p.1,V.ref p.2)) k (.ref a')=(es.map fun p=>if p.1=k then(p.1,a') else p).map fun p=>(p.1,V.ref p.2):=by
   unfold yH
   refine(ah (kG n1 ha))▸?_
   simp only [Option.isSome_some,if_true,eW]
   refine eS fun p _=>?_
   simp only [Function.comp]
   split<;>rfl
  replace e':=(se)▸e'
  haveI m1:(es.map fun p=>if p.1=k then(p.1,a') else p).map (·.1)=es.map (·.1):=by
   rw [eW]
   refine eS fun p _=>?_
   simp only [Function.comp];split<;>rfl
  have key:∀p∈es,p.1=k→p.2=a:=fun p hp hk=>by
   refine dh (aQ.mp hp) fun i hi=>?_
   refine dh (aQ.mp ha) fun j hj=>?_
   haveI a1:(es.map (·.1))[i]? =some k:=by rw [aC,hi];exact congrArg some hk
   have a2:(es.map (·.1))[j]? =some k:=by rw [aC,hj];rfl
   have:i=j:=(jN (aF.mp a1).1 n1).mp (a1.trans a2.symm)
   subst this;replace hj:=(hi)▸hj;apply pe hj;rfl
  refine IE _ e' (by rw [m1];exact n1) ?_ (fun p hp=>?_) (fun j hj=>?_)
  ·clear e' se m1 h2 o g e
   induction es with
   |nil=>simp
   |cons p es ih=>
    simp only [bw,eI] at n1 n2 ⊢
    haveI rest:∀x∈es,x∈p::es:=fun x hx=>by simp [hx]
    haveI ZN:p.1=k∨(k,a)∈es:=by
     rcases bF.mp ha with e|h
     ·apply sb e;exact .inl rfl
     ·exact .inr h
    by_cases hk:p.1=k
    ·haveI same:(es.map fun p=>if p.1=k then(p.1,a') else p)=es:=by
      conv=>rhs;rw [←qB es]
      refine eS fun x hx=>?_
      have:x.1≠k:=fun e=>n1.1 (aP.mpr ⟨x,hx,e.trans hk.symm⟩)
      simp [this]
     rw [same,if_pos hk]
     exact iN (fun h=>by refine aS (aP.mp h) fun x hx e=>?_;exact na x (rest x hx) e) n2.2
    ·rw [if_neg hk]
     refine iN (fun h=>?_) (ih n1.2 n2.2 (fun x hx=>h1 x (rest x hx)) (fun x hx=>na x (rest x hx)) (ZN.resolve_left hk) fun x hx e=>key x (rest x hx) e)
     refine aS (aP.mp h) fun x hx e=>?_
     refine aS (aP.mp hx) fun y hy cj=>?_
     subst cj
     split at e
     ·exact na p (by simp) e.symm
     ·exact n2.1 (aP.mpr ⟨y,hy,e⟩)
  ·refine aS (aP.mp hp) fun p0 Qq cj=>?_
   apply sb cj
   refine ou (h1 p0 Qq) fun x1 x2 x3 x4=>?_
   by_cases hk:p0.1=k
   ·rw [if_pos hk]
    refine(?_:p0.1∈ks∧a'.t=11∧qx q k l p0.1≠ []∧H'.get a'=some (.list ((qx q k l p0.1).map V.ref)))
    rw [hk,uN]
    exact qI (hk▸x1) ta hl (g hl)
   ·rw [if_neg hk,pQ hk]
    exact qI x1 x2 x3 ((o _ x2 (na p0 Qq) (by rw [x4];simp)).trans x4)
  ·by_cases hk:j=k
   ·apply iH hk;exact mK a' (aP.mpr ⟨_,ha,by simp⟩)
   ·replace hj:=(pQ hk)▸hj
    refine dh (h2 j hj) fun b hb=>?_
    exact mK b (aP.mpr ⟨_,hb,by simp [hk]⟩)
theorem NH(h:∀a,(k,a)∉es):yH (es.map fun p=>(p.1,V.ref p.2)) k (.ref a)=(es++ [(k,a)]).map fun p=>(p.1,V.ref p.2):=by
 unfold yH
 refine(ah (AZ h))▸?_
 simp
theorem Wp.MQ(h:H.get x=some (.cI es))(e:lJ es k=some u)(q:Q u H):Wp (fc (.ref x) (eM k)) H Q:=
 ⟨u,H,by refine(?_:(match H.get x with|some (.cI es)=>(match lJ es k with|some u=>some (u,H)|none=>none)|_=>none)=_);refine h.symm▸?_;refine(?_:(match lJ es k with|some u=>some (u,H)|none=>none)=_);(refine e.symm▸?_;with_reducible rfl),q⟩
theorem Wp.Hb(h:H.get x=some (.cI es))(e:es.length≤1000000)(q:Q () (H.set x (.cI (yH es k u)))):Wp (mD (.ref x) (eM k) u) H Q:=
 ⟨(),_,by refine(?_:(match H.get x,eM k with|some (.et es),.int k=>_|some (.cI es),i=>_|_,_=>_)=_);refine h.symm▸?_;refine(?_:(if es.length≤1000000 then some ((),H.set x (.cI (yH es k u))) else none)=_);(refine(ah (if_pos e))▸?_;with_reducible rfl),q⟩
theorem Wp.WQ(h:H.get x=some (.cI es))(q:Q (lJ es k).isSome H):Wp (FZ (eM k) (.ref x)) H Q:=
 ⟨_,H,by
  have:listOf H (.ref x)=none:=by refine(?_:(match H.get x with|some (.list vs)=>some vs|_=>none)=_);(refine h.symm▸?_;with_reducible rfl)
  unfold FZ
  refine this.symm▸?_
  refine(?_:(match H.get x with|some (.cI es)=>some ((lJ es k).isSome,H)|_=>none)=_)
  (refine h.symm▸?_;with_reducible rfl),q⟩
theorem Wp.jo(h:H.get x=some (.list ls))(q:Q () H):Wp (jo (.ref x)) H Q:=PX h q
theorem Wp.append(h:H.get x=some (.list ls))(e:ls.length≤1000000)(q:Q .none (H.set x (.list (ls++ [u])))):Wp (fQ (.ref x) [u]) H Q:=Ei h e q
theorem Wp.IY(hf:eP H)(ht:tg<100)(e:pB vs.length 1000000=true)(q:Q (.ref ⟨tg,H.next⟩) (H.set ⟨tg,H.next⟩ (.list vs))):Wp ((dB tg).d fun x=>lL x vs) H Q:=
 Wp.b (jX (Aq (bG e) (hf _ ht (az _)) q))
theorem Wp.Ma(h:H.get x=some (.cI es))(q:Q () H):Wp (tC (.ref x)) H Q:=
 ⟨(),H,by refine(?_:(match H.get x with|some (.aU _)=>some ((),H)|some (.cI _)=>some ((),H)|some (.et _)=>some ((),H)|_=>none)=_);(refine h.symm▸?_;with_reducible rfl),q⟩
theorem Wp.lJ(h:H.get x=some (.cI es))(q:Q ((lJ es k).getD d) H):Wp (wQ (.ref x) [eM k,d]) H Q:=
 ⟨_,H,by refine(?_:(match H.get x,some k with|some (.cI es),some k=>some ((Internal.lJ es k).getD d,H)|_,_=>none)=_);(refine h.symm▸?_;with_reducible rfl),q⟩
theorem Wp.Xb(h:H.get x=some (.cI es))(e:Internal.lJ es k=some u)(hl:es.length≤1000000)(q:Q u (H.set x (.cI (CF es k)))):Wp (G5 (.ref x) [eM k,d]) H Q:=
 ⟨_,_,by refine(?_:(match H.get x,some k with|some (.cI es),some k=>(if es.length≤1000000 then(match Internal.lJ es k with|some u=>some (u,H.set x (.cI (CF es k)))|none=>none) else none)|_,_=>none)=_);rw [h];simp only [e,hl,if_true],q⟩
theorem CO(hf:eP H)(R:QR H qd ks q)(hk:k∈ks)(yW:ks.length≤1000)(hlen:(q k).length≤1000)(Ww:Old H qd)(jC:qd.t≠11)(hc:H.get c=some (.inst 31 (cN κ)))(mf:κ.key=eM k)(tc:c.t=101)(tq:qd.t≠101)
  (qq:∀H',cZ (fun y=>y=c∨y=qd∨y.t=11) H H'→QR H' qd ks (qx q k (q k++ [c]))→H'.get c=some (.inst 31 (cN {κ with state:=S_ "queued"}))→Q .none H'):Wp (p9 [.ref qd,.ref c]) H Q:=by
 refine xS (id R) fun es e n1 n2 h1 h2=>?_
 haveI U2:(es.map fun p=>(p.1,V.ref p.2)).length≤1000000:=by rw [aq];exact ai (EL n1 fun p hp=>(h1 p hp).1) (ai yW (by exact af _ _))
 haveI oc:Old H c:= .inl (by refine tc.symm▸?_;exact eJ _)
 haveI cq:c≠qd:=fun h=>tq (h▸tc)
 refine Wp.f rfl ?_
 unfold xi
 refine Wp.b2 (Wp.aE hc kC ?_)
 refine mf.symm▸?_
 refine Wp.b (Wp.WQ e (Wp.p ?_))
 have fin:∀(aG:Hp) (Ms:List (Str×V)) (a:VA) (l:List VA),cZ (fun y=>y=c∨y=qd∨y.t=11) H aG→aG.get qd=some (.cI Ms)→lJ Ms k=some (.ref a)→aG.get a=some (.list (l.map V.ref))→l.length≤1000→a.t=11→Old aG a→aG.get c=H.get c→
   (∀H',H'.get qd=aG.get qd→H'.get a=some (.list ((l++ [c]).map V.ref))→(∀y:VA,y≠a→y≠c→H'.get y=aG.get y)→QR H' qd ks (qx q k (q k++ [c])))→
   Wp ((((((Internal.aE (.ref c) .key).d fun k=>(fc (.ref qd) k)).d fun v=>((jo v).d fun _=>(fQ v [.ref c]))).d fun _=>pU ()).d fun _=>((Internal.bb (.ref c) .state (.str "queued")).d fun _=>(pU (Fl.next []))))) aG fun r H'=>Q (match r with| .ret v=>v| .next _=> .none) H':=by
  intro aG Ms a l s1 g1 g2 g3 hl ta oa gc hQ
  haveI ca:c≠a:=fun h=>by(replace tc:=(h)▸tc;replace tc:=(ta)▸tc);cases tc
  haveI qa:qd≠a:=fun h=>jC (by(refine h.symm▸?_;refine ta.symm▸?_;with_reducible rfl))
  haveI Rv:=gc.trans hc
  refine Wp.b4 (Wp.aE Rv kC ?_)
  refine mf.symm▸?_
  refine Wp.MQ g1 g2 (Wp.b (Wp.jo g3 (Wp.append g3 (by rw [aq];exact ai ‹_› (by decide)) (Wp.p ?_))))
  refine Wp.b (Wp.bb (aZ ca Rv) mS (by kernel_rfl) (Wp.p (qq _ ?_ (hQ _ ?_ ?_ ?_) au)))
  ·exact(s1.trans (dm (.inr (.inr ta)) oa)).trans (dm (.inl rfl) (oc.on s1).set)
  ·exact aZ (bM cq) (aZ qa rfl)
  ·refine dK.symm▸?_;exact aZ (bM ca) au
  ·exact fun y h1 h2=>aZ h2 (aZ h1 rfl)
 by_cases hq:q k= []
 ·haveI nk:∀a,(k,a)∉es:=fun a ha=>(h1 _ ha).2.2.1 hq
  refine(ah (AZ nk))▸?_
  haveI fa:H.get ⟨11,H.next⟩=none:=hf _ (by refine(?_:11<100);exact af _ _) (az _)
  haveI qn:qd≠⟨11,H.next⟩:=fun h=>jC (by(refine h.symm▸?_;with_reducible rfl))
  haveI cn:c≠⟨11,H.next⟩:=fun h=>by replace tc:=(h)▸tc;cases tc
  refine Wp.cy (Wp.b2 (Wp.IY hf (by exact af _ _) (by kernel_rfl) (Wp.b (Wp.aE (aZ cn hc) kC ?_))))
  refine mf.symm▸?_
  refine Wp.Hb (aZ qn e) U2 (Wp.p ?_)
  refine(ah (NH nk))▸?_
  refine fin _ _ ⟨11,H.next⟩ [] ?_ au (kG (k:=k) (a:=⟨11,H.next⟩) ?_ (by simp)) (aZ (bM qn) au) (by simp) rfl (.inr (j0 (aW _))) (aZ cq (aZ cn rfl)) fun H' g1 g2 g3=>?_
  ·exact(gP (by exact af _ _)).trans (dm (.inr (.inl rfl)) Ww.set)
  ·rw [dK,fq]
   refine fM n1 (by simp) (fun x hx y hy=>?_)
   refine aS (aP.mp hx) fun p hp cj=>?_
   apply sb cj
   simp at hy;apply iH hy
   intro e;exact nk p.2 (by refine(e)▸?_;exact hp)
  ·refine hq.symm▸?_
   refine QR.ins (a:=⟨11,H.next⟩) (by simp) hk e n1 n2 h1 h2 hq rfl fa (g1.trans au) g2 fun y ty hy hn=>?_
   haveI yc:y≠c:=fun h=>by(replace ty:=(h)▸ty;replace ty:=(tc)▸ty);cases ty
   haveI yq:y≠qd:=fun h=>jC (by(refine(h)▸?_;refine ty.symm▸?_;with_reducible rfl))
   exact(g3 y hy yc).trans (aZ yq (aZ hy rfl))
 ·refine dh (h2 k hq) fun a ha=>?_
  refine ou (h1 _ ha) fun x1 x2 x3 x4=>?_
  refine(ah (kG n1 ha))▸?_
  refine Wp.cy (Wp.p (fin H _ a (q k) .refl e (kG n1 ha) x4 hlen x2 (hf.old x4) rfl fun H' g1 g2 g3=>?_))
  refine QR.put (by simp) e n1 n2 h1 h2 ha g1 g2 fun y ty hy hn=>g3 y hy fun h=>by(replace ty:=(h)▸ty;replace ty:=(tc)▸ty);cases ty
def CallAt(H:Hp)(x:VA)(κ:CR):Prop:=H.get x=some (.inst 31 (cN κ))∧κ.number=(x.n:Int)∧x.t=101
theorem cZ.old(a:cZ (fun _=>False) H H')(hf:eP H)(e:H.get y=some o):H'.get y=some o:=a.get id (hf.old e) e
theorem Mu{l:List VA}(h:∀x,b (.ref x)=p x):((l.map V.ref).filter b).map id=(l.filter p).map V.ref:=by
 rw [qB,jD]
 congr 1
 refine congrArg (As · l) (funext fun x=>?_)
 exact h x
theorem tU(hf:eP H)(R:QR H qd ks q)(yW:ks.length≤1000)(hlen:(q k).length≤1000)(Ww:Old H qd)(jC:qd.t≠11)(hc:CallAt H c κ)(mf:κ.key=eM k)(tq:qd.t≠101)(hm:c∈q k)(wV:∀x∈q k,∃Lz,CallAt H x Lz)
  (qq:∀H',cZ (fun y=>y=qd∨y.t=11) H H'→QR H' qd ks (qx q k ((q k).filter fun x=>decide (x≠c)))→Q .none H'):Wp (lV [.ref qd,.ref c]) H Q:=by
 refine xS (id R) fun es e n1 n2 h1 h2=>?_
 have U2:(es.map fun p=>(p.1,V.ref p.2)).length≤1000000:=by rw [aq];exact ai (EL n1 fun p hp=>(h1 p hp).1) (ai yW (by exact af _ _))
 have hq:q k≠ []:=fun h=>by replace hm:=(h)▸hm;cases hm
 refine dh (h2 k hq) fun a ha=>?_
 refine ou (h1 _ ha) fun x1 x2 x3 x4=>?_
 refine Wp.f rfl ?_
 unfold vo
 refine Wp.b3 (Wp.Ma e (Wp.b2 (Wp.aE hc.1 kC (Wp.b2 (Wp.lst (by kernel_rfl) (Wp.p (Wp.p ?_)))))))
 refine mf.symm▸?_
 refine Wp.lJ e ?_
 refine(ah (kG n1 ha))▸?_
 refine gT (vs:=(q k).map V.ref) (by exact af _ _) (fun v=>match v with| .ref x=>decide (x≠c)|_=>false) id (fun _=>True) hf (by rw [aq];exact ai ‹_› (by decide)) trivial (fun H' _ s j=>c6 (s.old hf x4) j) (fun _ _ _ _ _ _=>trivial) (fun v hv H' _ s=>?_) (fun v hv _ H' _ s=>Wp.p ⟨rfl,trivial,.refl⟩) fun H' r _ s tr lr hr gr=>?_
 ·refine aS (aP.mp hv) fun x hx cj=>?_
  subst cj
  refine j9 (wV x hx) fun Lz y1 y2 y3=>?_
  refine Wp.b2 (Wp.aE (s.old hf y1) yQ (Wp.b (Wp.aE (s.old hf hc.1) yQ (Wp.Vh ?_))))
  (refine y2.symm▸?_;refine hc.2.1.symm▸?_)
  have:(!((x.n:Int)==(c.n:Int)))=decide (x≠c):=by
   have t1:=hc.2.2
   obtain⟨xt,xn⟩:=x
   obtain⟨ct,cn⟩:=c
   dsimp only at y3 t1
   subst y3 t1
   by_cases h:xn=cn
   ·apply sb h;simp
   ·haveI e2:((xn:Int)=cn)↔xn=cn:=by lia
    simp [h,e2]
  refine this.symm▸?_
  induction hd:decide (x≠c)<;>exact Wp.p ⟨hd.symm,trivial,.refl⟩
 ·rw [Mu (p:=fun x=>decide (x≠c)) (fun _=>rfl)] at gr
  have gq:H'.get qd=some (.cI (es.map fun p=>(p.1,V.ref p.2))):=s.old hf e
  have oq:Old H' qd:=Ww.on s
  have rq:r≠qd:=fun h=>jC (by(refine(h)▸?_;refine tr.symm▸?_;with_reducible rfl))
  have fr:H.get r=none:=hf r (by refine tr.symm▸?_;exact af _ _) lr
  generalize hl:(q k).filter (fun x=>decide (x≠c))=l at gr qq
  have lo:listOf H' (.ref r)=some (l.map V.ref):=by refine(?_:(match H'.get r with|some (.list vs)=>some vs|_=>none)=_);(refine gr.symm▸?_;with_reducible rfl)
  refine Wp.b2 (Wp.lst (by kernel_rfl) (Wp.YK lo ?_))
  have X6:H'.get c=some (.inst 31 (cN κ)):=s.old hf hc.1
  have cont:∀{iw:Hp} {d:List (Str×V)},iw=H'.set qd (.cI d)→d=(if l= [] then CF (es.map fun p=>(p.1,V.ref p.2)) k else yH (es.map fun p=>(p.1,V.ref p.2)) k (.ref r))→Q .none iw:=by
   intro iw d hH hd
   apply iH hH
   refine qq _ ((s.mono fun _ f=>f.elim).trans (dm (.inl rfl) oq)) (QR.sub (a':=r) e n1 n2 h1 h2 ?_ hq tr fr (fun _=>aZ rq gr) fun y ty hy hn=>?_)
   ·(refine au.symm▸?_;refine hd.symm▸?_;with_reducible rfl)
   ·haveI yq:y≠qd:=fun h=>jC (by(refine(h)▸?_;refine ty.symm▸?_;with_reducible rfl))
    refine aZ yq ?_
    induction hg:H.get y with
    |none=>exact absurd hg hn
    |some o=>exact s.old hf hg
  induction l with
  |nil=>
   refine Wp.cy (Wp.b3 (Wp.Ma gq (Wp.b2 (Wp.aE X6 kC (Wp.p ?_)))))
   refine mf.symm▸?_
   refine Wp.Xb gq (kG n1 ha) U2 (Wp.p (Wp.p (Wp.p (cont rfl ?_))))
   (refine(ah (if_pos rfl))▸?_;with_reducible rfl)
  |cons x l=>
   refine Wp.cy (Wp.b2 (Wp.aE X6 kC ?_))
   refine mf.symm▸?_
   refine Wp.Hb gq U2 (Wp.p (Wp.p (cont rfl ?_)))
   rw [if_neg (by simp)]
theorem CM(R:QR H qd ks q)(hlen:(q k).length≤1000)(qq:Q (match q k with| []=> .none|x::_=> .ref x) H):Wp (pZ [.ref qd,eM k]) H Q:=by
 refine aS (R.look k) fun es e h=>?_
 refine Wp.f rfl ?_
 unfold xh
 refine Wp.b2 (Wp.Ma e (Wp.b3 (Wp.lst (by kernel_rfl) (Wp.p (Wp.p (Wp.lJ e ?_))))))
 rcases h with⟨h1,h2⟩|⟨a,_,h2,h3,h4⟩
 ·refine h2.symm▸?_
  replace qq:=(h1)▸qq
  exact Wp.b (Wp.b ⟨false,H,rfl,Wp.p (Wp.p qq)⟩)
 ·refine h2.symm▸?_
  induction hq:q k with
  |nil=>exact absurd hq h3
  |cons x l=>
   rw [hq] at qq h4 hlen
   refine Wp.b (Wp.b ⟨true,H,?_,⟨.ref x,H,?_,Wp.p qq⟩⟩)
   ·refine(?_:(match H.get a with|some (.list vs)=>if vs.length≤4000000 then some (!vs.isEmpty,H) else none|_=>none)=_)
    refine h4.symm▸?_
    show(if _ then _ else _)=_
    rw [if_pos (by rw [aq];exact aT ‹_› (by decide))];rfl
   ·refine(?_:(match H.get a with|some (.list vs)=>(match qL vs 0 with|some u=>some (u,H)|none=>none)|some (.et es)=>_|_=>none)=_)
    rw [h4];rfl
theorem tD(R:QR H qd ks q)(hlen:(q k).length≤1000)(qq:Q (.int (q k).length) H):Wp (lU [.ref qd,eM k]) H Q:=by
 refine aS (R.look k) fun es e h=>?_
 refine Wp.f rfl ?_
 unfold vm
 refine Wp.b4 (Wp.Ma e (Wp.b3 (Wp.lst (by kernel_rfl) (Wp.p (Wp.p (Wp.lJ e (Wp.p ?_)))))))
 rcases h with⟨h1,h2⟩|⟨a,_,h2,h3,h4⟩
 ·refine h2.symm▸?_
  replace qq:=(h1)▸qq
  exact ie _ H rfl (Wp.p qq)
 ·refine h2.symm▸?_
  refine ie (.int (q k).length) H ?_ (Wp.p qq)
  haveI lo:listOf H (.ref a)=some ((q k).map V.ref):=by refine(?_:(match H.get a with|some (.list vs)=>some vs|_=>none)=_);(refine h4.symm▸?_;with_reducible rfl)
  refine(?_:(match listOf H (.ref a) with|some us=>if us.length≤4000000 then some (V.int us.length,H) else none|none=>none)=_)
  refine lo.symm▸?_
  show(if _ then _ else _)=_
  rw [if_pos (by rw [aq];exact ai ‹_› (by decide)),aq]
end
section
variable {H:Hp}{th t qd:VA}{i:Int}{τ:TS}{en w l v:V}
noncomputable def eK(en:V)(qd:VA)(w l:V):List (Fd×V):= [(.number,.int 30),(.entries,en),(.eO,.ref qd),(.writer,w),(.nu,.lst []),(.line,l),(.body,.none),(.frame,.none),(.cells,.none),(.xZ,.bool false)]
theorem DD:il (eK en qd w l) .entries=some en:=rfl
theorem fU:il (eK en qd w l) .eO=some (.ref qd):=rfl
theorem oG:il (eK en qd w l) .writer=some w:=rfl
theorem vA:il (eK en qd w l) .nu=some (.lst []):=rfl
theorem wh:il (eK en qd w l) .line=some l:=rfl
theorem zp:jB (eK en qd w l) .writer v=eK en qd v l:=rfl
theorem Lp:jB (eK en qd w l) .line v=eK en qd w v:=rfl
theorem Wp.lz(h:Wp m H fun b H'=>b=true∧Wp n H' Q):Wp (testM .And [m,n]) H Q:=
 Wp.b (h.mono fun b H' z51=>cQ z51 fun e q=>by apply iH e;exact Wp.b (q.mono fun c iw q=>by induction c<;>exact Wp.p q))
theorem Wp.jE(h:Wp m H fun b H'=>b=false∧Q false H'):Wp (testM .And (m::ms)) H Q:=Wp.b (h.mono fun b H' z73=>cQ z73 fun e q=>by apply iH e;exact Wp.p q)
theorem Wp.Ld(h:Wp m H fun b H'=>b=true∧Q true H'):Wp (testM .Or (m::ms)) H Q:=Wp.b (h.mono fun b H' z69=>cQ z69 fun e q=>by apply iH e;exact Wp.p q)
theorem Wp.yA(h:Wp m H fun b H'=>b=false∧Wp n H' Q):Wp (testM .Or [m,n]) H Q:=
 Wp.b (h.mono fun b H' z50=>cQ z50 fun e q=>by apply iH e;exact Wp.b (q.mono fun c iw q=>by induction c<;>exact Wp.p q))
theorem Wp.nM(h:Wp m H Q):Wp (testM o [m]) H Q:=Wp.b (h.mono fun c iw q=>by induction c<;>induction o<;>exact Wp.p q)
theorem Wp.jH(q:Q (!a.isNone) H):Wp (aX .IsNot a .none) H Q:=⟨_,H,rfl,q⟩
theorem Wp.is(q:Q a.isNone H):Wp (aX .Is a .none) H Q:=⟨a.isNone,H,rfl,q⟩
theorem Wp.nil(h:listOf H a=some [])(q:Q true H):Wp (aX .Eq a (.lst [])) H Q:=Wp.XJ (l:= []) (m:= []) h rfl q
theorem EN(h:H.get th=some (.inst 221 (eK en qd .none l)))(q:Q (.bool true) H):Wp (ry [.ref th,.bool true]) H Q:=by
 refine Wp.f rfl ?_
 unfold zb
 refine Wp.b2 (Wp.aE h oG (Wp.jH (Wp.cy (Wp.p (Wp.b ?_)))))
 refine Wp.b (Wp.b ⟨true,H,rfl,Wp.p (Wp.b ⟨false,H,rfl,?_⟩)⟩)
 exact Wp.b (Wp.aE h vA (Wp.b (Wp.lst (by kernel_rfl) (Wp.b (Wp.nil rfl (Wp.p (Wp.p q)))))))
theorem Ik(h:H.get th=some (.inst 221 (eK en qd w l)))(ht:H.get t=some (.inst 137 (bK i τ)))(hi:τ.inside= .int 0)(n:th≠t)(oh:Old H th)(ot:Old H t)
  (q:∀H',cZ (fun y=>y=t∨y=th) H H'→H'.get th=some (.inst 221 (eK en qd (.ref t) l))→H'.get t=some (.inst 137 (bK i {τ with inside:= .int 1}))→Q .none H'):Wp (vG [.ref th,.ref t,.bool true]) H Q:=by
 refine Wp.f rfl ?_
 unfold D6
 refine Wp.b2 (Wp.aE ht zo ?_)
 refine hi.symm▸?_
 refine Wp.b ⟨.int 1,H,rfl,Wp.bb ht we (by kernel_rfl) (Wp.b ⟨true,_,rfl,Wp.cy (Wp.b (Wp.bb (aZ n h) zp (by kernel_rfl) (Wp.p (Wp.p (q _ ?_ au (aZ (bM n) au))))))⟩)⟩
 exact .fO (.inr rfl) oh (.fO (.inl rfl) ot .refl)
theorem Gb(h:H.get th=some (.inst 221 (eK en qd .none l)))(hl:∀H',cZ (fun y=>y=t∨y=th) H H'→listOf H' l=some [])(ht:H.get t=some (.inst 137 (bK i τ)))(hi:τ.inside= .int 0)(n:th≠t)(oh:Old H th)(ot:Old H t)
  (q:∀H',cZ (fun y=>y=t∨y=th) H H'→H'.get th=some (.inst 221 (eK en qd (.ref t) l))→H'.get t=some (.inst 137 (bK i {τ with answer:= .none,raised:= .none,inside:= .int 1}))→Q .none H'):Wp (nz [.ref th,.ref t,.bool true]) H Q:=by
 refine Wp.f rfl ?_
 unfold BH
 refine Wp.b (Wp.bb ht pq (by kernel_rfl) (Wp.b (Wp.bb au rZ (by kernel_rfl) (Wp.b ?_))))
 haveI h2:=aZ (o:= .inst 137 (bK i {τ with answer:= .none,raised:= .none})) n (aZ (o:= .inst 137 (bK i {τ with answer:= .none})) n h)
 refine Wp.yA (Wp.b (Wp.aE h2 vA ⟨false,_,rfl,rfl,Wp.jE (Wp.b (Wp.aE h2 oG (Wp.jH ⟨rfl,?_⟩)))⟩))
 haveI s:cZ (fun y=>y=t∨y=th) H ((H.set t (.inst 137 (bK i {τ with answer:= .none}))).set t (.inst 137 (bK i {τ with answer:= .none,raised:= .none}))):= .fO (.inl rfl) ot (.fO (.inl rfl) ot .refl)
 refine Wp.cy (Wp.b (Wp.lz (Wp.b (Wp.aE h2 wh (Wp.b (Wp.lst (by kernel_rfl) (Wp.nil (hl _ s) ⟨rfl,?_⟩)))))))
 refine Wp.b (EN h2 ⟨true,_,rfl,Wp.cy (Wp.b2 (Ik h2 au hi n (oh.on s) (ot.on s) fun H' s' g1 g2=>Wp.p (Wp.p (Wp.p (Wp.p (q _ (s.trans s') g1 g2))))))⟩)
theorem K6(hf:eP H)(h:H.get th=some (.inst 221 (eK en qd w l)))(hl:∀H',cZ (fun _=>False) H H'→listOf H' l=some [])(oh:Old H th)
  (q:∀H' r,cZ (fun y=>y=th) H H'→H'.get th=some (.inst 221 (eK en qd w (.ref r)))→H'.get r=some (.list [])→r.t=9→r.n<H'.next→Q .none H'):Wp (xJ [.ref th]) H Q:=by
 refine Wp.f rfl ?_
 unfold G0
 haveI it:∀H',cZ (fun _=>False) H H'→∀j,itemAt H' l j=some ([]:List V)[j]? :=fun H' s j=>by
  have:=hl H' s
  unfold listOf at this
  split at this
  ·split at this
   ·cases this;exact c6 ‹_› j
   ·exact nn this
  ·apply Vk this;rfl
  ·exact nn this
 refine Wp.b3 (Wp.aE h wh (gT (vs:= []) (by exact af _ _) (fun _=>true) id (fun _=>True) hf (by simp) trivial (fun H' _ s=>it H' s) (fun _ _ _ _ _ _=>trivial) (fun v hv=>by exact aj (by cases hv)) (fun v hv=>by exact aj (by cases hv)) fun H' r _ s tr _ nr gr=>?_))
 haveI h':=s.old hf h
 refine Wp.bb h' Lp (by kernel_rfl) ?_
 haveI rt:r≠th:=fun e=>by
  subst e
  replace gr:=(h')▸gr;exact aj (by cases gr)
 haveI Tu:(H'.set th (.inst 221 (eK en qd w (.ref r)))).get r=some (.list []):=aZ rt gr
 refine Wp.cy (pw (fun _ st aG=>aG=H'.set th (.inst 221 (eK en qd w (.ref r)))) 0 (by exact sZ _) rfl fun k st aG e=>?_)
 apply iH e
 refine Wp.jE (Wp.b (Wp.aE au wh ⟨false,H'.set th (.inst 221 (eK en qd w (.ref r))),?_,rfl,?_⟩))
 ·refine(?_:(match(H'.set th _).get r with|some (.list vs)=>if vs.length≤4000000 then some (!vs.isEmpty,_) else none|_=>none)=_)
  rw [Tu];rfl
 ·rw [if_neg aw]
  exact Wp.p (q _ r ((s.mono fun _ f=>f.elim).trans (dm rfl (oh.on s))) au Tu tr (j0 nr))
theorem EM(hf:eP H)(h:H.get th=some (.inst 221 (eK en qd (.ref t) l)))(hl:∀H',cZ (fun y=>y=t∨y=th) H H'→listOf H' l=some [])(ht:H.get t=some (.inst 137 (bK i τ)))(hi:τ.inside= .int 1)(n:th≠t)(oh:Old H th)(ot:Old H t)
  (q:∀H' r,cZ (fun y=>y=t∨y=th) H H'→H'.get th=some (.inst 221 (eK en qd .none (.ref r)))→H'.get r=some (.list [])→r.t=9→r.n<H'.next→H'.get t=some (.inst 137 (bK i {τ with inside:= .int 0}))→Q .none H'):Wp (j7 [.ref th,.ref t]) H Q:=by
 refine Wp.f rfl ?_
 unfold za
 refine Wp.b2 (Wp.aE ht zo ?_)
 refine hi.symm▸?_
 haveI h2:=aZ (o:= .inst 137 (bK i {τ with inside:= .int 0})) n h
 refine Wp.b ⟨.int 0,H,rfl,Wp.bb ht we (by kernel_rfl) (Wp.b (Wp.lz (Wp.b (Wp.aE h2 oG (Wp.jH ⟨rfl,?_⟩)))))⟩
 refine Wp.b2 (Wp.aE h2 oG (Wp.aE au lI (Wp.b (Wp.aE au lI (Wp.JO ?_)))))
 rw [beq_self_eq_true]
 refine Wp.cy (Wp.b (Wp.bb h2 zp (by kernel_rfl) (Wp.p (Wp.b (Wp.b ?_)))))
 haveI s:cZ (fun y=>y=t∨y=th) H ((H.set t (.inst 137 (bK i {τ with inside:= .int 0}))).set th (.inst 221 (eK en qd .none l))):= .fO (.inr rfl) oh (.fO (.inl rfl) ot .refl)
 refine K6 (s.fresh hf) au (fun H' s'=>hl _ (s.trans (s'.mono fun _ f=>f.elim))) (oh.on s) fun H' r s' g1 g2 tr nr=>Wp.p (Wp.p (q _ r (s.trans (s'.mono fun _ e=> .inr e)) g1 g2 tr nr ?_))
 exact s'.get (bM n) (ot.on s) (aZ (bM n) au)
end
section
variable {H:Hp}{th t qd c:VA}{i:Int}{τ:TS}{κ:CR}{en w l:V}
noncomputable abbrev ff:VA:=⟨104,0⟩
noncomputable abbrev sV:VA:=⟨105,0⟩
structure TK where
 wb:V
 choose:V
 tasks:VA
 cS:Int
 settled:Int
 dN:VA
 serve:V
def pP(T:TK):List (Fd×V):= [(.wb,T.wb),(.choose,T.choose),(.lB,.ref sV),(.tasks,.ref T.tasks),(.cS,.int T.cS),(.settled,.int T.settled),(.mn,.ref ⟨106,0⟩),(.dN,.ref T.dN),(.serve,T.serve)]
variable {T:TK}
theorem Ln:il (pP T) .choose=some T.choose:=rfl
theorem ur:il (pP T) .lB=some (.ref sV):=rfl
theorem B4:il (pP T) .tasks=some (.ref T.tasks):=rfl
theorem B3:il (pP T) .cS=some (.int T.cS):=rfl
theorem Jp:il (pP T) .settled=some (.int T.settled):=rfl
theorem Jo:il (pP T) .mn=some (.ref ⟨106,0⟩):=rfl
theorem Kh:il (pP T) .dN=some (.ref T.dN):=rfl
theorem NY:il (pP T) .serve=some T.serve:=rfl
theorem E8:jB (pP T) .cS (.int n)=pP {T with cS:=n}:=rfl
noncomputable def HS(n:Int):List (Fd×V):= [(.now,.int n)]
theorem AA:il (HS n) .now=some (.int n):=rfl
theorem vB(h:H.get sV=some (.inst 88 (HS n)))(hk:0≤k)(q:Q (.int (n+k)) H):Wp (nh [.ref sV,.int k]) H Q:=by
 refine Wp.f rfl ?_
 unfold xm
 refine Wp.b2 (Wp.aE h AA (Wp.b ⟨.int (if(0:Int)>k then 0 else k),H,rfl,⟨.int (n+(if(0:Int)>k then 0 else k)),H,rfl,Wp.p ?_⟩⟩))
 rw [if_neg (by lia)]
 exact q
inductive Co
 |none
 |sW
 |num (k:Int)
noncomputable def Co.v:Co→V
 | .none=> .none
 | .sW=> .str "else"
 | .num k=> .int k
noncomputable def Co.dl(n:Int):Co→V
 | .num k=> .int (n+k)
 |_=> .none
noncomputable def Co.cond:Co→Bool
 | .sW=>true
 |_=>false
noncomputable def Co.ok:Co→Prop
 | .num k=>1≤k
 |_=>True
theorem uy{p:Co}(q:Q p.cond H):Wp (aX .Eq p.v (.str "else")) H Q:=by
 induction p with
 |none=>exact Wp.eq (d:= .none) (e:= .str "else") rfl rfl (by kernel_rfl) rfl q
 |sW=>exact Wp.Oi (by kernel_rfl) (by kernel_rfl) q
 |num k=>exact Wp.eq (d:= .int k) (e:= .str "else") rfl rfl (by kernel_rfl) rfl q
theorem ue(h:H.get ff=some (.inst 544 (pP T)))(q:Q (.int (T.cS+1)) (H.set ff (.inst 544 (pP {T with cS:=T.cS+1})))):Wp (gz [.ref ff]) H Q:=by
 refine Wp.f rfl ?_
 unfold mN
 refine Wp.b2 (Wp.aE h B3 (Wp.b ⟨.int (T.cS+1),H,rfl,Wp.bb h E8 (by kernel_rfl) (Wp.b (Wp.aE au B3 (Wp.p q)))⟩))
theorem Eu(hn:H.get c=none)(hnm:oB [.int n,.ref t,.ref th,key,vals]=c)(q:∀H',(∀y,y≠c→H'.get y=H.get y∧H'.pv y=H.pv y)→H.next≤H'.next→
  H'.get c=some (.inst 31 (cN ⟨n,t,th,key,vals,.str "made",.none,.bool false,.bool false,.none⟩))→Q (.ref c) H'):Wp (my 31 oB lN [.int n,.ref t,.ref th,key,vals]) H Q:=by
 refine Kl ?_
 refine hnm.symm▸?_
 refine r7 hn ?_
 refine Wp.f rfl ?_
 unfold qX
 repeat (first|with_reducible refine Wp.b ?_|with_reducible refine Wp.bb au rfl (by kernel_rfl) ?_|with_reducible refine Wp.p ?_)
 refine⟨rfl,q _ (fun y hy=>?_) ?_ (au.trans (by kernel_rfl))⟩
 ·constructor
  ·simp only [Hp.FA,if_neg hy]
  ·simp only [Hp.PR,if_neg hy]
 ·simp only [Hp.NJ];lia
end
section
variable {H:Hp}{th t qd c:VA}{i:Int}{τ:TS}{κ:CR}{en w l:V}{T:TK}
theorem NR(hc:X c)(ht:100≤c.t)(k:∀y,y≠c→H'.get y=H.get y∧H'.pv y=H.pv y)(n:H.next≤H'.next):cZ X H H':=
 ⟨n,fun y hy _=>k y fun e=>hy (e▸hc),fun f y hy hn=>by refine(ah ((k y fun e=>by rw [e] at hy;lia).1))▸?_;exact f y hy (by exact ai ‹_› ‹_›)⟩
theorem rU{p:Co}(hp:p.ok)(hk:H.get ff=some (.inst 544 (pP T)))(MB:H.get sV=some (.inst 88 (HS n)))(ht:H.get t=some (.inst 137 (bK i τ)))(tt:t.t=102)
  (hc:c=⟨101,(T.cS+1).toNat⟩) (hn:H.get c=none) (q:∀H',cZ (fun y=>y=ff∨y=t∨y=c) H H'→H'.get ff=some (.inst 544 (pP {T with cS:=T.cS+1}))→
   H'.get c=some (.inst 31 (cN ⟨T.cS+1,t,th,key,vals,.str "made",p.dl n,.bool false,.bool p.cond,.none⟩))→H'.get t=some (.inst 137 (bK i {τ with call:= .ref c,answer:= .none,raised:= .none}))→Q (.ref c) H'):
  Wp (oj [.ref ff,.ref th,.ref t,key,vals,p.v]) H Q:=by
 have ct:c.t=101:=by rw [hc]
 have vy:c≠t:=fun e=>by(replace ct:=(e)▸ct;replace ct:=(tt)▸ct);cases ct
 have Nn:c≠ff:=fun e=>by replace ct:=(e)▸ct;cases ct
 haveI YH:c≠sV:=fun e=>by replace ct:=(e)▸ct;cases ct
 haveI RU:t≠ff:=fun e=>by replace tt:=(e)▸tt;cases tt
 haveI ntc:t≠sV:=fun e=>by replace tt:=(e)▸tt;cases tt
 refine Wp.f rfl ?_
 unfold zc
 refine Wp.b4 (Kj hk (ue hk (Wp.p ?_)))
 refine Eu (c:=c) (aZ Nn hn) (by rw [hc];rfl) fun aG k1 n1 g1=>?_
 haveI e1:aG.get ff=some (.inst 544 (pP {T with cS:=T.cS+1})):=(k1 _ (bM Nn)).1.trans au
 haveI e2:aG.get sV=some (.inst 88 (HS n)):=(k1 _ (bM YH)).1.trans (aZ (by decide) MB)
 haveI e3:aG.get t=some (.inst 137 (bK i τ)):=(k1 _ (bM vy)).1.trans (aZ RU ht)
 haveI s1:cZ (fun y=>y=ff∨y=t∨y=c) H aG:=(dm (.inl rfl) (.inl (by decide))).trans (NR (.inr (.inr rfl)) (by lia) k1 n1)
 refine Wp.b3 (uy (Wp.p (Wp.bb g1 DP (by kernel_rfl) ?_)))
 have fin:∀(bh:Hp) (d:V),cZ (fun y=>y=ff∨y=t∨y=c) H bh→bh.get ff=some (.inst 544 (pP {T with cS:=T.cS+1}))→bh.get t=some (.inst 137 (bK i τ))→d=p.dl n→bh.get c=some (.inst 31 (cN ⟨T.cS+1,t,th,key,vals,.str "made",d,.bool false,.bool p.cond,.none⟩))→
   Wp ((Internal.bb (.ref t) .call (.ref c)).d fun _=>((Internal.bb (.ref t) .answer .none).d fun _=>((Internal.bb (.ref t) .raised .none).d fun _=>(pU (Fl.ret (.ref c)))))) bh fun r H'=>Q (match r with| .ret v=>v| .next _=> .none) H':=by
  intro bh d s2 f1 f2 hd f3
  subst hd
  refine Wp.b (Wp.bb f2 xy (by kernel_rfl) (Wp.b (Wp.bb au pq (by kernel_rfl) (Wp.b (Wp.bb au rZ (by kernel_rfl) (Wp.p (q _ ?_ ?_ ?_ au)))))))
  ·haveI ot:Old bh t:= .inl (by lia)
   exact s2.trans (.fO (.inr (.inl rfl)) ot (.fO (.inr (.inl rfl)) ot (.fO (.inr (.inl rfl)) ot .refl)))
  ·exact aZ (bM RU) (aZ (bM RU) (aZ (bM RU) f1))
  ·exact aZ vy (aZ vy (aZ vy f3))
 have s2:cZ (fun y=>y=ff∨y=t∨y=c) H (aG.set c (.inst 31 (cN ⟨T.cS+1,t,th,key,vals,.str "made",.none,.bool false,.bool p.cond,.none⟩))):=s1.trans (dm (.inr (.inr rfl)) (.inl (by lia)))
 induction p with
 |none=>
  refine Wp.b (Wp.jE (Wp.jH ⟨rfl,Wp.cy (Wp.p (fin _ _ s2 (aZ (bM Nn) e1) (aZ (bM vy) e3) rfl au))⟩))
 |sW=>
  refine Wp.b (Wp.lz (Wp.jH ⟨rfl,Wp.ne (d:= .str "else") (e:= .str "else") rfl rfl (by kernel_rfl) (c:=true) (by kernel_rfl) ?_⟩))
  exact Wp.cy (Wp.p (fin _ _ s2 (aZ (bM Nn) e1) (aZ (bM vy) e3) rfl au))
 |num k=>
  haveI hp:1≤k:=hp
  refine Wp.b (Wp.lz (Wp.jH ⟨rfl,Wp.ne (d:= .int k) (e:= .str "else") rfl rfl (by kernel_rfl) (c:=false) rfl ?_⟩))
  refine Wp.cy (Wp.b4 (Wp.aE (aZ (bM Nn) e1) ur (Wp.p (vB (aZ (bM YH) e2) (by exact SU ‹_›) (Wp.bb au vg (by kernel_rfl) (Wp.p ?_))))))
  exact fin _ _ (s2.trans (dm (.inr (.inr rfl)) (.inl (by lia)))) (aZ (bM Nn) (aZ (bM Nn) e1)) (aZ (bM vy) (aZ (bM vy) e3)) rfl au
theorem wz{p:Co}(hp:p.ok)(hk:H.get ff=some (.inst 544 (pP T)))(MB:H.get sV=some (.inst 88 (HS n)))(ht:H.get t=some (.inst 137 (bK i τ)))(tt:t.t=102)
  (hc:c=⟨101,(T.cS+1).toNat⟩) (hn:H.get c=none) (q:∀H',cZ (fun y=>y=ff∨y=t∨y=c) H H'→H'.get ff=some (.inst 544 (pP {T with cS:=T.cS+1}))→
   H'.get c=some (.inst 31 (cN ⟨T.cS+1,t,th,key,vals,.str "served",p.dl n,.bool false,.bool p.cond,.none⟩))→H'.get t=some (.inst 137 (bK i {τ with call:= .ref c,answer:= .none,raised:= .none}))→Q (.ref c) H'):
  Wp (jF [.ref ff,.ref th,.ref t,key,vals,p.v]) H Q:=by
 haveI ct:c.t=101:=by rw [hc]
 haveI vy:c≠t:=fun e=>by(replace ct:=(e)▸ct;replace ct:=(tt)▸ct);cases ct
 haveI Nn:c≠ff:=fun e=>by replace ct:=(e)▸ct;cases ct
 refine Wp.f rfl ?_
 unfold q4
 refine Wp.b (rU hp hk MB ht tt hc hn fun aG s1 g1 g2 g3=>Wp.b (Wp.bb g2 mS (by kernel_rfl) (Wp.p (q _ (s1.trans (dm (.inr (.inr rfl)) (.inl (by lia)))) (aZ (bM Nn) g1) au (aZ (bM vy) g3)))))
variable {ks:List Str}{q:Str→List VA}{k:Str}
theorem QR.keep(R:QR H qd ks q)(s:cZ X H H')(hf:eP H)(hq:¬X qd)(Zv:∀y:VA,y.t=11→¬X y):QR H' qd ks q:=by
 refine xS (R) fun es e n1 n2 h1 h2=>?_
 refine IE es (s.get hq (hf.old e) e) n1 n2 (fun p hp=>?_) h2
 refine ou (h1 p hp) fun x1 x2 x3 x4=>?_
 exact qI x1 x2 x3 (s.get (Zv _ x2) (hf.old x4) x4)
theorem q8(hf:eP H)(R:QR H qd ks q)(hk:k∈ks)(yW:ks.length≤1000)(hlen:(q k).length≤1000)(Fj:Old H qd)(jC:qd.t=2)(hc:H.get c=some (.inst 31 (cN κ)))(mf:κ.key=eM k)(TL:κ.jK= .bool false)(tc:c.t=101)
  (GH:H.get κ.target=some (.inst 221 (eK en qd w l))) (Ou:κ.target.t=103) (ht:H.get κ.caller=some (.inst 137 (bK i τ))) (tt:κ.caller.t=102)
  (qq:∀H',cZ (fun y=>y=c∨y=qd∨y.t=11∨y=κ.caller) H H'→QR H' qd ks (qx q k (q k++ [c]))→H'.get c=some (.inst 31 (cN {κ with state:= .str "queued"}))→
   H'.get κ.caller=some (.inst 137 (bK i {τ with state:= .str "calling",wake:=κ.deadline}))→Q .none H'):Wp (hB [.ref c]) H Q:=by
 refine Wp.f rfl ?_
 unfold sy
 refine Wp.b5 (Wp.aE hc tv (Wp.aE GH fU (Wp.p ?_)))
 haveI vy:c≠κ.caller:=fun e=>by(replace tc:=(e)▸tc;replace tc:=(tt)▸tc);cases tc
 haveI YR:κ.caller≠qd:=fun e=>by(replace tt:=(e)▸tt;replace tt:=(jC)▸tt);cases tt
 refine CO hf R hk yW hlen Fj (by refine jC.symm▸?_;decide) hc mf tc (by refine jC.symm▸?_;decide) fun aG s1 R1 g1=>?_
 haveI ot:Old H κ.caller:= .inl (by lia)
 haveI gt:aG.get κ.caller=some (.inst 137 (bK i τ)):=s1.get (fun e=>by
  rcases e with e|e|e
  ·exact vy e.symm
  ·exact YR e
  ·replace e:=(tt)▸e;cases e) ot ht
 refine Wp.p (Wp.b2 (Wp.aE g1 jQ (Wp.bb gt oN (by kernel_rfl) ?_)))
 refine Wp.b4 (Wp.aE (aZ vy g1) DL ?_)
 refine TL.symm▸?_
 refine ie false _ rfl (Wp.aE (aZ vy g1) Cq (Wp.b (Wp.aE (aZ vy g1) jQ (Wp.bb au ui (by kernel_rfl) (Wp.p (qq _ ?_ ?_ (aZ vy (aZ vy g1)) au))))))
 ·haveI YV:=ot.on s1
  refine(s1.mono fun y e=>?_).trans (.fO (.inr (.inr (.inr rfl))) YV (.fO (.inr (.inr (.inr rfl))) YV .refl))
  rcases e with e|e|e
  ·exact .inl e
  ·exact .inr (.inl e)
  ·exact .inr (.inr (.inl e))
 ·refine R1.keep (X:=fun y=>y=κ.caller) (.fO rfl (ot.on s1) (.fO rfl (ot.on s1) .refl)) (s1.fresh hf) (fun e=>YR e.symm) fun y ty e=>?_
  (replace ty:=(e)▸ty;replace ty:=(tt)▸ty);cases ty
theorem Ft(hk:H.get ff=some (.inst 544 (pP T)))(MB:H.get sV=some (.inst 88 (HS n)))(ht:H.get t=some (.inst 137 (bK i τ)))(tt:t.t=102)
  (hc:c=⟨101,(T.cS+1).toNat⟩) (hn:H.get c=none) (q:∀H',cZ (fun y=>y=ff∨y=t∨y=c) H H'→H'.get ff=some (.inst 544 (pP {T with cS:=T.cS+1}))→
   H'.get t=some (.inst 137 (bK i {τ with call:= .none,answer:=T1 "refused",raised:= .none}))→Q .none H'):
  Wp (fK [.ref ff,.ref th,.ref t,key,vals,.str "else"]) H Q:=by
 haveI ct:c.t=101:=by rw [hc]
 haveI vy:c≠t:=fun e=>by(replace ct:=(e)▸ct;replace ct:=(tt)▸ct);cases ct
 haveI Nn:c≠ff:=fun e=>by replace ct:=(e)▸ct;cases ct
 haveI RU:t≠ff:=fun e=>by replace tt:=(e)▸tt;cases tt
 refine Wp.f rfl ?_
 unfold mx
 refine Wp.b (rU (p:= .sW) trivial hk MB ht tt hc hn fun aG s1 g1 g2 g3=>?_)
 refine Wp.b (Wp.lz (Wp.jH ⟨rfl,Wp.Ld (Wp.Oi (by kernel_rfl) (c:=true) (by kernel_rfl) ⟨rfl,?_⟩)⟩))
 refine Wp.cy (Wp.b (Wp.bb g2 mS (by kernel_rfl) (Wp.b (Wp.bb (aZ (bM vy) g3) xy (by kernel_rfl) (Wp.b3 (Wp.Oi (by kernel_rfl) (c:=true) (by kernel_rfl) (Wp.tup (by kernel_rfl) (Wp.bb au pq (by kernel_rfl) (Wp.p (Wp.p (q _ ?_ ?_ au)))))))))))
 ·haveI ot:Old aG t:= .inl (by lia)
  haveI oc:Old aG c:= .inl (by lia)
  exact s1.trans (.fO (.inr (.inl rfl)) ot (.fO (.inr (.inl rfl)) ot (.fO (.inr (.inr rfl)) oc .refl)))
 ·exact aZ (bM RU) (aZ (bM RU) (aZ (bM Nn) g1))
theorem Dy{p:Co}(hp:p.ok)(Sz:p.cond=false)(hf:eP H)(hk:H.get ff=some (.inst 544 (pP T)))(MB:H.get sV=some (.inst 88 (HS n)))(ht:H.get t=some (.inst 137 (bK i τ)))(tt:t.t=102)
  (GH:H.get th=some (.inst 221 (eK en qd w l))) (Ou:th.t=103) (R:QR H qd ks q) (ET:k∈ks) (yW:ks.length≤1000) (hlen:(q k).length≤1000) (Fj:Old H qd) (jC:qd.t=2)
  (hc:c=⟨101,(T.cS+1).toNat⟩) (hn:H.get c=none) (qq:∀H',cZ (fun y=>y=ff∨y=t∨y=c∨y=qd∨y.t=11) H H'→H'.get ff=some (.inst 544 (pP {T with cS:=T.cS+1}))→QR H' qd ks (qx q k (q k++ [c]))→
   H'.get c=some (.inst 31 (cN ⟨T.cS+1,t,th,eM k,vals,.str "queued",p.dl n,.bool false,.bool false,.none⟩))→
   H'.get t=some (.inst 137 (bK i {τ with state:= .str "calling",wake:=p.dl n,call:= .ref c,answer:= .none,raised:= .none}))→Q .none H'):
  Wp (fK [.ref ff,.ref th,.ref t,eM k,vals,p.v]) H Q:=by
 have ct:c.t=101:=by rw [hc]
 refine Wp.f rfl ?_
 unfold mx
 refine Wp.b (rU (p:=p) hp hk MB ht tt hc hn fun aG s1 g1 g2 g3=>?_)
 have ex:∀{y:VA},y.t=103∨y.t=2∨y.t=11→¬(y=ff∨y=t∨y=c):=fun {y} hy e=>by
  rcases e with e|e|e
  ·replace hy:=(e)▸hy;rcases hy with h|h|h<;>exact aj (by cases h)
  ·(replace hy:=(e)▸hy;replace hy:=(tt)▸hy);rcases hy with h|h|h<;>exact aj (by cases h)
  ·(replace hy:=(e)▸hy;replace hy:=(ct)▸hy);rcases hy with h|h|h<;>exact aj (by cases h)
 haveI VO:aG.get th=some (.inst 221 (eK en qd w l)):=s1.get (ex (.inl Ou)) (.inl (by lia)) GH
 haveI R1:QR aG qd ks q:=R.keep s1 hf (ex (.inr (.inl jC))) fun y hy=>ex (.inr (.inr hy))
 haveI go:Wp (((hB [.ref c]).d fun _=>pU ()).d fun _=>(pU (Fl.next []))) aG fun r H'=>match r with| .ret v=>Q v H'| .next _=>Q .none H':=by
  refine Wp.b2 (q8 (s1.fresh hf) R1 ET yW hlen (Fj.on s1) jC g2 rfl rfl ct VO Ou g3 tt fun bh s2 R2 f1 f2=>Wp.p (Wp.p (qq bh ((s1.mono fun y e=>?_).trans (s2.mono fun y e=>?_)) ?_ R2 (by replace f1:=(Sz)▸f1;exact f1) f2)))
  ·rcases e with e|e|e
   ·exact .inl e
   ·exact .inr (.inl e)
   ·exact .inr (.inr (.inl e))
  ·rcases e with e|e|e|e
   ·exact .inr (.inr (.inl e))
   ·exact .inr (.inr (.inr (.inl e)))
   ·exact .inr (.inr (.inr (.inr e)))
   ·exact .inr (.inl e)
  ·refine s2.get (fun e=>?_) (.inl (by decide)) g1
   rcases e with e|e|e|e
   ·replace ct:=e.symm▸ct;exact aj (by cases ct)
   ·replace jC:=e.symm▸jC;exact aj (by cases jC)
   ·exact aj (by cases e)
   ·haveI e:ff=t:=e
    replace tt:=e.symm▸tt;exact aj (by cases tt)
 have fin:∀{b:Bool},b=false→Wp ((bif b then((Internal.bb (.ref c) .state (.str "over")).d fun _=>((Internal.bb (.ref t) .call .none).d fun _=>((((aX .Eq p.v (.str "else")).d fun c=>bif c then(iE [(.str "refused")]) else(iE [(.str "late")])).d fun u=>(Internal.bb (.ref t) .answer u)).d fun _=>(pU (Fl.next []))))) else(((hB [.ref c]).d fun _=>pU ()).d fun _=>(pU (Fl.next [])))).cy (fun _=>(pU (Fl.next [])))) aG fun r H'=>Q (match r with| .ret v=>v| .next _=> .none) H':=by
  rintro b rfl
  refine Wp.cy (go.mono fun r H' z=>?_)
  induction r
  ·exact z
  ·exact Wp.p z
 induction p with
 |none=>exact Wp.b (Wp.jE (Wp.jH ⟨rfl,fin rfl⟩))
 |sW=>exact tf Sz
 |num m=>
  haveI hp:1≤m:=hp
  refine Wp.b (Wp.lz (Wp.jH ⟨rfl,Wp.yA (Wp.eq (d:= .int m) (e:= .str "else") rfl rfl (by kernel_rfl) (c:=false) rfl ⟨rfl,⟨decide (m≤0),aG,rfl,fin (by simp;assumption)⟩⟩)⟩))
variable {k':Str}
theorem EH(hc:H.get c=some (.inst 31 (cN κ)))(ht:H.get κ.caller=some (.inst 137 (bK i τ)))(q:Q (.bool false) H):Wp (rx [.ref c,.bool true]) H Q:=by
 refine Wp.f rfl ?_
 unfold y9
 refine Wp.b (Wp.yA ⟨false,H,rfl,rfl,?_⟩)
 exact Wp.b3 (Wp.aE hc jQ (Wp.aE ht B0 ⟨false,H,rfl,Wp.p (Wp.cy (Wp.p q))⟩))
theorem Jc(hf:eP H)(R:QR H qd ks q)(hk:k∈ks)(yW:ks.length≤1000)(hlen:(q k).length≤1000)(Fj:Old H qd)(jC:qd.t=2)(hc:H.get c=some (.inst 31 (cN κ)))(tc:c.t=101)
  (GH:H.get th=some (.inst 221 (eK en qd w l))) (Ou:th.t=103) (ht:H.get κ.caller=some (.inst 137 (bK i τ))) (tt:κ.caller.t=102)
  (qq:∀H',cZ (fun y=>y=c∨y=qd∨y.t=11∨y=κ.caller) H H'→QR H' qd ks (qx q k (q k++ [c]))→H'.get c=some (.inst 31 (cN {κ with target:=th,key:=eM k,jK:= .bool false,state:= .str "queued"}))→
   H'.get κ.caller=some (.inst 137 (bK i {τ with state:= .str "calling",wake:=κ.deadline}))→Q .none H'):Wp (iA [.ref c,.ref th,eM k,.bool true]) H Q:=by
 refine Wp.f rfl ?_
 unfold n5
 refine Wp.b2 (EH hc ht ⟨false,H,rfl,Wp.cy (Wp.p ?_)⟩)
 refine Wp.b (Wp.bb hc yU (by kernel_rfl) (Wp.b (Wp.bb au Gs (by kernel_rfl) (Wp.b2 (Wp.b ⟨true,_,rfl,Wp.p (Wp.bb au DQ (by kernel_rfl) ?_)⟩)))))
 haveI oc:Old H c:= .inl (by lia)
 haveI s:cZ (fun y=>y=c) H (((H.set c (.inst 31 (cN {κ with target:=th}))).set c (.inst 31 (cN {κ with target:=th,key:=eM k}))).set c (.inst 31 (cN {κ with target:=th,key:=eM k,jK:= .bool false}))):= .fO rfl oc (.fO rfl oc (.fO rfl oc .refl))
 haveI vy:κ.caller≠c:=fun e=>by(replace tt:=(e)▸tt;replace tt:=(tc)▸tt);cases tt
 haveI F0:th≠c:=fun e=>by(replace Ou:=(e)▸Ou;replace Ou:=(tc)▸Ou);cases Ou
 refine Wp.b2 (q8 (k:=k) (κ:={κ with target:=th,key:=eM k,jK:= .bool false}) (s.fresh hf) (R.keep s hf (fun e=>by(replace jC:=(e)▸jC;replace jC:=(tc)▸jC);cases jC) fun y ty e=>by(replace ty:=(e)▸ty;replace ty:=(tc)▸ty);cases ty) hk yW hlen (Fj.on s) jC au rfl rfl tc
  (s.get F0 (.inl (by refine(?_:100≤th.t);lia)) GH) Ou (s.get vy (.inl (by refine(?_:100≤κ.caller.t);lia)) ht) tt fun H' s' R' g1 g2=>Wp.p (Wp.p (qq H' ((s.mono fun y e=> .inl e).trans s') R' g1 g2)))
theorem tw(hf:eP H)(R:QR H qd ks q)(yW:ks.length≤1000)(hlen:(q k).length≤1000)(Fj:Old H qd)(jC:qd.t=2)(hc:CallAt H c κ)(mf:κ.key=eM k)(hm:c∈q k)(wV:∀x∈q k,∃Lz,CallAt H x Lz)
  (GH:H.get κ.target=some (.inst 221 (eK en qd w l))) (ht:H.get κ.caller=some (.inst 137 (bK i τ))) (tt:κ.caller.t=102)
  (qq:∀H',cZ (fun y=>y=c∨y=qd∨y.t=11∨y=κ.caller) H H'→QR H' qd ks (qx q k ((q k).filter fun x=>decide (x≠c)))→H'.get c=some (.inst 31 (cN {κ with state:= .str "over"}))→H'.get κ.caller=some (.inst 137 (bK i {τ with call:= .none}))→Q .none H'):Wp (lT [.ref c]) H Q:=by
 haveI tc:=hc.2.2
 haveI vy:c≠κ.caller:=fun e=>by(replace tc:=(e)▸tc;replace tc:=(tt)▸tc);cases tc
 refine Wp.f rfl ?_
 unfold vk
 refine Wp.b5 (Wp.aE hc.1 tv (Wp.aE GH fU (Wp.p ?_)))
 refine tU hf R yW hlen Fj (by refine jC.symm▸?_;decide) hc mf (by refine jC.symm▸?_;decide) hm wV fun aG s1 R1=>?_
 haveI ex:∀{y:VA},y.t=101∨y.t=102→¬(y=qd∨y.t=11):=fun {y} hy e=>by
  rcases e with e|e
  ·(replace hy:=(e)▸hy;replace hy:=(jC)▸hy);rcases hy with h|h<;>cases h
  ·replace hy:=(e)▸hy;rcases hy with h|h<;>cases h
 haveI gc:=s1.get (ex (.inl tc)) (.inl (by lia)) hc.1
 haveI gt:=s1.get (ex (.inr tt)) (.inl (by lia)) ht
 refine Wp.p (Wp.b (Wp.bb gc mS (by kernel_rfl) (Wp.b2 (Wp.aE au jQ (Wp.bb (aZ (bM vy) gt) xy (by kernel_rfl) (Wp.p (qq _ ?_ ?_ (aZ vy au) au)))))))
 ·haveI oc:Old aG c:= .inl (by lia)
  haveI ot:Old aG κ.caller:= .inl (by lia)
  refine(s1.mono fun y e=>?_).trans (.fO (.inr (.inr (.inr rfl))) ot (.fO (.inl rfl) oc .refl))
  rcases e with e|e
  ·exact .inr (.inl e)
  ·exact .inr (.inr (.inl e))
 ·refine R1.keep (X:=fun y=>y=c∨y=κ.caller) (.fO (.inr rfl) (.inl (by refine(?_:100≤κ.caller.t);lia)) (.fO (.inl rfl) (.inl (by refine(?_:100≤c.t);lia)) .refl)) (s1.fresh hf) (fun e=>?_) fun y ty e=>?_
  ·rcases e with e|e
   ·(replace jC:=(e)▸jC;replace jC:=(tc)▸jC);cases jC
   ·(replace jC:=(e)▸jC;replace jC:=(tt)▸jC);cases jC
  ·rcases e with e|e
   ·(replace ty:=(e)▸ty;replace ty:=(tc)▸ty);cases ty
   ·(replace ty:=(e)▸ty;replace ty:=(tt)▸ty);cases ty
theorem BU(hf:eP H)(R:QR H qd ks q)(yW:ks.length≤1000)(hlen:(q k).length≤1000)(Fj:Old H qd)(jC:qd.t=2)(hc:CallAt H c κ)(mf:κ.key=eM k)(hm:c∈q k)(wV:∀x∈q k,∃Lz,CallAt H x Lz)
  (GH:H.get κ.target=some (.inst 221 (eK en qd w l))) (ht:H.get κ.caller=some (.inst 137 (bK i τ))) (tt:κ.caller.t=102)
  (qq:∀H',cZ (fun y=>y=c∨y=qd∨y.t=11∨y=κ.caller) H H'→QR H' qd ks (qx q k ((q k).filter fun x=>decide (x≠c)))→(∃Y8,H'.get c=some (.inst 31 (cN Y8))∧Y8.number=κ.number)→
   H'.get κ.caller=some (.inst 137 (bK i {τ with state:= .str "ready",ik:= .lst [],wake:= .none,lK:= .none,call:= .none,answer:=T1 "refused",raised:= .none}))→Q .none H'):Wp (lX [.ref c]) H Q:=by
 have tc:=hc.2.2
 have vy:c≠κ.caller:=fun e=>by(replace tc:=(e)▸tc;replace tc:=(tt)▸tc);cases tc
 refine Wp.f rfl ?_
 unfold vt
 refine Wp.b2 (tw hf R yW hlen Fj jC hc mf hm wV GH ht tt fun aG s1 R1 g1 g2=>Wp.p ?_)
 refine Wp.b4 (Wp.tup (by kernel_rfl) (Wp.p (Wp.tup (by kernel_rfl) (Wp.bb g1 AN (by kernel_rfl) ?_))))
 refine Wp.b4 (Wp.aE au jQ (Wp.b2 (Wp.tup (by kernel_rfl) (Wp.p (Wp.p ?_)))))
 have oc:Old aG c:= .inl (by lia)
 refine r5 (i:=i) (τ:={τ with call:= .none}) (Old.set (.inl (by lia))) (aZ (bM vy) g2) fun bh s2 f=>Wp.p (Wp.p (qq bh ?_ ?_ ⟨_,s2.get vy oc.set au,rfl⟩ f))
 ·exact(s1.trans (.fO (.inl rfl) oc .refl)).trans (s2.mono fun y e=> .inr (.inr (.inr e)))
 ·refine R1.keep (X:=fun y=>y=c∨y=κ.caller) (((dm (.inl rfl) oc).trans (s2.mono fun y e=> .inr e))) (s1.fresh hf) (fun e=>?_) fun y ty e=>?_
  ·rcases e with e|e
   ·(replace jC:=(e)▸jC;replace jC:=(tc)▸jC);cases jC
   ·(replace jC:=(e)▸jC;replace jC:=(tt)▸jC);cases jC
  ·rcases e with e|e
   ·(replace ty:=(e)▸ty;replace ty:=(tc)▸ty);cases ty
   ·(replace ty:=(e)▸ty;replace ty:=(tt)▸ty);cases ty
theorem CG{n k:Int}(hk:1≤k)(htk:H.get ff=some (.inst 544 (pP T)))(MB:H.get sV=some (.inst 88 (HS n)))(ht:H.get t=some (.inst 137 (bK i τ)))(tt:t.t=102)(hi:τ.inside= .int 0)
  (q:∀H',cZ (fun y=>y=t) H H'→H'.get t=some (.inst 137 (bK i {τ with state:= .str "delayed",wake:= .int (n+k),answer:= .none,raised:= .none}))→Q .none H'):Wp (iL [.ref ff,.ref t,.int k]) H Q:=by
 haveI n1:ff≠t:=fun e=>by replace tt:=e.symm▸tt;cases tt
 haveI n2:sV≠t:=fun e=>by replace tt:=e.symm▸tt;cases tt
 haveI ot:Old H t:= .inl (by lia)
 refine Wp.f rfl ?_
 unfold xf
 refine Wp.b (Wp.bb ht pq (by kernel_rfl) (Wp.b (Wp.bb au rZ (by kernel_rfl) (Wp.b ?_))))
 refine Wp.lz (Wp.b2 (DC au hi ⟨false,_,rfl,Wp.p ⟨rfl,⟨decide ((0:Int)<k),_,rfl,?_⟩⟩⟩))
 have:decide ((0:Int)<k)=true:=by simp;assumption
 rw [this]
 refine Wp.cy (Wp.b (Wp.bb au oN (by kernel_rfl) (Wp.b4 (Wp.aE (aZ n1 (aZ n1 (aZ n1 htk))) ur (Wp.p (vB (aZ n2 (aZ n2 (aZ n2 MB))) (by exact SU ‹_›) (Wp.bb au ui (by kernel_rfl) (Wp.p (Wp.p (q _ ?_ au))))))))))
 exact .fO rfl ot (.fO rfl ot (.fO rfl ot (.fO rfl ot .refl)))
theorem Jn(ht:H.get t=some (.inst 137 (bK i τ)))(tt:t.t=102)(hs:τ.state= .str "delayed")
  (q:∀H',cZ (fun y=>y=t) H H'→H'.get t=some (.inst 137 (bK i {τ with state:= .str "ready",ik:= .lst [],wake:= .none,lK:= .none,answer:= .none,raised:= .none}))→Q .none H'):Wp (gU [.ref t]) H Q:=by
 refine Wp.f rfl ?_
 unfold rT
 refine Wp.b2 (Wp.aE ht ng ?_)
 refine hs.symm▸?_
 refine Wp.Oi (by kernel_rfl) (c:=false) (by kernel_rfl) (Wp.cy ?_)
 refine Wp.b2 (Wp.aE ht ng ?_)
 refine hs.symm▸?_
 refine Wp.Oi (by kernel_rfl) (c:=false) (by kernel_rfl) (Wp.cy (Wp.b2 (r5 (.inl (by lia)) ht fun H' s g=>Wp.p (Wp.p (Wp.p (Wp.p (q H' s g)))))))
theorem FI(hf:eP H)(R:QR H qd ks q)(yW:ks.length≤1000)(hlen:(q k).length≤1000)(Fj:Old H qd)(jC:qd.t=2)(hc:CallAt H c κ)(mf:κ.key=eM k)(hm:c∈q k)(wV:∀x∈q k,∃Lz,CallAt H x Lz)
  (GH:H.get κ.target=some (.inst 221 (eK en qd w l))) (VZ:κ.caller=t) (ht:H.get t=some (.inst 137 (bK i τ))) (tt:t.t=102) (hs:τ.state= .str "calling") (DX:τ.call= .ref c)
  (qq:∀H',cZ (fun y=>y=c∨y=qd∨y.t=11∨y=t) H H'→QR H' qd ks (qx q k ((q k).filter fun x=>decide (x≠c)))→
   H'.get t=some (.inst 137 (bK i {τ with state:= .str "ready",ik:= .lst [],wake:= .none,lK:= .none,call:= .none,answer:=T1 "late",raised:= .none}))→Q .none H'):Wp (gU [.ref t]) H Q:=by
 subst VZ
 refine Wp.f rfl ?_
 unfold rT
 refine Wp.b2 (Wp.aE ht ng ?_)
 refine hs.symm▸?_
 refine Wp.Oi (by kernel_rfl) (c:=true) (by kernel_rfl) (Wp.cy (Wp.b4 (Wp.aE ht Eh (Wp.p ?_))))
 refine DX.symm▸?_
 refine tw hf R yW hlen Fj jC hc mf hm wV GH ht tt fun aG s1 R1 g1 g2=>Wp.p (Wp.b5 (Wp.tup (by kernel_rfl) (Wp.p (Wp.p ?_))))
 refine r5 (i:=i) (τ:={τ with call:= .none}) (.inl (by lia)) g2 fun bh s2 f=>Wp.p (Wp.p (Wp.p (qq bh (s1.trans (s2.mono fun y e=> .inr (.inr (.inr e)))) ?_ f)))
 refine R1.keep s2 (s1.fresh hf) (fun e=>?_) fun y ty e=>?_
 ·(replace jC:=(e)▸jC;replace jC:=(tt)▸jC);cases jC
 ·(replace ty:=(e)▸ty;replace ty:=(tt)▸ty);cases ty
theorem Kk{st:List V}(h:H.get x=some (.cI es))(I:Nat→List V→Hp→Prop)(pv:∀i st H',I i st H'→H'.pv x=H.pv x)(h0:I 0 st H)
  (step:∀i p st H',es[i]? =some p→I i st H'→Wp (mb (eM p.1) st) H' fun r iw=>match r with| .ret u=>Q (.ret u) iw| .next uk=>I (i+1) uk iw) (vM:∀st H',I es.length st H'→Q (.next st) H'):Wp (GB (.ref x) mb st) H Q:=by
 have hk:keysOf H (.ref x)=some (x,es.map fun p:Str×V=>eM p.1):=by
  refine(?_:(match H.get x with|some (.cI es)=>some (x,es.map fun p:Str×V=>V.tup [.str p.1,.none])|some (.aU [])=>some (x, [])|_=>none)=_)
  rw [h]
 refine eY (FP (item:=fun H' i=>if H'.pv x=H.pv x then some (es.map fun p:Str×V=>eM p.1)[i]? else none) (mb:=mb) (Q:=Q) (vs:=es.map fun p:Str×V=>eM p.1) I (fun i st H' hI=>if_pos (pv i st H' hI)) (fun i k st H' hk hI=>by
  rw [aC] at hk
  exact aS (ba.mp hk) fun p hp q=>q▸step i p st H' hp hI) (fun st H' hI=>vM st H' (by rwa [aq] at hI)) ((es.map fun p:Str×V=>eM p.1).length+1) 0 st H (aW _) (dM _) h0) fun r H' e q=>ie r H' ?_ q
 refine(?_:(match keysOf H (.ref x) with|some (x,ks)=>sP (fun H' i=>if H'.pv x=H.pv x then some ks[i]? else none) mb (ks.length+1) 0 st H|none=>none)=_)
 rw [hk]
 exact e
theorem Wp.RI(z:Q (.str k) H):Wp (fc (eM k) (.int 0)) H Q:=⟨_,H,rfl,z⟩
theorem Wp.RJ(z:Q .none H):Wp (fc (eM k) (.int 1)) H Q:=⟨_,H,rfl,z⟩
theorem Wp.NG(h:H.get x=some (.et es))(e:es.length≤1000000)(z:Q () (H.set x (.et (Ha es n u)))):Wp (mD (.ref x) (.int n) u) H Q:=
 ⟨(),_,by refine(?_:(match H.get x,V.int n with|some (.et es),.int k=>(if es.length≤1000000 then some ((),H.set x (.et (Ha es k u))) else none)|some (.cI es),i=>_|_,_=>_)=_);refine h.symm▸?_;exact if_pos e,z⟩
theorem Wp.NZ(h:H.get x=some (.list vs))(e:vs.length≤4000000)(z:Q (!vs.isEmpty) H):Wp (bV (.ref x)) H Q:=
 ⟨_,H,by refine(?_:(match H.get x with|some (.list vs)=>if vs.length≤4000000 then some (!vs.isEmpty,H) else none|_=>none)=_);refine h.symm▸?_;exact if_pos e,z⟩
theorem FN(hf:eP H)(R:QR H qd ks q)(hs:∀k∈ks,small (.str k)=true)(he:e∈ks)(hlen:∀k,(q k).length≤1000)(jC:qd.t=2)(Fj:Old H qd)
  (z:∀H' r,cZ (fun _=>False) H H'→H'.get r=some (.list (if q e= [] then [] else [eM e]))→r.t=9→H.next≤r.n→Q (.ref r) H'):Wp (rB [.ref qd,.str e]) H Q:=by
 refine xS (id R) fun es g n1 n2 h1 h2=>?_
 refine Wp.f rfl ?_
 unfold zh
 haveI nn:H.get ⟨2,H.next⟩=none:=hf _ (by refine(?_:2<100);exact af _ _) (az _)
 have qn:qd≠⟨2,H.next⟩:=fun e=>by(replace g:=(e)▸g;replace g:=(nn)▸g);exact aj (by cases g)
 refine Wp.b2 (jX (r7 nn (Wp.b (Wp.p (Wp.cy ?_)))))
 have s0:cZ (fun _=>False) H (H.set ⟨2,H.next⟩ (.et [])):=gP (by exact af _ _)
 haveI od:Old (H.set ⟨2,H.next⟩ (.et [])) ⟨2,H.next⟩:= .inr (aW _)
 have back:∀{H'},cZ (fun y=>y=⟨2,H.next⟩) (H.set ⟨2,H.next⟩ (.et [])) H'→cZ (fun _=>False) H H':=fun {H'} s=>⟨ai s0.next s.next,fun y _ ho=>by
  have:y≠⟨2,H.next⟩:=by
   rintro rfl
   rcases ho with h|h
   ·exact absurd h (by refine(?_:¬(100≤2));decide)
   ·exact dZ _ h
  refine cQ (s0.keep y id ho) fun a b=>?_
  refine cQ (s.keep y this (ho.on s0)) fun c d=>?_
  exact⟨c.trans a,d.trans b⟩,fun f=>s.fresh (s0.fresh f)⟩
 haveI g0:(H.set ⟨2,H.next⟩ (.et [])).get qd=some (.cI (es.map fun p=>(p.1,V.ref p.2))):=aZ qn g
 refine Kk g0 (fun i st H'=>cZ (fun y=>y=⟨2,H.next⟩) (H.set ⟨2,H.next⟩ (.et [])) H'∧H'.get ⟨2,H.next⟩=some (.et (if e∈(es.map (·.1)).take i then [(-1,eM e)] else []))) (fun i st H' hI=>(hI.1.keep qd qn (Fj.on s0)).2) ⟨.refl,by simpa using au⟩ (fun i p st H' hp hI=>?_) fun st H' hI=>?_
 ·replace hp:=(aC)▸hp
  refine aS (ba.mp hp) fun p0 Qq cj=>?_
  apply sb cj
  haveI hm:p0∈es:=aB Qq
  refine ou (h1 _ hm) fun x1 x2 x3 x4=>?_
  obtain⟨s,gd⟩:=hI
  haveI tk:(es.map (·.1)).take (i+1)=(es.map (·.1)).take i++ [p0.1]:=by(refine jO.symm▸?_;refine(ah (aC))▸?_;refine Qq.symm▸?_);rfl
  refine Wp.b3 (Wp.RI (Wp.Oi (c:=p0.1==e) (by(refine(ah (hs _ x1))▸?_;refine(ah (hs _ he))▸?_);rfl) rfl ?_))
  by_cases hk:p0.1=e
  ·subst hk
   rw [beq_self_eq_true]
   haveI nb:p0.1∉(es.map (·.1)).take i:=fun Wj=>by
    have:=n1.sublist (yN (i+1) _)
    rw [tk,fq] at this
    exact this.2.2 _ Wj _ (by simp) rfl
   haveI gq:H'.get qd=some (.cI (es.map fun p=>(p.1,V.ref p.2))):=(back s).get id Fj g
   haveI ga:H'.get p0.2=some (.list ((q p0.1).map V.ref)):=(back s).old hf x4
   refine Wp.b2 (Wp.MQ gq (kG n1 hm) (Wp.NZ ga (by rw [aq];have:=hlen p0.1;exact ai ‹_› (by decide)) ?_))
   haveI ne:(!((q p0.1).map V.ref).isEmpty)=true:=by
    induction hq:q p0.1 with
    |nil=>exact absurd hq x3
    |cons a b=>rfl
   rw [ne]
   refine Wp.p (Wp.cy (Wp.b4 (Wp.RJ (Wp.is ?_))))
   refine Wp.p (Wp.NG gd (by split<;>simp) (Wp.p (Wp.p ?_)))
   refine iN (s.trans (dm rfl (od.on s))) ?_
   (refine au.symm▸?_;refine tk.symm▸?_;refine(ah (if_neg nb))▸?_)
   simp [Ha]
  ·have:(p0.1==e)=false:=by simpa using hk
   refine this.symm▸?_
   refine Wp.p (Wp.cy (Wp.p (Wp.p ⟨s,?_⟩)))
   rw [gd,tk]
   congr 3
   simp [bM hk]
 ·refine cQ (hI) fun s gd=>?_
  rw [aq,←aq (f:=(·.1)) (as:=es),nO] at gd
  haveI mem:e∈es.map (·.1)↔q e≠ []:=by
   constructor
   ·intro h
    refine aS (aP.mp h) fun p hp cj=>?_
    apply sb cj
    exact(h1 p hp).2.2.1
   ·intro h
    refine dh (h2 e h) fun a ha=>?_
    exact aP.mpr ⟨_,ha,rfl⟩
  haveI X9:=(back s).fresh hf
  by_cases hq:q e= []
  ·replace gd:=(if_neg (fun h=>mem.mp h hq))▸gd
   refine Wp.b (Wp.b ⟨.lst [],H',?_,?_⟩)
   ·refine(?_:(H'.get ⟨2,H.next⟩).bind _=_)
    rw [gd]
    rfl
   ·refine gT (vs:= []) (by exact af _ _) (fun _=>true) id (fun _=>True) X9 (by simp) trivial (fun iw _ _ j=>gp j) (fun _ _ _ _ _ _=>trivial) (fun v hv=>by exact aj (by cases hv)) (fun v hv=>by exact aj (by cases hv)) fun iw r _ s2 tr lr _ gr=>Wp.p (z iw r ((back s).trans s2) (by rw [gr,if_pos hq];rfl) tr (ai (back s).next lr))
  ·replace gd:=(if_pos (mem.mpr hq))▸gd
   refine Wp.b (Wp.b ⟨.lst [.int (-1)],H',?_,?_⟩)
   ·refine(?_:(H'.get ⟨2,H.next⟩).bind _=_)
    rw [gd]
    rfl
   ·refine gT (vs:= [.int (-1)]) (by exact af _ _) (fun _=>true) (fun _=>eM e) (fun _=>True) X9 (by simp) trivial (fun iw _ _ j=>gp j) (fun _ _ _ _ _ _=>trivial) (fun v hv iw _ _=>Wp.p ⟨rfl,trivial,.refl⟩) (fun v hv _ iw _ s2=>?_) fun iw r _ s2 tr lr _ gr=>Wp.p (z iw r ((back s).trans s2) (by rw [gr,if_neg hq];rfl) tr (ai (back s).next lr))
    obtain rfl:v= .int (-1):=by simpa using hv
    haveI g2:iw.get ⟨2,H.next⟩=some (.et [(-1,eM e)]):=s2.get id (od.on s) gd
    refine zG (eM e) iw ?_ rfl trivial .refl
    refine(?_:(match iw.get ⟨2,H.next⟩ with|some (.list vs)=>_|some (.et es)=>(match Ir es (-1) with|some u=>some (u,iw)|none=>none)|_=>none)=_)
    refine g2.symm▸?_;rfl
end
section
variable {H:Hp}{th t qd c:VA}{w l:V}{ks:List Str}{q:Str→List VA}{k:Str}
def Calls(H:Hp)(ks:List Str)(q:Str→List VA):Prop:=∀k∈ks,∀x∈q k,∃κ i τ,CallAt H x κ∧κ.key=eM k∧H.get κ.caller=some (.inst 137 (bK i τ))∧κ.caller.t=102
theorem Calls.keep(h:Calls H ks q)(s:cZ (fun _=>False) H H')(hf:eP H):Calls H' ks q:=fun k hk x hx=>by
 refine KL (h k hk x hx) fun κ i τ a b d e=>?_
 exact Pc κ i τ ⟨s.old hf a.1,a.2⟩ b (s.old hf d) e
theorem BK{op:Str→Bool}(hf:eP H)(yW:ks= [KN,Ro])(R:QR H qd ks q)(hs:∀k∈ks,small (.str k)=true)(hlen:∀k,(q k).length≤1000)(jC:qd.t=2)(Fj:Old H qd)
  (GH:H.get th=some (.inst 221 (eK (.lst [.str KN,.str Ro]) qd w l))) (wV:Calls H ks q)
  (ho:∀H',cZ (fun _=>False) H H'→∀k∈ks,Wp (vc 2 ru (.iC 2 [rc]) [eM k]) H' fun v iw=>v= .bool (op k)∧cZ (fun _=>False) H' iw)
  (Jv:(∀k∈ks,q k= []∨op k=false)→∀H',cZ (fun _=>False) H H'→Q .none H')
  (Jw:∀k c κ i τ m,q k=c::m→op k=true→(k=KN∨(k=Ro∧(q KN= []∨op KN=false)))→CallAt H c κ→κ.key=eM k→H.get κ.caller=some (.inst 137 (bK i τ))→κ.caller.t=102→∀H',cZ (fun y=>y=c∨y=qd∨y.t=11∨y=κ.caller) H H'→
   QR H' qd ks (qx q k ((q k).filter fun x=>decide (x≠c)))→H'.get c=some (.inst 31 (cN {κ with state:= .str "served"}))→H'.get κ.caller=some (.inst 137 (bK i {τ with state:= .str "meeting",wake:= .none}))→Q (.ref c) H'):
  Wp (lW [.ref th,.iC 2 [rc]]) H Q:=by
 refine Wp.f rfl ?_
 unfold vp
 refine Wp.b (Wp.aE GH DD (Wp.cy ?_))
 refine ia (vs:= [.str KN,.str Ro]) (by simp) (fun i st H'=>cZ (fun _=>False) H H'∧∀j k,j<i→ks[j]? =some k→q k= []∨op k=false) (fun i st H' _ j=>gp j) ⟨.refl,fun j k h=>absurd h (oP _)⟩ (fun i v st H' hv hI=>?_) fun st H' hI=>?_
 ·obtain⟨s,hp⟩:=hI
  have hv':∃e,v= .str e∧ks[i]? =some e:=by
   refine yW.symm▸?_
   match i,hv with
   |0,hv=>apply so hv;exact dG _ rfl rfl
   |1,hv=>apply so hv;exact dG _ rfl rfl
  refine aS (hv') fun e cj MC=>?_
  apply iH cj
  have U3:e∈ks:=aB MC
  haveI VO:=s.old hf GH
  haveI R':QR H' qd ks q:=R.keep s hf id fun _ _ h=>h
  haveI V2:=s.fresh hf
  refine Wp.b3 (Wp.aE VO fU (Wp.p ?_))
  refine FN V2 R' hs U3 hlen jC (Fj.on s) fun aG r s1 gr tr lr=>Wp.cy ?_
  haveI HV:=s.trans s1
  have step:cZ (fun _=>False) H aG→q e= []∨op e=false→∀bh,cZ (fun _=>False) H bh→cZ (fun _=>False) H bh∧∀j k,j<i+1→ks[j]? =some k→q k= []∨op k=false:=fun _ he bh s2=>⟨s2,fun j k hj hk=>by
   by_cases hM:j=i
   ·subst hM;replace hk:=(MC)▸hk;apply so hk;exact he
   ·exact hp j k (by lia) hk⟩
  by_cases hq:q e= []
  ·replace gr:=(if_pos hq)▸gr
   refine ia (vs:= []) (by simp) (fun _ st H'=>cZ (fun _=>False) aG H') (fun i st H' s' j=>c6 (s'.old (HV.fresh hf) gr) j) .refl (fun i v st H' hv=>by simp at hv) fun st H' s'=>?_
   exact Wp.p (step HV (.inl hq) _ (HV.trans s'))
  ·replace gr:=(if_neg hq)▸gr
   refine ia (vs:= [eM e]) (by simp) (fun j st H'=>cZ (fun _=>False) aG H'∧(j=1→op e=false)) (fun i st H' s' j=>c6 (s'.1.old (HV.fresh hf) gr) j) ⟨.refl,fun h=>by exact aj (by cases h)⟩ (fun j v st bh hv hI=>?_) fun st H' s'=>?_
   ·refine cQ (hI) fun s2 _=>?_
    obtain⟨rfl,rfl⟩:j=0∧v=eM e:=by
     match j,hv with
     |0,hv=>apply so hv;exact iN rfl rfl
    have Kc:=HV.trans s2
    refine Wp.b3 (Wp.p ((ho bh Kc e U3).mono fun v dg ⟨ev,s3⟩=>?_))
    apply iH ev
    have QD:=Kc.trans s3
    refine ie (op e) dg rfl ?_
    induction O7:op e with
    |false=>exact Wp.cy (Wp.p (Wp.p ⟨s2.trans s3,fun _=>rfl⟩))
    |true=>
     obtain⟨c,m,Qn⟩:∃c m,q e=c::m:=by
      induction h:q e with
      |nil=>exact absurd h hq
      |cons c m=>exact WM c m rfl
     obtain⟨κ,ti,τ,hc,mf,ht,tt⟩:=wV e U3 c (by refine Qn.symm▸?_;simp)
     haveI X8:=QD.fresh hf
     haveI R3:QR dg qd ks q:=R.keep QD hf id fun _ _ h=>h
     haveI g3:=QD.old hf GH
     haveI Rx:CallAt dg c κ:=⟨QD.old hf hc.1,hc.2⟩
     haveI ht3:=QD.old hf ht
     refine Wp.cy (Wp.b3 (Wp.aE g3 fU (Wp.p (CM R3 (hlen e) ?_))))
     refine Qn.symm▸?_
     refine Wp.b (Wp.is (Wp.cy (Wp.p ?_)))
     refine Wp.b4 (Wp.aE g3 fU (Wp.p (tU X8 R3 (by refine yW.symm▸?_;simp) (hlen e) (Fj.on QD) (by refine jC.symm▸?_;decide) Rx mf (by refine jC.symm▸?_;decide) (by refine Qn.symm▸?_;simp) (fun x hx=>?_) fun iZ s4 R4=>Wp.p ?_)))
     ·refine CI (wV e U3 x hx) fun Lz _ _ a _=>?_
      exact dG Lz (QD.old hf a.1) a.2
     haveI tc:=hc.2.2
     haveI ex:∀{y:VA},y.t=101∨y.t=102→¬(y=qd∨y.t=11):=fun {y} hy e=>by
      rcases e with e|e
      ·(replace hy:=(e)▸hy;replace hy:=(jC)▸hy);rcases hy with h|h<;>exact aj (by cases h)
      ·replace hy:=(e)▸hy;rcases hy with h|h<;>exact aj (by cases h)
     haveI vy:κ.caller≠c:=fun e=>by(replace tt:=(e)▸tt;replace tt:=(tc)▸tt);exact aj (by cases tt)
     haveI gc:=s4.get (ex (.inl tc)) (.inl (by lia)) Rx.1
     haveI gt:=s4.get (ex (.inr tt)) (.inl (by lia)) ht3
     haveI oc:Old iZ c:= .inl (by lia)
     haveI ot:Old iZ κ.caller:= .inl (by lia)
     refine Wp.b (Wp.bb gc mS (by kernel_rfl) (Wp.b2 (Wp.aE au jQ (Wp.bb (aZ vy gt) oN (by kernel_rfl) ?_))))
     refine Wp.b2 (Wp.aE (aZ (bM vy) au) jQ (Wp.bb au ui (by kernel_rfl) (Wp.p ?_)))
     refine Jw e c κ ti τ m Qn O7 ?_ hc mf ht tt _ ?_ ?_ (aZ (bM vy) (aZ (bM vy) au)) au
     ·replace MC:=(yW)▸MC
      match i,MC,hp with
      |0,MC,_=>apply so MC;exact .inl rfl
      |1,MC,hp=>apply so MC;exact .inr ⟨rfl,hp 0 KN (by exact az _) (by refine yW.symm▸?_;rfl)⟩
     ·refine((QD.mono fun _ f=>f.elim).trans (s4.mono fun y e=>?_)).trans (.fO (.inr (.inr (.inr rfl))) ot (.fO (.inr (.inr (.inr rfl))) ot (.fO (.inl rfl) oc .refl)))
      rcases e with e|e
      ·exact .inr (.inl e)
      ·exact .inr (.inr (.inl e))
     ·refine R4.keep (X:=fun y=>y=c∨y=κ.caller) (.fO (.inr rfl) ot (.fO (.inr rfl) ot (.fO (.inl rfl) oc .refl))) (s4.fresh X8) (fun e=>?_) fun y ty e=>?_
      ·rcases e with e|e
       ·(replace jC:=(e)▸jC;replace jC:=(tc)▸jC);exact aj (by cases jC)
       ·(replace jC:=(e)▸jC;replace jC:=(tt)▸jC);exact aj (by cases jC)
      ·rcases e with e|e
       ·(replace ty:=(e)▸ty;replace ty:=(tc)▸ty);exact aj (by cases ty)
       ·(replace ty:=(e)▸ty;replace ty:=(tt)▸ty);exact aj (by cases ty)
   ·exact Wp.p (step HV (.inr (s'.2 rfl)) _ (HV.trans s'.1))
 ·refine Wp.p (Jv (fun k hk=>?_) _ hI.1)
  refine dh (aQ.mp hk) fun j hj=>?_
  exact hI.2 j k (by have:=(aF.mp hj).1;replace this:=(yW)▸this;simpa using this) hj
end
inductive Ep
 |ready|eC|delayed|nj|ju|done
noncomputable def Ep.s:Ep→Str
 |ready=> "ready" |eC=> "calling" |delayed=> "delayed" |nj=> "meeting" |ju=> "completed" |done=> "done"
theorem Ep.small(a:Ep):Internal.small (.str a.s)=true:=by induction a<;>kernel_rfl
structure TP where
 st:Ep
 wake:Option Int
 call:Option Nat
 oQ:Option Str
 ins:Bool
structure GS where
 bc:Int
 since:Int
 jG:Option Int
structure Cf where
 n:Nat
 iJ:Int
 wr:Nat→Bool
 rest:Nat→Int
 pat:Nat→Co
 gO:Nat→Int
 rm:VA
 gl:VA
 ga:Nat→VA
 qd:VA
 qa:Nat→VA
 tl:VA
 dl:VA
 xr:VA
 xw:VA
 xs:VA
 sl:VA
 lim:V
 r6:List Int
structure St where
 now:Int
 num:Nat
 dN:Nat
 lk:Option Nat
 line:List Nat
 within:List Nat
 tp:Nat→TP
 gs:Nat→GS
 qg:Str→List Nat
 cm:Nat→Nat
 steps:Nat
 cells:List VA
 kl:List (VA×Nat)
noncomputable abbrev nZ:VA:=⟨103,30⟩
noncomputable abbrev Af:VA:=⟨106,0⟩
noncomputable abbrev tA(i:Nat):VA:=⟨102,i+1⟩
noncomputable abbrev cA(m:Nat):VA:=⟨101,m⟩
noncomputable def uf:Option Int→V
 |some i=> .int i
 |none=> .none
def RX:Option Nat→V
 |some m=> .ref (cA m)
 |none=> .none
noncomputable def PF:Option Str→V
 |some s=> .tup [.str s]
 |none=> .none
def YD:Option Nat→V
 |some i=> .ref (tA i)
 |none=> .none
noncomputable def Ve(b:Bool):V:= .int (if b=true then 1 else 0)
def N0(c:Cf)(i:Nat)(p:TP):TS:=⟨.str p.st.s,.lst [],uf p.wake,.none,RX p.call,.none,PF p.oQ,Ve p.ins,c.qa i⟩
noncomputable abbrev iV(i:Nat):V:= .int i
abbrev nU(l:List Nat):List V:=l.map iV
noncomputable def Cf.ks(c:Cf):List Str:=if c.iJ=2 then ["wait", "come"] else ["read", "write"]
noncomputable def Cf.en(c:Cf):V:=if c.iJ=2 then .lst [.str "wait",.str "come"] else .lst [.str "read",.str "write"]
def St.q(σ:St)(k:Str):List VA:=(σ.qg k).map fun i=>cA (σ.cm i)
def zm(c:Cf)(ln wi:VA):List (Fd×V):= [(.iW,.ref ff),(.gX,.ref nZ),(.fY,.int c.iJ),(.ip,.ref c.gl),(.line,.ref ln),(.within,.ref wi),(.fX,.bool true)]
def qk(c:Cf)(i:Nat)(g:GS):List (Fd×V):= [(.cJ,.bool (c.wr i)),(.rest,.int (c.rest i)),(.bZ,(c.pat i).v),(.gO,.int (c.gO i)),(.bc,.int g.bc),(.since,.int g.since),(.jG,uf g.jG)]
def kx(c:Cf)(σ:St)(i:Nat)(k:Str)(s:Str):CR:=⟨σ.cm i,tA i,nZ,eM k,.lst [iV i],.str s,(c.pat i).dl (σ.gs i).since,.bool false,.bool (c.pat i).cond,.none⟩
noncomputable def H3(H:Hp)(l:V):Prop:=l= .lst []∨∃r:VA,l= .ref r∧r.t=9∧H.get r=some (.list [])
structure Cf.Ok(c:Cf):Prop where
 n6:c.n≤6
 rm:c.rm.t=3
 gl:c.gl.t=16
 ga:∀i<c.n,(c.ga i).t=3
 gr:∀i<c.n,c.ga i≠c.rm
 gi:∀i<c.n,∀j<c.n,c.ga i=c.ga j→i=j
 qd:c.qd.t=2
 qa:∀i<c.n,(c.qa i).t=2∧c.qa i≠c.qd
 qi:∀i<c.n,∀j<c.n,c.qa i=c.qa j→i=j
 tl:c.tl.t=15
 dl:c.dl.t=15
 xr:c.xr.t=8
 xw:c.xw.t=8
 xs:c.xs.t=8
 xx:c.xw≠c.xs
 sl:c.sl.t=17
 r6:c.r6≠ []
 wl:c.r6.length≤1000
 pat:∀i<c.n,(c.pat i).ok
 rest:∀i<c.n,0≤c.rest i
 gO:∀i<c.n,1≤c.gO i
 iJ:c.iJ=0∨c.iJ=1∨c.iJ=2
structure Stat(c:Cf)(H:Hp):Prop where
 li:H.get Af=some (.inst 407 [(.number,.int 0),(.owner,.none),(.mT,.ref c.dl),(.nB,.bool false)])
 tl:H.get c.tl=some (.list ((aR c.n).map fun i=>V.ref (tA i)))
 gl:H.get c.gl=some (.list ((aR c.n).map fun i=>V.ref (c.ga i)))
 xr:H.get c.xr=some (.cell (.ref c.rm))
 xw:H.get c.xw=some (.cell (.lst (c.r6.map V.int)))
 xs:H.get c.xs=some (.cell (.ref c.sl))
noncomputable def QH(c:Cf)(σ:St)(s:Int)(lo:VA):TK:=⟨c.lim,.iC 0 [c.xw,c.xs],c.tl,σ.num,s,lo,.iC 1 [c.xr]⟩
structure Vq(c:Cf)(σ:St)(H:Hp):Prop where
 fr:eP H:=by walk_at "i"
 st:Stat c H:=by walk_at "i"
 tk:∃s lo,H.get ff=some (.inst 544 (pP (QH c σ s lo)))∧lo.t=14∧H.get lo=some (.list (fu σ.dN (.ref nZ))):=by walk_at "i"
 ck:H.get sV=some (.inst 88 (HS σ.now)):=by walk_at "i"
 th:∃l,H.get nZ=some (.inst 221 (eK c.en c.qd (YD σ.lk) l))∧H3 H l:=by walk_at "i"
 rm:∃ln wi:VA,H.get c.rm=some (.aU (zm c ln wi))∧ln.t=12∧wi.t=13∧H.get ln=some (.list (nU σ.line))∧H.get wi=some (.list (nU σ.within)):=by walk_at "i"
 gu:∀i<c.n,H.get (c.ga i)=some (.aU (qk c i (σ.gs i))):=by walk_at "i"
 ts:∀i<c.n,H.get (tA i)=some (.inst 137 (bK ((i+1:Nat):Int) (N0 c i (σ.tp i)))):=by walk_at "i"
 qe:∀i<c.n,H.get (c.qa i)=some (.aU []):=by walk_at "i"
 qr:QR H c.qd c.ks σ.q:=by walk_at "i"
 ca:∀k∈c.ks,∀i∈σ.qg k,H.get (cA (σ.cm i))=some (.inst 31 (cN (kx c σ i k "queued"))):=by walk_at "i"
 cn:∀m,σ.num<m→H.get (cA m)=none:=by walk_at "i"
 sl:∃ls,H.get c.sl=some (.list ls)∧ls.length=σ.steps:=by walk_at "i"
 ce:∀x∈σ.cells,x.t=8∧H.get x=some (.cell (.ref c.rm)):=by walk_at "i"
 kl:∀p∈σ.kl,p.1.t=14∧H.get p.1=some (.list (fu p.2 (.ref nZ))):=by walk_at "i"
structure Cm(c:Cf)(σ:St):Prop where
 q:∀k,(σ.qg k).Nodup∧∀i∈σ.qg k,i<c.n
 line:σ.line.Nodup∧∀i∈σ.line,i<c.n
 within:σ.within.Nodup∧∀i∈σ.within,i<c.n
 steps:σ.steps≤1000
structure Inv(c:Cf)(σ:St)(H:Hp):Prop extends Vq c σ H where
 ok:c.Ok:=by walk_at "i"
 c0:Cm c σ:=by walk_at "i"
noncomputable abbrev fi(b:Nat→Bool)(H H':Hp):Prop:=cZ (fun y=>b y.t=true) H H'
section
variable {c:Cf}{σ:St}{H H':Hp}{b:Nat→Bool}
theorem fi.get(s:fi b H H')(hf:eP H)(ht:y.t=t)(hb:b t=false)(e:H.get y=some o):H'.get y=some o:=cZ.get s (by(refine ht.symm▸?_;refine hb.symm▸?_);exact aw) (hf.old e) e
theorem bE{y a:VA}(ht:a.t=t)(h:b t=true):y=a→b y.t=true:=fun e=>by(refine e.symm▸?_;refine ht.symm▸?_);exact h
theorem bT{y:VA}(h:b t=true):y.t=t→b y.t=true:=fun e=>by refine e.symm▸?_;exact h
theorem Stat.keep(S:Stat c H)(ok:c.Ok)(hf:eP H)(s:fi b H H')(e1:b 106=false)(e2:b 15=false)(e3:b 16=false)(e4:b 8=false):Stat c H':=
 ⟨s.get hf rfl e1 S.li,s.get hf ok.tl e2 S.tl,s.get hf ok.gl e3 S.gl,s.get hf ok.xr e4 S.xr,s.get hf ok.xw e4 S.xw,s.get hf ok.xs e4 S.xs⟩
section
variable (R:Inv c σ H)
include R
theorem Inv.Un(s:fi b H H')(e1:b 106=false)(e2:b 15=false)(e3:b 16=false)(e4:b 8=false):Stat c H':=R.st.keep R.ok R.fr s e1 e2 e3 e4
theorem Inv.WV(s:fi b H H')(e1:b 104=false)(e2:b 14=false):∃s lo,H'.get ff=some (.inst 544 (pP (QH c σ s lo)))∧lo.t=14∧H'.get lo=some (.list (fu σ.dN (.ref nZ))):=by
 refine sN (R.tk) fun u lo a d e=>?_
 exact zF u lo (s.get R.fr rfl e1 a) d (s.get R.fr d e2 e)
theorem Inv.Uh(s:fi b H H')(e1:b 105=false):H'.get sV=some (.inst 88 (HS σ.now)):=s.get R.fr rfl e1 R.ck
theorem Inv.Uo(s:fi b H H')(e1:b 103=false)(e2:b 9=false):∃l,H'.get nZ=some (.inst 221 (eK c.en c.qd (YD σ.lk) l))∧H3 H' l:=by
 refine aS (R.th) fun l a d=>?_
 refine dG l (s.get R.fr rfl e1 a) ?_
 rcases d with d|⟨r,d,d2,d3⟩
 ·exact .inl d
 ·exact .inr ⟨r,d,d2,s.get R.fr d2 e2 d3⟩
theorem Inv.Ul(s:fi b H H')(e1:b 3=false)(e2:b 12=false)(e3:b 13=false):∃ln wi:VA,H'.get c.rm=some (.aU (zm c ln wi))∧ln.t=12∧wi.t=13∧H'.get ln=some (.list (nU σ.line))∧H'.get wi=some (.list (nU σ.within)):=by
 refine qj (R.rm) fun ln wi a t1 t2 d e=>?_
 exact Pa ln wi (s.get R.fr R.ok.rm e1 a) t1 t2 (s.get R.fr t1 e2 d) (s.get R.fr t2 e3 e)
theorem Inv.Uj(s:fi b H H')(e1:b 3=false):∀i<c.n,H'.get (c.ga i)=some (.aU (qk c i (σ.gs i))):=fun i hi=>s.get R.fr (R.ok.ga i hi) e1 (R.gu i hi)
theorem Inv.Up(s:fi b H H')(e1:b 102=false):∀i<c.n,H'.get (tA i)=some (.inst 137 (bK ((i+1:Nat):Int) (N0 c i (σ.tp i)))):=fun i hi=>s.get R.fr rfl e1 (R.ts i hi)
theorem Inv.SI(s:fi b H H')(e1:b 2=false)(e2:b 11=false):QR H' c.qd c.ks σ.q:=R.qr.keep s R.fr (by(refine R.ok.qd.symm▸?_;refine e1.symm▸?_);exact aw) fun y hy=>by(refine hy.symm▸?_;refine e2.symm▸?_);exact aw
theorem Inv.Uk(s:fi b H H')(e1:b 2=false):∀i<c.n,H'.get (c.qa i)=some (.aU []):=fun i hi=>s.get R.fr (R.ok.qa i hi).1 e1 (R.qe i hi)
theorem Inv.K4(s:cZ X H H')(h:∀y,X y→y.t=2→y=c.qd):∀i<c.n,H'.get (c.qa i)=some (.aU []):=fun i hi=>s.get (fun x=>(R.ok.qa i hi).2 (h _ x (R.ok.qa i hi).1)) (R.fr.old (R.qe i hi)) (R.qe i hi)
theorem Inv.SH(s:fi b H H')(e1:b 101=false):∀k∈c.ks,∀i∈σ.qg k,H'.get (cA (σ.cm i))=some (.inst 31 (cN (kx c σ i k "queued"))):=fun k hk i hi=>s.get R.fr rfl e1 (R.ca k hk i hi)
theorem Inv.Ui(s:fi b H H')(e1:b 101=false):∀m,σ.num<m→H'.get (cA m)=none:=fun m hm=>((s.keep (cA m) (by refine(?_:¬(b 101=true));refine e1.symm▸?_;exact aw) (.inl (by refine(?_:100≤101);exact eJ _))).1).trans (R.cn m hm)
theorem Inv.Um(s:fi b H H')(e1:b 17=false):∃ls,H'.get c.sl=some (.list ls)∧ls.length=σ.steps:=by
 refine aS (R.sl) fun ls a e=>?_
 exact dG ls (s.get R.fr R.ok.sl e1 a) e
theorem Inv.Ug(s:fi b H H')(e1:b 8=false):∀x∈σ.cells,x.t=8∧H'.get x=some (.cell (.ref c.rm)):=fun x hx=>⟨(R.ce x hx).1,s.get R.fr (R.ce x hx).1 e1 (R.ce x hx).2⟩
theorem Inv.Vg(s:fi b H H')(e1:b 14=false):∀p∈σ.kl,p.1.t=14∧H'.get p.1=some (.list (fu p.2 (.ref nZ))):=fun x hx=>⟨(R.kl x hx).1,s.get R.fr (R.kl x hx).1 e1 (R.kl x hx).2⟩
theorem Inv.cu(s:cZ (fun _=>False) H H'):Inv c σ H':=
 haveI s:fi (fun _=>false) H H':=s.mono fun _ f=>f.elim
 {fr:=s.fresh R.fr,st:=R.Un s rfl rfl rfl rfl,tk:=R.WV s rfl rfl,ck:=R.Uh s rfl,th:=R.Uo s rfl rfl,rm:=R.Ul s rfl rfl rfl,gu:=R.Uj s rfl,ts:=R.Up s rfl,qe:=R.Uk s rfl,qr:=R.SI s rfl rfl,ca:=R.SH s rfl,cn:=R.Ui s rfl,sl:=R.Um s rfl,ce:=R.Ug s rfl,kl:=R.Vg s rfl,ok:=R.ok,c0:=R.c0}
theorem Inv.z5(s:cZ X H H')(h:∀y,X y→y.t=102→y=tA i)(e:H'.get (tA i)=some (.inst 137 (bK ((i+1:Nat):Int) (N0 c i p)))):
  ∀j<c.n,H'.get (tA j)=some (.inst 137 (bK ((j+1:Nat):Int) (N0 c j (if j=i then p else σ.tp j)))):=fun j hj=>by
 by_cases hM:j=i
 ·apply iH hM;refine(ah (if_pos rfl))▸?_;exact e
 ·refine(ah (if_neg hM))▸?_
  refine s.get (fun x=>hM ?_) (R.fr.old (R.ts j hj)) (R.ts j hj)
  have:=congrArg VA.n (h _ x rfl)
  exact El.inj this
theorem Inv.Pr(s:cZ X H H')(h:∀y,X y→y.t=101→y=cA m){q:Str→List Nat}(hq:∀k∈c.ks,∀i∈q k,i∈σ.qg k∧σ.cm i≠m):∀k∈c.ks,∀i∈q k,H'.get (cA (σ.cm i))=some (.inst 31 (cN (kx c σ i k "queued"))):=fun k hk i hi=>by
 refine cQ (hq k hk i hi) fun h1 h2=>?_
 haveI e:=R.ca k hk i h1
 exact s.get (fun x=>h2 (congrArg VA.n (h _ x rfl))) (R.fr.old e) e
theorem Inv.Cs(hk:k∈c.ks)(jM:k'∈c.ks)(hi:i∈σ.qg k)(hj:j∈σ.qg k')(e:σ.cm i=σ.cm j):i=j∧k=k':=by
 haveI a:=R.ca k hk i hi
 haveI b:=R.ca k' jM j hj
 rw [e,b] at a
 have h:cN (kx c σ j k' "queued")=cN (kx c σ i k "queued"):=(ib.inst.inj (Option.some.inj a)).2
 unfold cN kx at h
 simp only [vD.injEq,Prod.mk.injEq,V.ref.injEq,VA.mk.injEq,V.tup.injEq,V.str.injEq] at h
 exact⟨by lia,by have:=h.2.2.2.1;simp_all⟩
theorem Inv.Q7(hk:k∈c.ks)(hi:i∈σ.qg k):σ.cm i≤σ.num:=Ow fun h=>by
 haveI a:=R.ca k hk i hi
 rw [R.cn _ h] at a;exact nn a
theorem Inv.BR(k:Str):(σ.q k).length≤1000:=by
 unfold St.q
 rw [aq]
 have:=m5 (ks:=aR c.n) (R.c0.q k).1 fun i hi=>ei.mpr ((R.c0.q k).2 i hi)
 replace this:=(bP)▸this
 have:=R.ok.n6
 exact ai (ai ‹_› ‹_›) (by decide)
theorem Inv.calls:Calls H c.ks σ.q:=fun k hk x hx=>by
 refine aS (aP.mp hx) fun i hi cj=>?_
 apply sb cj
 exact Pc _ _ _ ⟨R.ca k hk i hi,rfl,rfl⟩ rfl (R.ts i ((R.c0.q k).2 i hi)) rfl
end
end
theorem E7(c:Cf):c.ks.length≤1000:=by unfold Cf.ks;split<;>simp
section
variable {c:Cf}{σ:St}{H:Hp}{i:Nat}{k:Str}{Q:V→Hp→Prop}
noncomputable abbrev up{α:Type}(f:Nat→α)(i:Nat)(v:α):Nat→α:=fun j=>if j=i then v else f j
noncomputable abbrev uq{α:Type}(f:Str→α)(k:Str)(v:α):Str→α:=fun j=>if j=k then v else f j
noncomputable def Co.CH(n:Int):Co→Option Int
 | .num k=> .some (n+k)
 |_=>Option.none
theorem Mg(p:Co)(n:Int):p.dl n=uf (p.CH n):=by induction p<;>rfl
theorem H3.keep(h:H3 H l)(hf:eP H)(s:fi b H H')(e:b 9=false):H3 H' l:=by
 rcases h with d|⟨r,d,d2,d3⟩
 ·exact .inl d
 ·exact .inr ⟨r,d,d2,s.get hf d2 e d3⟩
theorem H3.of(h:H3 H l):listOf H l=some []:=by
 rcases h with rfl|⟨r,rfl,_,d⟩
 ·rfl
 ·refine(?_:(match H.get r with|some (.list vs)=>some vs|_=>none)=_)
  (refine d.symm▸?_;with_reducible rfl)
theorem Uz:(St.q {σ with qg:=uq σ.qg k l})=qx σ.q k (l.map fun i=>cA (σ.cm i)):=by
 funext j
 refine(?_:gf _ (if j=k then l else σ.qg j)=if j=k then _ else gf _ (σ.qg j))
 split<;>rfl
theorem Xe(h:∀k,i∉σ.qg k):(St.q {σ with cm:=up σ.cm i m})=σ.q:=by
 funext j
 refine eS fun x hx=>?_
 have:x≠i:=fun e=>h j (e▸hx)
 refine(?_:cA (if x=i then m else σ.cm x)=_)
 (refine(ah (if_neg this))▸?_;with_reducible rfl)
noncomputable abbrev XF(t:Nat):Bool:=t==102||t==103
theorem yO(R:Inv c σ H)(hi:i<c.n)(hl:σ.lk=none)(hp:(σ.tp i).ins=false)(q:∀H',Inv c {σ with lk:=some i,tp:=up σ.tp i {σ.tp i with oQ:=none,ins:=true}} H'→Q .none H'):
  Wp (nz [.ref nZ,.ref (tA i),.bool true]) H Q:=by
 refine aS (R.th) fun l a d=>?_
 replace a:=(hl)▸a
 have sb:∀{H'},cZ (fun y=>y=tA i∨y=nZ) H H'→fi XF H H':=fun s=>s.mono fun y=>Or.rec (bE rfl rfl) (bE rfl rfl)
 refine Gb a (fun H' s=>(d.keep R.fr (sb s) rfl).of) (R.ts i hi) (by refine(?_:Ve _=_);refine hp.symm▸?_;rfl) (by simp) (.inl (by decide)) (.inl (by refine(?_:100≤102);exact af _ _)) fun H' s g1 g2=>q H' ?_
 haveI s':=sb s
 exact {th:=⟨l,g1,d.keep R.fr s' rfl⟩,ts:=R.z5 s (fun y=>Or.rec (fun e _=>e) fun e h=>by replace h:=(e)▸h;exact aj (by cases h)) g2}
theorem wR(R:Inv c σ H)(hi:i<c.n)(hl:σ.lk=some i)(hp:(σ.tp i).ins=true)(q:∀H',Inv c {σ with lk:=none,tp:=up σ.tp i {σ.tp i with ins:=false}} H'→Q .none H'):
  Wp (j7 [.ref nZ,.ref (tA i)]) H Q:=by
 refine aS (R.th) fun l a d=>?_
 replace a:=(hl)▸a
 have sb:∀{H'},cZ (fun y=>y=tA i∨y=nZ) H H'→fi XF H H':=fun s=>s.mono fun y=>Or.rec (bE rfl rfl) (bE rfl rfl)
 refine EM R.fr a (fun H' s=>(d.keep R.fr (sb s) rfl).of) (R.ts i hi) (by refine(?_:Ve _=_);refine hp.symm▸?_;rfl) (by simp) (.inl (by decide)) (.inl (by refine(?_:100≤102);exact af _ _)) fun H' r s g1 g2 tr nr g3=>q H' ?_
 haveI s':=sb s
 exact {th:=⟨.ref r,g1,.inr ⟨r,rfl,tr,g2⟩⟩,ts:=R.z5 s (fun y=>Or.rec (fun e _=>e) fun e h=>by replace h:=(e)▸h;exact aj (by cases h)) g3}
noncomputable abbrev Zd(t:Nat):Bool:=t==104||t==102||t==101
theorem LY(s:cZ (fun y=>y=ff∨y=tA i∨y=cA m) H H'):fi Zd H H':=s.mono fun y=>Or.rec (bE rfl rfl) (Or.rec (bE rfl rfl) (bE rfl rfl))
theorem Fc{lo:VA}(R:Inv c σ H)(s:fi b H H')(t:lo.t=14)(e:b 14=false)(h:H.get lo=some (.list vs)):H'.get lo=some (.list vs):=s.get R.fr t e h
theorem Ij(R:Inv c σ H)(s:cZ X H H')(h:∀y,X y→y.t=101→y=cA (σ.num+1)):σ.num+1<m→H'.get (cA m)=none:=fun hm=>by
 refine((s.keep (cA m) (fun x=>?_) (.inl (by refine(?_:100≤101);exact eJ _))).1).trans (R.cn m (by exact cY ‹_›))
 have:=congrArg VA.n (h _ x rfl)
 lia
theorem L4(R:Inv c σ H)(s:cZ X H H')(h:∀y,X y→y.t=101→y=cA (σ.num+1))(hq:∀k,i∉σ.qg k):
  ∀k∈c.ks,∀j∈σ.qg k,H'.get (cA (up σ.cm i m j))=some (.inst 31 (cN (kx c {σ with num:=σ.num+1,cm:=up σ.cm i m,tp:=p} j k "queued"))):=fun k hk j hj=>by
 haveI hM:j≠i:=fun e=>hq k (e▸hj)
 haveI e:=R.ca k hk j hj
 haveI n:=R.Q7 hk hj
 unfold kx
 refine(?_:H'.get (cA (if j=i then m else σ.cm j))=some (.inst 31 (cN ⟨((if j=i then m else σ.cm j:Nat):Int),tA j,nZ,eM k,.lst [iV j],_,(c.pat j).dl (σ.gs j).since,.bool false,.bool (c.pat j).cond,.none⟩)))
 refine(ah (if_neg hM))▸?_
 refine s.get (fun x=>?_) (R.fr.old e) e
 have:=congrArg VA.n (h _ x rfl)
 lia
theorem wy(R:Inv c σ H)(hi:i<c.n)(hq:∀k,i∉σ.qg k)(hn:(σ.gs i).since=σ.now)(q:∀H' (aY:St),aY={σ with num:=σ.num+1,cm:=up σ.cm i (σ.num+1),tp:=up σ.tp i {σ.tp i with call:=some (σ.num+1),oQ:=none}}→Inv c aY H'→
   H'.get (cA (σ.num+1))=some (.inst 31 (cN (kx c aY i k "served")))→Q (.ref (cA (σ.num+1))) H'):
  Wp (jF [.ref ff,.ref nZ,.ref (tA i),eM k,.lst [iV i],(c.pat i).v]) H Q:=by
 refine sN (R.tk) fun u lo a d e=>?_
 refine wz (c:=cA (σ.num+1)) (R.ok.pat i hi) a R.ck (R.ts i hi) rfl rfl (R.cn _ (aW _)) fun H' s g1 g2 g3=>q H' _ rfl ?_ ?_
 ·haveI s':=LY s
  have uP:∀y,(y=ff∨y=tA i∨y=cA (σ.num+1))→y.t=101→y=cA (σ.num+1):=fun y=>Or.rec (fun e h=>by replace h:=(e)▸h;exact aj (by cases h)) (Or.rec (fun e h=>by replace h:=(e)▸h;exact aj (by cases h)) fun e _=>e)
  refine {tk:=⟨u,lo,g1,d,Fc R s' d rfl e⟩,ts:=R.z5 s (fun y=>Or.rec (fun e h=>by replace h:=(e)▸h;exact aj (by cases h)) (Or.rec (fun e _=>e) fun e h=>by replace h:=(e)▸h;exact aj (by cases h))) g3,qr:=?_,ca:=L4 R s uP hq,cn:=fun m=>Ij R s uP}
  have:=Xe (σ:={σ with num:=σ.num+1,tp:=up σ.tp i {σ.tp i with call:=some (σ.num+1),oQ:=none}}) (m:=σ.num+1) hq
  exact this▸R.SI s' rfl rfl
 ·unfold kx
  refine(?_:H'.get _=some (ib.inst 31 (cN ⟨((if i=i then σ.num+1 else _:Nat):Int),_,_,_,_,_,(c.pat i).dl (σ.gs i).since,_,_,_⟩)))
  (refine(ah (if_pos rfl))▸?_;refine hn.symm▸?_)
  exact g2
theorem Fs(R:Inv c σ H)(hi:i<c.n)(hp:c.pat i= .sW)(q:∀H',Inv c {σ with num:=σ.num+1,tp:=up σ.tp i {σ.tp i with call:=none,oQ:=some "refused"}} H'→Q .none H'):
  Wp (fK [.ref ff,.ref nZ,.ref (tA i),eM k,.lst [iV i],(c.pat i).v]) H Q:=by
 refine sN (R.tk) fun u lo a d e=>?_
 refine hp.symm▸?_
 refine Ft (c:=cA (σ.num+1)) a R.ck (R.ts i hi) rfl rfl (R.cn _ (aW _)) fun H' s g1 g3=>q H' ?_
 haveI s':=LY s
 have uP:∀y,(y=ff∨y=tA i∨y=cA (σ.num+1))→y.t=101→y=cA (σ.num+1):=fun y=>Or.rec (fun e h=>by replace h:=(e)▸h;exact aj (by cases h)) (Or.rec (fun e h=>by replace h:=(e)▸h;exact aj (by cases h)) fun e _=>e)
 exact {tk:=⟨u,lo,g1,d,Fc R s' d rfl e⟩,ts:=R.z5 s (fun y=>Or.rec (fun e h=>by replace h:=(e)▸h;exact aj (by cases h)) (Or.rec (fun e _=>e) fun e h=>by replace h:=(e)▸h;exact aj (by cases h))) g3,ca:=R.Pr s uP (fun k hk j hj=>⟨hj,fun e=>by have:=R.Q7 hk hj;lia⟩),cn:=fun m=>Ij R s uP}
variable {k':Str}
theorem R9(h:∀k,i∉σ.qg k)(hl:l=σ.qg k++ [i]):(St.q {σ with num:=n,cm:=up σ.cm i m,tp:=p,qg:=uq σ.qg k l})=qx σ.q k (σ.q k++ [cA m]):=by
 apply iH hl
 haveI e:∀j,(σ.qg j).map (fun x=>cA (up σ.cm i m x))=σ.q j:=fun j=>eS fun x hx=>by
  have:x≠i:=fun e=>h j (e▸hx)
  refine(?_:cA (if x=i then m else σ.cm x)=_)
  (refine(ah (if_neg this))▸?_;with_reducible rfl)
 funext j
 refine(?_:gf (fun x=>cA (up σ.cm i m x)) (if j=k then σ.qg k++ [i] else σ.qg j)=if j=k then σ.q k++ [cA m] else σ.q j)
 by_cases hj:j=k
 ·rw [if_pos hj,if_pos hj,dK,e]
  refine(?_:σ.q k++ [cA (if i=i then m else σ.cm i)]=_)
  (refine(ah (if_pos rfl))▸?_;with_reducible rfl)
 ·rw [if_neg hj,if_neg hj,e]
theorem DS(R:Inv c σ H)(hi:i<c.n)(hq:∀k,i∉σ.qg k):Cm c {σ with num:=n,cm:=m,tp:=p,qg:=uq σ.qg k (σ.qg k++ [i])}:=by
 refine⟨fun j=>?_,R.c0.line,R.c0.within,R.c0.steps⟩
 refine(?_:(if j=k then σ.qg k++ [i] else σ.qg j).Nodup∧∀x∈(if j=k then σ.qg k++ [i] else σ.qg j),x<c.n)
 split
 ·refine iN ?_ (fun x hx=>?_)
  ·rw [fq]
   refine fM ((R.c0.q k).1) (by simp) (fun x hx y hy e=>?_)
   replace e:=(aA.mp hy)▸e
   exact hq k (e▸hx)
  ·rcases eH.mp hx with h|h
   ·exact(R.c0.q k).2 x h
   ·refine(ah (aA.mp h))▸?_;exact hi
 ·exact R.c0.q j
theorem xV(R:Inv c σ H):Cm c {σ with tp:=p,qg:=uq σ.qg k ((σ.qg k).filter f)}:=by
 refine⟨fun j=>?_,R.c0.line,R.c0.within,R.c0.steps⟩
 refine(?_:(if j=k then(σ.qg k).filter f else σ.qg j).Nodup∧∀x∈(if j=k then(σ.qg k).filter f else σ.qg j),x<c.n)
 split
 ·exact⟨(R.c0.q k).1.filter _,fun x hx=>(R.c0.q k).2 x (bH.mp hx).1⟩
 ·exact R.c0.q j
noncomputable abbrev Ze(t:Nat):Bool:=t==104||t==102||t==101||t==2||t==11
theorem Dx(R:Inv c σ H)(hi:i<c.n)(hp:(c.pat i).cond=false)(hk:k∈c.ks)(hq:∀k,i∉σ.qg k)(hn:(σ.gs i).since=σ.now)(q:∀H',Inv c {σ with num:=σ.num+1,cm:=up σ.cm i (σ.num+1),tp:=up σ.tp i {σ.tp i with st:= .eC,wake:=(c.pat i).CH σ.now,call:=some (σ.num+1),oQ:=none},qg:=uq σ.qg k (σ.qg k++ [i])} H'→Q .none H'):
  Wp (fK [.ref ff,.ref nZ,.ref (tA i),eM k,.lst [iV i],(c.pat i).v]) H Q:=by
 refine sN (R.tk) fun u lo a d e=>?_
 refine aS (R.th) fun l Ge Sv=>?_
 refine Dy (c:=cA (σ.num+1)) (R.ok.pat i hi) hp R.fr a R.ck (R.ts i hi) rfl Ge rfl R.qr hk (E7 c) (R.BR k) (R.fr.old (R.qr.choose_spec.1)) R.ok.qd rfl (R.cn _ (aW _)) fun H' s g1 g2 g3 g4=>q H' ?_
 haveI s':fi Ze H H':=s.mono fun y=>Or.rec (bE rfl rfl) (Or.rec (bE rfl rfl) (Or.rec (bE rfl rfl) (Or.rec (bE R.ok.qd rfl) (bT rfl))))
 have uP:∀y,(y=ff∨y=tA i∨y=cA (σ.num+1)∨y=c.qd∨y.t=11)→y.t=101→y=cA (σ.num+1):=by
  rintro y (e|e|e|e|e) h
  ·replace h:=(e)▸h;exact aj (by cases h)
  ·replace h:=(e)▸h;exact aj (by cases h)
  ·exact e
  ·(replace h:=(e)▸h;replace h:=(R.ok.qd)▸h);exact aj (by cases h)
  ·replace h:=(e)▸h;exact aj (by cases h)
 have KQ:∀y,(y=ff∨y=tA i∨y=cA (σ.num+1)∨y=c.qd∨y.t=11)→y.t=102→y=tA i:=by
  rintro y (e|e|e|e|e) h
  ·replace h:=(e)▸h;exact aj (by cases h)
  ·exact e
  ·replace h:=(e)▸h;exact aj (by cases h)
  ·(replace h:=(e)▸h;replace h:=(R.ok.qd)▸h);exact aj (by cases h)
  ·replace h:=(e)▸h;exact aj (by cases h)
 have h2:∀y,(y=ff∨y=tA i∨y=cA (σ.num+1)∨y=c.qd∨y.t=11)→y.t=2→y=c.qd:=by
  rintro y (e|e|e|e|e) h
  ·replace h:=(e)▸h;exact aj (by cases h)
  ·replace h:=(e)▸h;exact aj (by cases h)
  ·replace h:=(e)▸h;exact aj (by cases h)
  ·exact e
  ·replace h:=(e)▸h;exact aj (by cases h)
 refine {tk:=⟨u,lo,g1,d,Fc R s' d rfl e⟩,ts:=R.z5 s KQ (by rw [Mg] at g4;exact g4),qe:=R.K4 s h2,qr:=?_,ca:=fun k₁ GG j hj=>?_,cn:=fun m=>Ij R s uP,c0:=DS R hi hq}
 ·exact(R9 (σ:=σ) hq rfl)▸g2
 ·by_cases hM:j=i
  ·subst hM
   haveI Iy:k₁=k:=bS fun qH=>by
    haveI hj:j∈(if k₁=k then σ.qg k++ [j] else σ.qg k₁):=hj
    replace hj:=(if_neg qH)▸hj;exact hq k₁ hj
   subst Iy
   unfold kx
   refine(?_:H'.get (cA (if j=j then σ.num+1 else σ.cm j))=some (ib.inst 31 (cN ⟨((if j=j then σ.num+1 else σ.cm j:Nat):Int),tA j,nZ,eM k₁,.lst [iV j],_,(c.pat j).dl (σ.gs j).since,.bool false,.bool (c.pat j).cond,.none⟩)))
   (refine(ah (if_pos rfl))▸?_;refine hn.symm▸?_;refine hp.symm▸?_)
   exact g3
  ·haveI Wc:j∈σ.qg k₁:=by
    haveI hj:j∈(if k₁=k then σ.qg k++ [i] else σ.qg k₁):=hj
    by_cases h:k₁=k
    ·replace hj:=(if_pos h)▸hj
     rcases eH.mp hj with h'|h'
     ·exact h▸h'
     ·exact absurd (aA.mp h') hM
    ·replace hj:=(if_neg h)▸hj;exact hj
   exact L4 (p:=σ.tp) R s uP hq k₁ GG j Wc
variable {iS:Str}
noncomputable abbrev bQ(t:Nat):Bool:=t==101||t==2||t==11||t==102
abbrev X4(c:Cf)(m i:Nat)(y:VA):Prop:=y=cA m∨y=c.qd∨y.t=11∨y=tA i
theorem X4.b(ok:c.Ok):X4 c m i y→bQ y.t=true:=Or.rec (bE rfl rfl) (Or.rec (bE ok.qd rfl) (Or.rec (bT rfl) (bE rfl rfl)))
theorem X4.uP(ok:c.Ok){m:Nat}(y:VA):X4 c m i y→y.t=101→y=cA m:=by
 rintro (e|e|e|e) h
 ·exact e
 ·(replace h:=(e)▸h;replace h:=(ok.qd)▸h);exact aj (by cases h)
 ·replace h:=(e)▸h;exact aj (by cases h)
 ·replace h:=(e)▸h;exact aj (by cases h)
theorem X4.KQ(ok:c.Ok){m:Nat}(y:VA):X4 c m i y→y.t=102→y=tA i:=by
 rintro (e|e|e|e) h
 ·replace h:=(e)▸h;exact aj (by cases h)
 ·(replace h:=(e)▸h;replace h:=(ok.qd)▸h);exact aj (by cases h)
 ·replace h:=(e)▸h;exact aj (by cases h)
 ·exact e
theorem X4.h2{m:Nat}(y:VA):X4 c m i y→y.t=2→y=c.qd:=by
 rintro (e|e|e|e) h
 ·replace h:=(e)▸h;exact aj (by cases h)
 ·exact e
 ·replace h:=(e)▸h;exact aj (by cases h)
 ·replace h:=(e)▸h;exact aj (by cases h)
theorem Inv.XG(R:Inv c σ H)(hc:H.get (cA (σ.cm i))=some (.inst 31 (cN (kx c σ i k' iS)))){j:Nat}(hk:k∈c.ks)(hj:j∈σ.qg k)(e:σ.cm j=σ.cm i):j=i:=by
 haveI a:=R.ca k hk j hj
 rw [e,hc] at a
 haveI h:cN (kx c σ i k' iS)=cN (kx c σ j k "queued"):=(ib.inst.inj (Option.some.inj a)).2
 unfold cN kx at h
 simp only [vD.injEq,Prod.mk.injEq,V.ref.injEq,VA.mk.injEq] at h
 lia
theorem Jb(R:Inv c σ H)(hi:i<c.n)(hk:k∈c.ks)(hq:∀k,i∉σ.qg k)(hc:H.get (cA (σ.cm i))=some (.inst 31 (cN (kx c σ i k' iS))))(q:∀H',Inv c {σ with tp:=up σ.tp i {σ.tp i with st:= .eC,wake:=(c.pat i).CH (σ.gs i).since},qg:=uq σ.qg k (σ.qg k++ [i])} H'→Q .none H'):
  Wp (iA [.ref (cA (σ.cm i)),.ref nZ,eM k,.bool true]) H Q:=by
 refine aS (R.th) fun l Ge Sv=>?_
 refine Jc (κ:=kx c σ i k' iS) R.fr R.qr hk (E7 c) (R.BR k) (R.fr.old (R.qr.choose_spec.1)) R.ok.qd hc rfl Ge rfl (R.ts i hi) rfl fun H' s g1 g2 g3=>q H' ?_
 haveI s:cZ (X4 c (σ.cm i) i) H H':=s
 haveI s':fi bQ H H':=s.mono fun y=>X4.b R.ok
 refine {ts:=R.z5 s (X4.KQ R.ok) (by replace g3:=(show(kx c σ i k' iS).deadline=_ from Mg _ _)▸g3;exact g3),qe:=R.K4 s X4.h2,qr:=?_,ca:=fun k₁ GG j hj=>?_,cn:=fun m hm=>?_,c0:=DS R hi hq}
 ·have:St.q {σ with qg:=uq σ.qg k (σ.qg k++ [i])}=qx σ.q k (σ.q k++ [cA (σ.cm i)]):=by rw [Uz,dK];rfl
  exact this▸g1
 ·haveI hj:j∈(if k₁=k then σ.qg k++ [i] else σ.qg k₁):=hj
  by_cases hM:j=i
  ·subst hM
   haveI Iy:k₁=k:=bS fun qH=>by
    rw [if_neg qH] at hj;exact hq k₁ hj
   apply iH Iy
   exact g2
  ·haveI Wc:j∈σ.qg k₁:=by
    by_cases h:k₁=k
    ·rw [if_pos h] at hj
     rcases eH.mp hj with h'|h'
     ·exact h▸h'
     ·exact absurd (aA.mp h') hM
    ·rw [if_neg h] at hj;exact hj
   exact R.Pr s (X4.uP R.ok) (q:=σ.qg) (fun k₂ IB x hx=>⟨hx,fun e=>hq k₂ (R.XG hc IB hx e▸hx)⟩) k₁ GG j Wc
 ·refine((s.keep (cA m) (fun x=>?_) (.inl (by refine(?_:100≤101);exact eJ _))).1).trans (R.cn m hm)
  have:=congrArg VA.n (X4.uP R.ok _ x rfl)
  have:m=σ.cm i:=this
  replace hm:=this▸hm
  rw [R.cn _ hm] at hc;exact nn hc
abbrev X2(m i:Nat)(y:VA):Prop:=y=cA m∨y=tA i
theorem CL(R:Inv c σ H)(hi:i<c.n)(hq:∀k,i∉σ.qg k)(hc:H.get (cA (σ.cm i))=some (.inst 31 (cN (kx c σ i k' iS))))(q:∀H',Inv c {σ with tp:=up σ.tp i {st:= .ready,wake:=none,call:=none,oQ:=some "called",ins:=(σ.tp i).ins}} H'→Q .none H'):
  Wp (pY [.ref (cA (σ.cm i)),.none]) H Q:=by
 refine Wp.f rfl ?_
 unfold xg
 refine Wp.b2 (AV (κ:=kx c σ i k' iS) hc (R.ts i hi) (.inl (by refine(?_:100≤101);exact eJ _)) (.inl (by refine(?_:100≤102);exact af _ _)) (by simp [kx]) (by simp [kx]) fun H' s g1 g2=>Wp.p (Wp.p (q H' ?_)))
 haveI s:cZ (X2 (σ.cm i) i) H H':=s
 haveI s':fi bQ H H':=s.mono fun y=>Or.rec (bE rfl rfl) (bE rfl rfl)
 have uP:∀y,X2 (σ.cm i) i y→y.t=101→y=cA (σ.cm i):=fun y=>Or.rec (fun e _=>e) fun e h=>by replace h:=(e)▸h;exact aj (by cases h)
 refine {ts:=R.z5 s (fun y=>Or.rec (fun e h=>by replace h:=(e)▸h;exact aj (by cases h)) fun e _=>e) g2,qe:=R.K4 s (fun y h t=>by rcases h with e|e<;>(replace t:=(e)▸t;exact aj (by cases t))),qr:=R.qr.keep s R.fr (fun h=>?_) (fun y hy h=>?_),ca:=R.Pr s uP (fun k₂ IB x hx=>⟨hx,fun e=>hq k₂ (R.XG hc IB hx e▸hx)⟩),cn:=fun m hm=>?_}
 ·have:=R.ok.qd
  rcases h with e|e<;>(replace this:=(e)▸this;exact aj (by cases this))
 ·rcases h with e|e<;>(replace hy:=(e)▸hy;exact aj (by cases hy))
 ·refine((s.keep (cA m) (fun x=>?_) (.inl (by refine(?_:100≤101);exact eJ _))).1).trans (R.cn m hm)
  have:=congrArg VA.n (uP _ x rfl)
  have:m=σ.cm i:=this
  replace hm:=this▸hm
  replace hc:=(R.cn _ hm)▸hc;exact nn hc
theorem I5(R:Inv c σ H)(hk:k∈c.ks)(hm:i∈σ.qg k){p:Nat→TP}:St.q {σ with tp:=p,qg:=uq σ.qg k ((σ.qg k).filter fun x=>decide (x≠i))}=qx σ.q k ((σ.q k).filter fun x=>decide (x≠cA (σ.cm i))):=by
 refine(Uz (σ:={σ with tp:=p})).trans ?_
 congr 1
 refine(?_:gf (fun x=>cA (σ.cm x)) ((σ.qg k).filter _)=((σ.qg k).map fun x=>cA (σ.cm x)).filter _)
 rw [jD]
 congr 1
 refine cW fun x hx=>?_
 refine(?_:decide (x≠i)=decide (cA (σ.cm x)≠cA (σ.cm i)))
 have:x=i↔cA (σ.cm x)=cA (σ.cm i):=⟨fun e=>by(refine e.symm▸?_;with_reducible rfl),fun e=>(R.Cs hk hk hx hm (congrArg VA.n e)).1⟩
 simp only [ne_eq,this]
theorem Et(R:Inv c σ H){H':Hp}(hk:k∈c.ks)(hm:i∈σ.qg k)(s:cZ (X4 c (σ.cm i) i) H H'):∀k₁∈c.ks,∀j∈(uq σ.qg k ((σ.qg k).filter fun x=>decide (x≠i))) k₁,H'.get (cA (σ.cm j))=some (.inst 31 (cN (kx c σ j k₁ "queued"))):=
 R.Pr s (X4.uP R.ok) fun k₁ GG j hj=>by
  haveI hj:j∈(if k₁=k then(σ.qg k).filter (fun x=>decide (x≠i)) else σ.qg k₁):=hj
  by_cases h:k₁=k
  ·subst h
   rw [if_pos rfl] at hj
   obtain⟨h1,h2⟩:=bH.mp hj
   exact⟨h1,fun e=>by have:=(R.Cs hk hk h1 hm e).1;simp [this] at h2⟩
  ·replace hj:=(if_neg h)▸hj
   exact⟨hj,fun e=>h (R.Cs GG hk hj hm e).2⟩
theorem Ey(R:Inv c σ H){H':Hp}(hk:k∈c.ks)(hm:i∈σ.qg k)(s:cZ (X4 c (σ.cm i) i) H H'):∀m,σ.num<m→H'.get (cA m)=none:=fun m Ce=>by
 refine((s.keep (cA m) (fun x=>?_) (.inl (by refine(?_:100≤101);exact eJ _))).1).trans (R.cn m Ce)
 have:=congrArg VA.n (X4.uP R.ok _ x rfl)
 have:=R.Q7 hk hm
 lia
theorem JQ(R:Inv c σ H)(hk:k∈c.ks):∀x∈σ.q k,∃Lz,CallAt H x Lz:=fun x hx=>by
 refine CI (R.calls k hk x hx) fun κ _ _ a _=>?_
 exact mK κ a
theorem J9(hm:i∈σ.qg k):cA (σ.cm i)∈σ.q k:=aP.mpr ⟨i,hm,rfl⟩
theorem Lh(R:Inv c σ H)(hk:k∈c.ks)(hm:i∈σ.qg k)(q:∀H',Inv c {σ with tp:=up σ.tp i {st:= .ready,wake:=none,call:=none,oQ:=some "refused",ins:=(σ.tp i).ins},qg:=uq σ.qg k ((σ.qg k).filter fun x=>decide (x≠i))} H'→fi bQ H H'→Q .none H'):
  Wp (lX [.ref (cA (σ.cm i))]) H Q:=by
 refine aS (R.th) fun l Ge Sv=>?_
 haveI hi:=(R.c0.q k).2 i hm
 refine BU (κ:=kx c σ i k "queued") R.fr R.qr (E7 c) (R.BR k) (R.fr.old (R.qr.choose_spec.1)) R.ok.qd ⟨R.ca k hk i hm,rfl,rfl⟩ rfl (J9 hm) (JQ R hk) Ge (R.ts i hi) rfl fun H' s g1 g2 g3=>q H' ?_ (cZ.mono (X:=X4 c (σ.cm i) i) s fun y=>X4.b R.ok)
 haveI s:cZ (X4 c (σ.cm i) i) H H':=s
 haveI s':fi bQ H H':=s.mono fun y=>X4.b R.ok
 exact {ts:=R.z5 s (X4.KQ R.ok) g3,qe:=R.K4 s X4.h2,qr:=(I5 R hk hm).symm▸g1,ca:=Et R hk hm s,cn:=Ey R hk hm s,c0:=xV R}
theorem FH(R:Inv c σ H)(hk:k∈c.ks)(hm:i∈σ.qg k)(hs:(σ.tp i).st= .eC)(DX:(σ.tp i).call=some (σ.cm i))(q:∀H',Inv c {σ with tp:=up σ.tp i {st:= .ready,wake:=none,call:=none,oQ:=some "late",ins:=(σ.tp i).ins},qg:=uq σ.qg k ((σ.qg k).filter fun x=>decide (x≠i))} H'→Q .none H'):
  Wp (gU [.ref (tA i)]) H Q:=by
 refine aS (R.th) fun l Ge Sv=>?_
 haveI hi:=(R.c0.q k).2 i hm
 refine FI (κ:=kx c σ i k "queued") R.fr R.qr (E7 c) (R.BR k) (R.fr.old (R.qr.choose_spec.1)) R.ok.qd ⟨R.ca k hk i hm,rfl,rfl⟩ rfl (J9 hm) (JQ R hk) Ge rfl (R.ts i hi) rfl (by refine(?_:V.str (σ.tp i).st.s=_);refine hs.symm▸?_;rfl) (by refine(?_:RX _=_);refine DX.symm▸?_;rfl) fun H' s g1 g3=>q H' ?_
 haveI s:cZ (X4 c (σ.cm i) i) H H':=s
 haveI s':fi bQ H H':=s.mono fun y=>X4.b R.ok
 exact {ts:=R.z5 s (X4.KQ R.ok) g3,qe:=R.K4 s X4.h2,qr:=(I5 R hk hm).symm▸g1,ca:=Et R hk hm s,cn:=Ey R hk hm s,c0:=xV R}
noncomputable abbrev XE(t:Nat):Bool:=t==102
theorem FD(R:Inv c σ H)(s:cZ (fun y=>y=tA i) H H')(g:H'.get (tA i)=some (.inst 137 (bK ((i+1:Nat):Int) (N0 c i p)))):Inv c {σ with tp:=up σ.tp i p} H':=by
 haveI s':fi XE H H':=s.mono fun y=>bE rfl rfl
 exact {ts:=R.z5 s (fun y e _=>e) g}
theorem Gu(R:Inv c σ H)(hi:i<c.n){w:Int}(hw:1≤w)(hp:(σ.tp i).ins=false)(q:∀H',Inv c {σ with tp:=up σ.tp i {σ.tp i with st:= .delayed,wake:=some (σ.now+w),oQ:=none}} H'→Q .none H'):
  Wp (iL [.ref ff,.ref (tA i),.int w]) H Q:=by
 refine sN (R.tk) fun u lo a d e=>?_
 exact CG hw a R.ck (R.ts i hi) rfl (by refine(?_:Ve _=_);refine hp.symm▸?_;rfl) fun H' s g=>q H' (FD R s g)
theorem Jm(R:Inv c σ H)(hi:i<c.n)(hs:(σ.tp i).st= .delayed)(q:∀H',Inv c {σ with tp:=up σ.tp i {σ.tp i with st:= .ready,wake:=none,oQ:=none}} H'→Q .none H'):
  Wp (gU [.ref (tA i)]) H Q:=
 Jn (R.ts i hi) rfl (by refine(?_:V.str (σ.tp i).st.s=_);refine hs.symm▸?_;rfl) fun H' s g=>q H' (FD R s g)
theorem MN{P Q:Prop}(h:Q):if false=true then P else Q:=by refine(ah (if_neg aw))▸?_;exact h
theorem N6{Q:Fl→Hp→Prop}{st:List V}(h:H.get x=some (.aU []))(z:Q (.next st) H):Wp (GB (.ref x) mb st) H Q:=by
 refine ie (.next st) H ?_ z
 refine(?_:(match keysOf H (.ref x) with|some (x,ks)=>sP (fun H' i=>if H'.pv x=H.pv x then some ks[i]? else none) mb (ks.length+1) 0 st H|none=>none)=_)
 have:keysOf H (.ref x)=some (x, []):=by
  refine(?_:(match H.get x with|some (.cI es)=>some (x,es.map fun p:Str×V=>V.tup [.str p.1,.none])|some (.aU [])=>some (x, [])|_=>none)=_)
  (refine h.symm▸?_;with_reducible rfl)
 refine this.symm▸?_
 refine(?_:(match(if H.pv x=H.pv x then some none else none:Option (Option V)) with|none=>none|some none=>some (Fl.next st,H)|some (some v)=>_)=_)
 rw [if_pos rfl]
theorem Mh(hf:eP H)(h:H.get x=some (.aU []))(q:∀(H':Hp) (r:VA),cZ (fun y=>y=x) H H'→H'.get x=some (.aU [])→H'.get r=some (.list [])→r.t=9→H.next≤r.n→Q (.ref r) H'):Wp (nS [.ref x]) H Q:=by
 refine Wp.f rfl ?_
 unfold ub
 haveI nn:H.get ⟨2,H.next⟩=none:=hf _ (by refine(?_:2<100);exact af _ _) (az _)
 haveI xn:x≠⟨2,H.next⟩:=fun e=>by(replace h:=(e)▸h;replace h:=(nn)▸h);exact aj (by cases h)
 haveI s0:cZ (fun y=>y=x) H (H.set ⟨2,H.next⟩ (.et [])):=gP (by exact af _ _)
 haveI g0:(H.set ⟨2,H.next⟩ (.et [])).get x=some (.aU []):=aZ xn h
 refine Wp.b2 (jX (r7 nn (Wp.b (Wp.p (Wp.cy (N6 g0 ?_))))))
 haveI s1:cZ (fun y=>y=x) H ((H.set ⟨2,H.next⟩ (.et [])).set x (.aU [])):=s0.trans (dm rfl ((hf.old h).on s0))
 refine Wp.b2 (Wp.b ⟨(),_,by refine(?_:(match(H.set ⟨2,H.next⟩ (.et [])).get x with|some (.aU _)=>some ((),_)|some (.cI _)=>some ((),_)|some (.et _)=>some ((),_)|_=>none)=_);rw [g0],?_⟩)
 refine ie .none ((H.set ⟨2,H.next⟩ (.et [])).set x (.aU [])) ?_ (Wp.p ?_)
 ·refine(?_:(match(H.set ⟨2,H.next⟩ (.et [])).get x with|some (.aU es)=>if es.length≤1000000 then some (V.none,(H.set ⟨2,H.next⟩ (.et [])).set x (.aU [])) else none|_=>none)=_)
  rw [g0];rfl
 ·refine Wp.b (Wp.b ⟨.lst [],(H.set ⟨2,H.next⟩ (.et [])).set x (.aU []),?_,?_⟩)
  ·refine(?_:(((H.set ⟨2,H.next⟩ (.et [])).set x (.aU [])).get ⟨2,H.next⟩).bind _=_)
   rw [aZ (bM xn) au];rfl
  ·refine gT (vs:= []) (by exact af _ _) (fun _=>true) id (fun _=>True) (s1.fresh hf) (by simp) trivial (fun iw _ _ j=>gp j) (fun _ _ _ _ _ _=>trivial) (fun v hv=>by exact aj (by cases hv)) (fun v hv=>by exact aj (by cases hv)) fun iw r _ s2 tr lr _ gr=>Wp.p (q iw r (s1.trans (s2.mono fun _ f=>f.elim)) (s2.get id ((hf.old h).on s1) au) gr tr (ai s1.next lr))
noncomputable abbrev bC(t:Nat):Bool:=t==102||t==2
theorem Gq(hf:eP H)(ht:H.get t=some (.inst 137 (bK i τ)))(tt:t.t=102)(hq:H.get τ.qa=some (.aU []))(nq:t≠τ.qa)
  (q:∀H',cZ (fun y=>y=t∨y=τ.qa) H H'→H'.get τ.qa=some (.aU [])→H'.get t=some (.inst 137 (bK i {τ with ik:= .lst [],wake:= .none,state:= .str "completed"}))→Q .none H'):Wp (i3 [.ref t]) H Q:=by
 refine Wp.f rfl ?_
 unfold sv
 refine Wp.b3 (Wp.aE ht Hh (Wp.p ?_))
 refine Mh hf hq fun aG r s1 g1 gr tr lr=>Wp.cy ?_
 haveI ot:Old aG t:= .inl (by refine tt.symm▸?_;exact af _ _)
 haveI Yn:aG.get t=some (.inst 137 (bK i τ)):=s1.get nq (.inl (by refine tt.symm▸?_;exact af _ _)) ht
 refine ia (vs:= []) (by simp) (fun _ _ H'=>H'=aG) (fun _ _ H' e j=>by refine e.symm▸?_;exact c6 gr j) rfl (fun i v st H' hv=>by simp at hv) fun st bh e=>?_
 subst e
 refine Wp.cy (pw (fun _ _ H'=>H'=bh) 0 (by exact sZ _) rfl fun k st H' e=>?_)
 subst e
 refine Wp.b (Wp.aE Yn FE ⟨false,H',rfl,MN ?_⟩)
 refine Wp.b2 (Wp.lst (by kernel_rfl) (Wp.bb Yn Hd (by kernel_rfl) ?_))
 refine Wp.b (Wp.bb au ui (by kernel_rfl) (Wp.b (Wp.bb au oN (by kernel_rfl) (Wp.b (Wp.aE au r4 (Wp.cy ?_))))))
 refine ia (vs:= []) (by simp) (fun _ _ dg=>dg=_) (fun _ _ H' e j=>gp j) rfl (fun i v st H' hv=>by simp at hv) fun st dg e=>?_
 apply iH e
 refine Wp.b6 (Wp.aE au B0 (Wp.b ⟨false,_,rfl,Wp.p (Wp.p (Wp.p ?_))⟩))
 refine Wp.f rfl ?_
 unfold q5
 refine Wp.b (Wp.aE au NU (Wp.b (Wp.bb au Fz (by kernel_rfl) (Wp.b ⟨true,_,rfl,Wp.cy (Wp.p (Wp.p (Wp.p (q _ ?_ ?_ au))))⟩))))
 ·exact(s1.mono fun y e=> .inr e).trans (.fO (.inl rfl) ot (.fO (.inl rfl) ot (.fO (.inl rfl) ot (.fO (.inl rfl) ot .refl))))
 ·exact aZ (bM nq) (aZ (bM nq) (aZ (bM nq) (aZ (bM nq) g1)))
theorem yS(R:Inv c σ H)(hi:i<c.n)(q:∀H',Inv c {σ with tp:=up σ.tp i {σ.tp i with st:= .ju,wake:=none}} H'→Q .none H'):Wp (i3 [.ref (tA i)]) H Q:=by
 refine Gq R.fr (R.ts i hi) rfl (R.qe i hi) (fun e=>by have:=(R.ok.qa i hi).1;replace this:=(show c.qa i=tA i from e.symm)▸this;exact aj (by cases this)) fun H' s2 g1 g2=>q H' ?_
 haveI s2:cZ (fun y=>y=tA i∨y=c.qa i) H H':=s2
 haveI s':fi bC H H':=s2.mono fun y=>Or.rec (bE rfl rfl) (bE (R.ok.qa i hi).1 rfl)
 refine {ts:=R.z5 s2 (fun y=>Or.rec (fun e _=>e) fun e h=>by(replace h:=(e)▸h;replace h:=((R.ok.qa i hi).1)▸h);exact aj (by cases h)) g2,qe:=fun j hj=>?_,qr:=R.qr.keep s2 R.fr (fun h=>?_) (fun y hy h=>?_)}
 ·by_cases hM:j=i
  ·apply iH hM
   exact g1
  ·refine s2.get (fun h=>?_) (R.fr.old (R.qe j hj)) (R.qe j hj)
   rcases h with h|h
   ·have:=(R.ok.qa j hj).1;replace this:=(h)▸this;exact aj (by cases this)
   ·exact hM (R.ok.qi j hj i hi h)
 ·rcases h with h|h
  ·have:=R.ok.qd;replace this:=(h)▸this;cases this
  ·exact(R.ok.qa i hi).2 h.symm
 ·rcases h with h|h
  ·replace hy:=(h)▸hy;cases hy
  ·(replace hy:=(h)▸hy;replace hy:=((R.ok.qa i hi).1)▸hy);cases hy
theorem Wp.J4(h:H.get x=some (.list vs))(e:qL vs j=some u)(z:Q u H):Wp (fc (.ref x) (.int j)) H Q:=by
 refine ie u H ?_ z
 refine(?_:(match H.get x with|some (.list vs)=>(match qL vs j with|some u=>some (u,H)|none=>none)|some (.et es)=>(match Ir es j with|some u=>some (u,H)|none=>none)|_=>none)=_)
 refine h.symm▸?_
 refine(?_:(match qL vs j with|some u=>some (u,H)|none=>none)=_)
 (refine e.symm▸?_;with_reducible rfl)
theorem wZ{n:Nat}(e:vs[n]? =some u)(hn:n<4000000):qL vs n=some u:=by
 unfold qL
 rw [if_pos (pV n),if_pos (by exact sY.mpr ‹_›)]
 exact e
theorem Wp.Qv{n:Nat}(h:H.get x=some (.list vs))(e:vs[n]? =some u)(hn:n<4000000)(z:Q u H):Wp (fc (.ref x) (.int n)) H Q:=Wp.J4 h (wZ e hn) z
theorem qG(R:Inv c σ H)(hi:i<c.n)(q:Q (.ref (c.ga i)) H):Wp (fc (.ref c.gl) (iV i)) H Q:=by
 have:=R.ok.n6
 exact Wp.Qv R.st.gl (by rw [aC,oO hi];rfl) (by exact ai (ai ‹_› ‹_›) (by decide)) q
theorem yG(R:Inv c σ H)(q:Q (.ref c.gl) H):Wp (Internal.itemF (.ref c.rm) .ip) H Q:=by
 refine eY (R.rm) fun ln wi a _=>?_
 exact Wp.itemF a rfl q
theorem rf(R:Inv c σ H)(hi:i<c.n)(q:Q (.bool (c.wr i)) H):Wp (eF [.ref c.rm,iV i]) H Q:=by
 refine Wp.f rfl ?_
 unfold vj
 exact Wp.b3 (yG R (qG R hi (Wp.itemF (R.gu i hi) rfl (Wp.p q))))
noncomputable def live(σ:St)(i:Nat):Bool:=match(σ.gs i).jG with
 |none=>true
 |some d=>decide (σ.now<d)
noncomputable def SM(f:Nat→Bool):V→Bool
 | .int j=>f j.toNat
 |_=>false
theorem Mv:((nU l).filter (SM f)).map id=nU (l.filter f):=by
 rw [qB,jD];rfl
theorem J5(R:Inv c σ H)(q:∀(H':Hp) (r:VA),cZ (fun _=>False) H H'→H'.get r=some (.list (nU (σ.line.filter (live σ))))→r.t=9→H.next≤r.n→Q (.ref r) H'):Wp (lR [.ref c.rm]) H Q:=by
 refine qj (R.rm) fun ln wi a t1 t2 gl gw=>?_
 refine Wp.f rfl ?_
 unfold y6
 refine Wp.b3 (Wp.itemF a rfl (Wp.aE R.tk.choose_spec.choose_spec.1 ur (Wp.aE R.ck AA ?_)))
 refine Wp.b2 (Wp.itemF a rfl ?_)
 haveI l6:σ.line.length≤1000:=by
  have:=m5 (ks:=aR c.n) R.c0.line.1 fun i hi=>ei.mpr (R.c0.line.2 i hi)
  replace this:=(bP)▸this
  have:=R.ok.n6;exact ai (ai ‹_› ‹_›) (by decide)
 refine gT (vs:=nU σ.line) (by exact af _ _) (SM (live σ)) id (fun _=>True) R.fr (by rw [aq];exact ai ‹_› (by decide)) trivial (fun H' _ s j=>c6 (s.old R.fr gl) j) (fun _ _ _ _ _ _=>trivial) (fun v hv H' _ s=>?_) (fun v hv _ H' _ s=>Wp.p ⟨rfl,trivial,.refl⟩) fun H' r _ s tr lr _ gr=>Wp.p (q H' r s (by(refine gr.symm▸?_;refine Mv.symm▸?_;with_reducible rfl)) tr lr)
 refine aS (aP.mp hv) fun i hi cj=>?_
 apply sb cj
 haveI GF:=R.c0.line.2 i hi
 have R':=R.cu s
 refine Wp.nM ?_
 have one:∀{Q:V→Hp→Prop},Q (uf (σ.gs i).jG) H'→Wp (((Internal.itemF (.ref c.rm) .ip).d fun v=>(fc v (iV i))).d fun v=>(Internal.itemF v .jG)) H' Q:=fun z=>Wp.b2 (yG R' (qG R' GF (Wp.itemF (R'.gu i GF) rfl z)))
 induction hd:(σ.gs i).jG with
 |none=>
  rw [hd] at one
  refine Wp.Ld (Wp.b (one (Wp.is ⟨rfl,?_,trivial,.refl⟩)))
  refine(?_:true=live σ i)
  unfold live;(refine hd.symm▸?_;with_reducible rfl)
 |some d=>
  rw [hd] at one
  refine Wp.yA (Wp.b (one (Wp.is ⟨rfl,?_⟩)))
  refine Wp.b (one ⟨decide (σ.now<d),H',rfl,?_,trivial,.refl⟩)
  refine(?_:decide (σ.now<d)=live σ i)
  unfold live;(refine hd.symm▸?_;with_reducible rfl)
noncomputable def mJ(c:Cf)(σ:St):Bool:=match σ.within with
 | []=>false
 |w::_=>c.wr w
theorem Ca(R:Inv c σ H):σ.within.length≤1000:=by
 have:=m5 (ks:=aR c.n) R.c0.within.1 fun i hi=>ei.mpr (R.c0.within.2 i hi)
 replace this:=(bP)▸this
 have:=R.ok.n6;exact ai (ai ‹_› ‹_›) (by decide)
theorem tV(R:Inv c σ H):σ.line.length≤1000:=by
 have:=m5 (ks:=aR c.n) R.c0.line.1 fun i hi=>ei.mpr (R.c0.line.2 i hi)
 replace this:=(bP)▸this
 have:=R.ok.n6;exact ai (ai ‹_› ‹_›) (by decide)
theorem lj(h:H.get x=some (.list (nU l))):listOf H (.ref x)=some ((l.map iO).map V.int):=by
 refine(?_:(match H.get x with|some (.list vs)=>some vs|_=>none)=_)
 (refine h.symm▸?_;refine eW.symm▸?_);rfl
theorem Wp.Tq{l m:List Nat}{Q:Bool→Hp→Prop}(h1:listOf H x=some ((l.map iO).map V.int))(h2:listOf H y=some ((m.map iO).map V.int))(z:Q (decide (l=m)) H):Wp (aX .Eq x y) H Q:=by
 refine Wp.XJ h1 h2 ?_
 have:(l.map iO=m.map iO)↔l=m:=⟨fun e=>(List.map_inj_right fun a b h=>iO.inj h).mp e,fun e=>by rw [e]⟩
 simp only [this];exact z
theorem Wp.neN{l m:List Nat}{Q:Bool→Hp→Prop}(h1:listOf H x=some ((l.map iO).map V.int))(h2:listOf H y=some ((m.map iO).map V.int))(z:Q (!decide (l=m)) H):Wp (aX .NotEq x y) H Q:=
 Wp.b (Wp.Tq h1 h2 (Wp.p z))
theorem wW(R:Inv c σ H)(q:Q (.bool (mJ c σ)) H):Wp (eE [.ref c.rm]) H Q:=by
 refine qj (R.rm) fun ln wi a t1 t2 gl gw=>?_
 refine Wp.f rfl ?_
 unfold pG
 refine Wp.b3 (Wp.itemF a rfl (Wp.b (Wp.lst (by kernel_rfl) (Wp.b (Wp.neN (m:= []) (lj gw) rfl (Wp.p ?_))))))
 unfold mJ at q
 induction hw:σ.within with
 |nil=>
  replace q:=(hw)▸q
  exact Wp.b ⟨false,H,rfl,Wp.p (Wp.p q)⟩
 |cons w ws=>
  rw [hw] at q gw
  refine Wp.b ⟨true,H,rfl,?_⟩
  refine Wp.b4 (Wp.itemF a rfl (Wp.Qv (n:=0) gw rfl (by exact sZ _) (Wp.p (Wp.p ?_))))
  exact rf R (R.c0.within.2 w (by refine hw.symm▸?_;simp)) (Wp.p q)
theorem nT{a b:Str}{Q:Bool→Hp→Prop}(h1:(small (.tuple [.str a,.none])&&small (.tuple [.str b,.none]))=true)(h2:PyData.eqv (.tuple [.str a,.none]) (.tuple [.str b,.none])=r)(z:Q r H):Wp (aX .Eq (eM a) (eM b)) H Q:=
 Wp.eq (d:= .tuple [.str a,.none]) (e:= .tuple [.str b,.none]) rfl rfl h1 h2 z
inductive Ky:Str→Bool→Prop
 |wait:Ky "wait" true
 |Q8:Ky "come" false
 |read:Ky "read" false
 |write:Ky "write" true
def zj(c:Cf)(σ:St)(b:Bool):Bool:=if b=true then decide (σ.within= []) else !mJ c σ&&(if c.iJ=2 then decide (σ.qg "wait"= []) else(decide (c.iJ=0)||decide (σ.qg "write"= [])))
theorem Wp.Tp{n:Nat}{Q:Bool→Hp→Prop}(z:Q (decide (n=0)) H):Wp (aX .Eq (.int n) (.int 0)) H Q:=by
 refine Wp.JO ?_
 have:((n:Int)==0)=decide (n=0):=by induction n<;>rfl
 refine this.symm▸?_;exact z
theorem Ba(R:Inv c σ H)(hk:Ky k b)(q:Q (.bool (zj c σ b)) H):Wp (kS [.ref c.rm,eM k]) H Q:=by
 refine qj (R.rm) fun ln wi a t1 t2 gl gw=>?_
 refine aS (R.th) fun l Ge Sv=>?_
 refine Wp.f rfl ?_
 unfold tY
 refine Wp.b2 (Wp.itemF a rfl (Wp.aE Ge fU ?_))
 haveI two:∀{Q:Bool→Hp→Prop},Q b H→Wp (testM .Or [(aX .Eq (eM k) (.tup [(.str "write"),.none])),(aX .Eq (eM k) (.tup [(.str "wait"),.none]))]) H Q:=fun z=>by
  induction hk with
  |wait=>exact Wp.yA (nT (by kernel_rfl) (r:=false) (by kernel_rfl) ⟨rfl,nT (by kernel_rfl) (r:=true) (by kernel_rfl) z⟩)
  |write=>exact Wp.Ld (nT (by kernel_rfl) (r:=true) (by kernel_rfl) ⟨rfl,z⟩)
  |Q8=>exact Wp.yA (nT (by kernel_rfl) (r:=false) (by kernel_rfl) ⟨rfl,nT (by kernel_rfl) (r:=false) (by kernel_rfl) z⟩)
  |read=>exact Wp.yA (nT (by kernel_rfl) (r:=false) (by kernel_rfl) ⟨rfl,nT (by kernel_rfl) (r:=false) (by kernel_rfl) z⟩)
 refine Wp.b (two ?_)
 clear two hk
 induction b with
 |true=>
  exact Wp.cy (Wp.b2 (Wp.itemF a rfl (Wp.b (Wp.lst (by kernel_rfl) (Wp.b (Wp.Tq (m:= []) (lj gw) rfl (Wp.p (Wp.p q))))))))
 |false=>
  refine Wp.cy (Wp.p (Wp.b2 (wW R ⟨mJ c σ,H,rfl,?_⟩)))
  unfold zj at q
  rw [if_neg aw] at q
  induction hw:mJ c σ with
  |true=>replace q:=(hw)▸q;exact Wp.cy (Wp.p q)
  |false=>
   replace q:=(hw)▸q
   refine Wp.cy (Wp.p (Wp.b2 (Wp.itemF a rfl (Wp.JO ?_))))
   haveI BR:∀k,(σ.q k).length=(σ.qg k).length:=fun k=>aq ..
   haveI dl:∀k,decide ((σ.qg k).length=0)=decide (σ.qg k= []):=fun k=>by cases σ.qg k<;>simp
   by_cases hm:c.iJ=2
   ·rw [if_pos hm] at q
    rw [show(c.iJ==2)=true from by rw [hm];rfl]
    refine Wp.cy (Wp.b2 (tD R.qr (R.BR _) (Wp.b (Wp.Tp (Wp.p (Wp.p ?_))))))
    rw [BR,dl];exact q
   ·rw [if_neg hm] at q
    rw [show(c.iJ==2)=false from by simpa using hm]
    refine Wp.cy (Wp.p (Wp.b3 (Wp.itemF a rfl (Wp.b (Wp.JO (Wp.p ?_))))))
    by_cases h0:c.iJ=0
    ·rw [show(c.iJ==0)=true from by rw [h0];rfl]
     rw [h0] at q
     exact Wp.b ⟨true,H,rfl,Wp.p (Wp.p q)⟩
    ·rw [show(c.iJ==0)=false from by simpa using h0]
     refine Wp.b ⟨false,H,rfl,Wp.b (tD R.qr (R.BR _) (Wp.b (Wp.Tp (Wp.p (Wp.p ?_)))))⟩
     rw [BR,dl]
     rw [decide_eq_false h0,FV] at q
     exact q
noncomputable abbrev bR(t:Nat):Bool:=t==3
noncomputable abbrev bW(t:Nat):Bool:=t==3||t==12||t==13
theorem Hc(R:Inv c σ H){r:VA}(tr:r.t=12)(g:H.get r=some (.list (nU l)))(hl:l.Nodup∧∀i∈l,i<c.n){Q:Unit→Hp→Prop}(q:∀H',Inv c {σ with line:=l} H'→fi bW H H'→Q () H'):Wp (Internal.b0 (.ref c.rm) .line (.ref r)) H Q:=by
 refine qj (R.rm) fun ln wi a t1 t2 gl gw=>?_
 refine Wp.b0 a (FY:=zm c r wi) rfl (by kernel_rfl) (q _ ?_ (dm (by refine R.ok.rm.symm▸?_;rfl) (R.fr.old a)))
 haveI s:cZ (fun y=>y=c.rm) H (H.set c.rm (.aU (zm c r wi))):=dm rfl (R.fr.old a)
 haveI s':fi bR H (H.set c.rm (.aU (zm c r wi))):=s.mono fun y=>bE R.ok.rm rfl
 exact {rm:=⟨r,wi,au,tr,t2,s'.get R.fr tr rfl g,s'.get R.fr t2 rfl gw⟩,gu:=fun i hi=>s.get (fun e=>R.ok.gr i hi e) (R.fr.old (R.gu i hi)) (R.gu i hi),c0:=⟨R.c0.q,hl,R.c0.within,R.c0.steps⟩}
theorem DA(R:Inv c σ H){r:VA}(tr:r.t=13)(g:H.get r=some (.list (nU l)))(hl:l.Nodup∧∀i∈l,i<c.n){Q:Unit→Hp→Prop}(q:∀H',Inv c {σ with within:=l} H'→fi bW H H'→Q () H'):Wp (Internal.b0 (.ref c.rm) .within (.ref r)) H Q:=by
 refine qj (R.rm) fun ln wi a t1 t2 gl gw=>?_
 refine Wp.b0 a (FY:=zm c ln r) rfl (by kernel_rfl) (q _ ?_ (dm (by refine R.ok.rm.symm▸?_;rfl) (R.fr.old a)))
 haveI s:cZ (fun y=>y=c.rm) H (H.set c.rm (.aU (zm c ln r))):=dm rfl (R.fr.old a)
 haveI s':fi bR H (H.set c.rm (.aU (zm c ln r))):=s.mono fun y=>bE R.ok.rm rfl
 exact {rm:=⟨ln,r,au,t1,tr,s'.get R.fr t1 rfl gl,s'.get R.fr tr rfl g⟩,gu:=fun i hi=>s.get (fun e=>R.ok.gr i hi e) (R.fr.old (R.gu i hi)) (R.gu i hi),c0:=⟨R.c0.q,R.c0.line,hl,R.c0.steps⟩}
theorem Ke(h:l.Nodup∧∀i∈l,i<n)(hi:i<n)(hn:i∉l):(l++ [i]).Nodup∧∀j∈l++ [i],j<n:=by
 refine iN ?_ (fun j hj=>?_)
 ·rw [fq]
  refine fM h.1 (by simp) (fun x hx y hy e=>?_)
  replace e:=(aA.mp hy)▸e
  exact hn (e▸hx)
 ·rcases eH.mp hj with h'|h'
  ·exact h.2 j h'
  ·refine(ah (aA.mp h'))▸?_;exact hi
theorem DR{l:List Nat}(h:l.Nodup∧∀i∈l,i<n):(l.filter f).Nodup∧∀j∈l.filter f,j<n:=⟨h.1.filter _,fun j hj=>h.2 j (bH.mp hj).1⟩
noncomputable abbrev bI(t:Nat):Bool:=t==13
noncomputable abbrev bL(t:Nat):Bool:=t==12
theorem G1:nU l++ [iV i]=nU (l++ [i]):=by refine(?_:gf iV l++_=gf iV _);rw [dK];rfl
theorem Cp(R:Inv c σ H)(hi:i<c.n)(hn:i∉σ.within){Q:Unit→Hp→Prop}(q:∀H',Inv c {σ with within:=σ.within++ [i]} H'→fi bW H H'→Q () H'):
  Wp (((Internal.itemF (.ref c.rm) .within).d fun v=>((jo v).d fun _=>(fQ v [iV i]))).d fun _=>pU ()) H Q:=by
 refine qj (R.rm) fun ln wi a t1 t2 gl gw=>?_
 have:=Ca R
 refine Wp.b2 (Wp.itemF a rfl (Wp.b (Wp.jo gw (Wp.append gw (by rw [aq];exact ai ‹_› (by decide)) (Wp.p (q _ ?_ (dm (by refine t2.symm▸?_;rfl) (R.fr.old gw))))))))
 refine G1.symm▸?_
 haveI s':fi bI H (H.set wi (.list (nU (σ.within++ [i])))):=(dm (X:=fun y=>y=wi) rfl (R.fr.old gw)).mono fun y=>bE t2 rfl
 exact {rm:=⟨ln,wi,s'.get R.fr R.ok.rm rfl a,t1,t2,s'.get R.fr t1 rfl gl,au⟩,c0:=⟨R.c0.q,R.c0.line,Ke R.c0.within hi hn,R.c0.steps⟩}
theorem Ga(R:Inv c σ H)(hi:i<c.n)(hn:i∉σ.line){Q:Unit→Hp→Prop}(q:∀H',Inv c {σ with line:=σ.line++ [i]} H'→fi bW H H'→Q () H'):
  Wp (((Internal.itemF (.ref c.rm) .line).d fun v=>((jo v).d fun _=>(fQ v [iV i]))).d fun _=>pU ()) H Q:=by
 refine qj (R.rm) fun ln wi a t1 t2 gl gw=>?_
 have:=tV R
 refine Wp.b2 (Wp.itemF a rfl (Wp.b (Wp.jo gl (Wp.append gl (by rw [aq];exact ai ‹_› (by decide)) (Wp.p (q _ ?_ (dm (by refine t1.symm▸?_;rfl) (R.fr.old gl))))))))
 refine G1.symm▸?_
 haveI s':fi bL H (H.set ln (.list (nU (σ.line++ [i])))):=(dm (X:=fun y=>y=ln) rfl (R.fr.old gl)).mono fun y=>bE t1 rfl
 exact {rm:=⟨ln,wi,s'.get R.fr R.ok.rm rfl a,t1,t2,au,s'.get R.fr t2 rfl gw⟩,c0:=⟨R.c0.q,Ke R.c0.line hi hn,R.c0.within,R.c0.steps⟩}
theorem Ah(j i:Nat):(!((j:Int)==(i:Int)))=decide (j≠i):=by
 by_cases h:j=i
 ·subst h;simp
 ·have:¬(j:Int)=(i:Int):=fun e=>h (by lia)
  refine(ah (show((j:Int)==(i:Int))=false from by simpa using this))▸?_
  simp [h]
theorem rG(R:Inv c σ H){Q:Unit→Hp→Prop}(q:∀H',Inv c {σ with line:=σ.line.filter fun x=>decide (x≠i)} H'→fi bW H H'→Q () H'):
  Wp (((Internal.itemF (.ref c.rm) .line).d fun src=>(fW 12 src (fun dP=>testM .And [(aX .NotEq dP (iV i))]) (fun dP=>(pU dP)))).d fun u=>(Internal.b0 (.ref c.rm) .line u)) H Q:=by
 refine qj (R.rm) fun ln wi a t1 t2 gl gw=>?_
 have:=tV R
 refine Wp.b2 (Wp.itemF a rfl (gT (vs:=nU σ.line) (by exact af _ _) (SM fun x=>decide (x≠i)) id (fun _=>True) R.fr (by rw [aq];exact ai ‹_› (by decide)) trivial (fun H' _ s j=>c6 (s.old R.fr gl) j) (fun _ _ _ _ _ _=>trivial) (fun v hv H' _ s=>?_) (fun v hv _ H' _ s=>Wp.p ⟨rfl,trivial,.refl⟩) fun H' r _ s tr lr _ gr=>?_))
 ·refine aS (aP.mp hv) fun j hj cj=>?_
  apply sb cj
  refine Wp.nM (Wp.Vh ⟨?_,trivial,.refl⟩)
  exact Ah j i
 ·exact Hc (R.cu s) tr (by rw [gr,Mv]) (DR R.c0.line) fun bh R2 s2=>q bh R2 ((s.mono fun _ f=>f.elim).trans s2)
theorem AS(R:Inv c σ H){Q:Unit→Hp→Prop}(q:∀H',Inv c {σ with within:=σ.within.filter fun x=>decide (x≠i)} H'→fi bW H H'→Q () H'):
  Wp (((Internal.itemF (.ref c.rm) .within).d fun src=>(fW 13 src (fun dP=>testM .And [(aX .NotEq dP (iV i))]) (fun dP=>(pU dP)))).d fun u=>(Internal.b0 (.ref c.rm) .within u)) H Q:=by
 refine qj (R.rm) fun ln wi a t1 t2 gl gw=>?_
 have:=Ca R
 refine Wp.b2 (Wp.itemF a rfl (gT (vs:=nU σ.within) (by exact af _ _) (SM fun x=>decide (x≠i)) id (fun _=>True) R.fr (by rw [aq];exact ai ‹_› (by decide)) trivial (fun H' _ s j=>c6 (s.old R.fr gw) j) (fun _ _ _ _ _ _=>trivial) (fun v hv H' _ s=>?_) (fun v hv _ H' _ s=>Wp.p ⟨rfl,trivial,.refl⟩) fun H' r _ s tr lr _ gr=>?_))
 ·refine aS (aP.mp hv) fun j hj cj=>?_
  apply sb cj
  refine Wp.nM (Wp.Vh ⟨?_,trivial,.refl⟩)
  exact Ah j i
 ·exact DA (R.cu s) tr (by rw [gr,Mv]) (DR R.c0.within) fun bh R2 s2=>q bh R2 ((s.mono fun _ f=>f.elim).trans s2)
theorem Wp.eqB{a b:Bool}{Q:Bool→Hp→Prop}(z:Q (a==b) H):Wp (aX .Eq (.bool a) (.bool b)) H Q:=Wp.eq (d:= .bool a) (e:= .bool b) rfl rfl rfl (by induction a<;>induction b<;>rfl) z
def rX(c:Cf)(σ:St)(b:Bool):List Nat:=(σ.line.filter (live σ)).filter fun j=>decide (c.iJ=2)||(c.wr j==b)
theorem Pz:(c.iJ==2)=decide (c.iJ=2):=rfl
theorem Li(R:Inv c σ H)(q:∀(H':Hp) (r:VA),cZ (fun _=>False) H H'→H'.get r=some (.list (nU (rX c σ b)))→Q (.ref r) H'):
  Wp ((lR [.ref c.rm]).d fun src=>(fW 9 src (fun dP=>testM .And [(testM .Or [((Internal.itemF (.ref c.rm) .fY).d fun a=>(aX .Eq a (.int 2))),((eF [.ref c.rm,dP]).d fun a=>(aX .Eq a (.bool b)))])]) (fun dP=>(pU dP)))) H Q:=by
 refine Wp.b (J5 R fun aG Sf s1 g1 t1 lr1=>?_)
 haveI R1:=R.cu s1
 haveI l6:=tV R
 haveI l7:(σ.line.filter (live σ)).length≤1000:=ai (cX ..) l6
 refine gT (vs:=nU (σ.line.filter (live σ))) (by exact af _ _) (SM fun j=>decide (c.iJ=2)||(c.wr j==b)) id (fun _=>True) R1.fr (by rw [aq];exact ai ‹_› (by decide)) trivial (fun H' _ s j=>c6 (s.old R1.fr g1) j) (fun _ _ _ _ _ _=>trivial) (fun v hv H' _ s=>?_) (fun v hv _ H' _ s=>Wp.p ⟨rfl,trivial,.refl⟩) fun H' r _ s tr lr _ gr=>q H' r (s1.trans s) (by(refine gr.symm▸?_;refine Mv.symm▸?_);rfl)
 refine aS (aP.mp hv) fun j hj cj=>?_
 apply sb cj
 haveI Z0:=R.c0.line.2 j (bH.mp hj).1
 haveI R':=R1.cu s
 refine eY (R'.rm) fun ln wi a _=>?_
 refine Wp.nM ?_
 refine(?_:Wp _ H' fun b' iw=>b'=(decide (c.iJ=2)||(c.wr j==b))∧True∧_)
 by_cases hm:c.iJ=2
 ·rw [decide_eq_true hm,Sr]
  refine Wp.Ld (Wp.b (Wp.itemF a rfl (Wp.JO ?_)))
  (refine Pz.symm▸?_;refine(ah (decide_eq_true hm))▸?_);exact⟨rfl,rfl,trivial,.refl⟩
 ·rw [decide_eq_false hm,FV]
  refine Wp.yA (Wp.b (Wp.itemF a rfl (Wp.JO ?_)))
  (refine Pz.symm▸?_;refine(ah (decide_eq_false hm))▸?_)
  exact⟨rfl,Wp.b (rf R' Z0 (Wp.eqB ⟨rfl,trivial,.refl⟩))⟩
theorem Wp.take1(h:H.get x=some (.list (nU l)))(hl:l.length≤1000)(z:Q (.lst (nU (l.take 1))) H):Wp (BZ (.ref x)) H Q:=by
 refine ie (.lst ((nU l).take 1)) H ?_ (by refine(ah (show(nU l).take 1=nU (l.take 1) from(List.map_take ..).symm))▸?_;exact z)
 have:listOf H (.ref x)=some (nU l):=by refine(?_:(match H.get x with|some (.list vs)=>some vs|_=>none)=_);(refine h.symm▸?_;with_reducible rfl)
 unfold BZ
 refine this.symm▸?_
 refine(?_:(if(nU l).length≤4000000 then _ else _)=_)
 rw [if_pos (by rw [aq];exact ai ‹_› (by decide))]
theorem Wp.LU{Q:Bool→Hp→Prop}(h:Wp m H fun b H'=>b=true∧Wp (testM .And (n::ms)) H' Q):Wp (testM .And (m::n::ms)) H Q:=Wp.b (h.mono fun b H' z1=>cQ z1 fun e q=>by apply iH e;exact q)
theorem Wp.Uy{Q:Bool→Hp→Prop}(h:Wp m H fun b H'=>b=false∧Wp (testM .Or (n::ms)) H' Q):Wp (testM .Or (m::n::ms)) H Q:=Wp.b (h.mono fun b H' z96=>cQ z96 fun e q=>by apply iH e;exact q)
theorem IQ:listOf H (.lst (nU l))=some ((l.map iO).map V.int):=by
 refine(?_:some _=_)
 refine eW.symm▸?_;rfl
theorem JE(R:Inv c σ H)(hi:i<c.n)(hk:Ky k b)(hq:∀k,i∉σ.qg k)(hc:H.get (cA (σ.cm i))=some (.inst 31 (cN (kx c σ i k iS))))(RC:i∉σ.within)
  (Xg:k= "come"→c.wr i=true→σ.within≠ []→(("wait":Str)∈c.ks)∧∀H',Inv c {σ with tp:=up σ.tp i {σ.tp i with st:= .eC,wake:=(c.pat i).CH (σ.gs i).since},qg:=uq σ.qg "wait" (σ.qg "wait"++ [i])} H'→Q .none H')
  (Xh:¬(k= "come"∧c.wr i=true∧σ.within≠ [])→((rX c σ (c.wr i)).take 1= [i]∧mJ c σ=false∧(c.wr i=true→σ.within= []))∧∀H',Inv c {σ with line:=σ.line.filter (fun x=>decide (x≠i)),within:=σ.within++ [i],tp:=up σ.tp i {st:= .ready,wake:=none,call:=none,oQ:=some "called",ins:=(σ.tp i).ins}} H'→Q .none H'):
  Wp (oi [.ref c.rm,.ref (cA (σ.cm i))]) H Q:=by
 refine qj (R.rm) fun ln wi a t1 t2 gl gw=>?_
 refine Wp.f rfl ?_
 unfold y4
 refine Wp.b2 (Wp.aE hc yR ⟨iV i,H,rfl,?_⟩)
 refine Wp.b (rf R hi ?_)
 haveI UL:∀{H':Hp} {Q:Bool→Hp→Prop},Inv c σ H'→Q (!decide (σ.within= [])) H'→Wp ((Internal.itemF (.ref c.rm) .within).d fun a=>((df []).d fun b=>(aX .NotEq a b))) H' Q:=fun R z=>by
  refine qj (R.rm) fun ln wi a t1 t2 gl gw=>?_
  exact Wp.b (Wp.itemF a rfl (Wp.b (Wp.lst (by kernel_rfl) (Wp.neN (m:= []) (lj gw) rfl z))))
 haveI N1:∀{Q:Bool→Hp→Prop},(∀r:Bool,(r=true↔(k= "come"∧c.wr i=true∧σ.within≠ []))→Q r H)→Wp (testM .And [((Internal.aE (.ref (cA (σ.cm i))) .key).d fun a=>(aX .Eq a (.tup [(.str "come"),.none]))),(bV (.bool (c.wr i))),((Internal.itemF (.ref c.rm) .within).d fun a=>((df []).d fun b=>(aX .NotEq a b)))]) H Q:=fun z=>by
  induction hk with
  |wait=>exact Wp.jE (Wp.b (Wp.aE hc kC (nT (by kernel_rfl) (r:=false) (by kernel_rfl) ⟨rfl,z false ⟨fun h=>(by exact ft h),fun h=>absurd h.1 (by decide)⟩⟩)))
  |write=>exact Wp.jE (Wp.b (Wp.aE hc kC (nT (by kernel_rfl) (r:=false) (by kernel_rfl) ⟨rfl,z false ⟨fun h=>(by exact ft h),fun h=>absurd h.1 (by decide)⟩⟩)))
  |read=>exact Wp.jE (Wp.b (Wp.aE hc kC (nT (by kernel_rfl) (r:=false) (by kernel_rfl) ⟨rfl,z false ⟨fun h=>(by exact ft h),fun h=>absurd h.1 (by decide)⟩⟩)))
  |Q8=>
   refine Wp.LU (Wp.b (Wp.aE hc kC (nT (by kernel_rfl) (r:=true) (by kernel_rfl) ⟨rfl,?_⟩)))
   induction hw:c.wr i with
   |false=>exact Wp.jE ⟨false,H,rfl,rfl,z false ⟨fun h=>(by exact ft h),fun h=>by rw [hw] at h;exact ft h.2.1⟩⟩
   |true=>
    refine Wp.LU ⟨true,H,rfl,rfl,Wp.nM (UL R ?_)⟩
    by_cases SF:σ.within= []
    ·refine(ah (decide_eq_true SF))▸?_;exact z false ⟨fun h=>(by exact ft h),fun h=>absurd SF h.2.2⟩
    ·refine(ah (decide_eq_false SF))▸?_;exact z true ⟨fun _=>⟨rfl,hw,SF⟩,fun _=>rfl⟩
 refine Wp.b (N1 fun r hr=>?_)
 clear N1
 induction r with
 |true=>
  refine fC (hr.mp rfl) fun h1 h2 h3=>?_
  refine cQ (Xg h1 h2 h3) fun x1 x2=>?_
  exact Wp.cy (Wp.b5 (Wp.itemF a rfl (Wp.p (Wp.p (Jb R hi x1 hq hc fun H' I=>Wp.p (Wp.p (x2 H' I)))))))
 |false=>
  obtain⟨⟨h1,h2,h3⟩,x2⟩:=Xh fun h=>by have:=hr.mpr h;exact ft this
  refine Wp.cy (Wp.p (Wp.b (Li R fun aG r s1 g1=>?_)))
  haveI R1:=R.cu s1
  haveI Rv:=s1.old R.fr hc
  haveI rl:(rX c σ (c.wr i)).length≤1000:=ai (cX ..) (ai (cX ..) (tV R))
  haveI Xp:∀{Q:Bool→Hp→Prop},Q false aG→Wp (testM .Or [((BZ (.ref r)).d fun a=>((df [iV i]).d fun b=>(aX .NotEq a b))),((eE [.ref c.rm]).d fun v=>(bV v)),(testM .And [(bV (.bool (c.wr i))),((Internal.itemF (.ref c.rm) .within).d fun a=>((df []).d fun b=>(aX .NotEq a b)))])]) aG Q:=fun z=>by
   refine Wp.Uy (Wp.b (Wp.take1 g1 rl (Wp.b (Wp.lst (by kernel_rfl) (Wp.neN (l:=(rX c σ (c.wr i)).take 1) (m:= [i]) IQ (IQ (l:= [i])) ?_)))))
   rw [h1,decide_eq_true rfl]
   refine⟨rfl,Wp.Uy (Wp.b (wW R1 ⟨mJ c σ,aG,rfl,h2,Wp.nM ?_⟩))⟩
   induction hw:c.wr i with
   |false=>exact Wp.jE ⟨false,aG,rfl,rfl,z⟩
   |true=>exact Wp.LU ⟨true,aG,rfl,rfl,Wp.nM (UL R1 (by refine(ah (decide_eq_true (h3 hw)))▸?_;exact z))⟩
  refine Wp.b (Xp (Wp.cy (Wp.p (Wp.b (rG (i:=i) R1 fun bh R2 s2=>?_)))))
  haveI Rw:bh.get (cA (σ.cm i))=some (.inst 31 (cN (kx c σ i k iS))):=s2.get R1.fr rfl rfl Rv
  refine Wp.b (Cp R2 hi RC fun dg R3 s3=>?_)
  haveI Rx:dg.get (cA (σ.cm i))=some (.inst 31 (cN (kx c σ i k iS))):=s3.get R2.fr rfl rfl Rw
  exact Wp.b2 (CL (σ:={σ with line:=σ.line.filter (fun x=>decide (x≠i)),within:=σ.within++ [i]}) (k':=k) (iS:=iS) R3 hi hq Rx fun iZ R4=>Wp.p (Wp.p (x2 iZ R4)))
noncomputable def Cf.e1(c:Cf):Str:=if c.iJ=2 then "wait" else "read"
noncomputable def Cf.e2(c:Cf):Str:=if c.iJ=2 then "come" else "write"
theorem lC(c:Cf):c.ks= [c.e1,c.e2]:=by unfold Cf.ks Cf.e1 Cf.e2;split<;>rfl
theorem Tn(c:Cf):c.en= .lst [.str c.e1,.str c.e2]:=by unfold Cf.en Cf.e1 Cf.e2;split<;>rfl
noncomputable def kb(k:Str):Bool:=(k== "wait")||(k== "write")
theorem GR(hk:k∈c.ks):Ky k (kb k):=by
 unfold Cf.ks at hk
 split at hk
 ·rcases bF.mp hk with rfl|hk
  ·exact(show kb "wait"=true by kernel_rfl)▸Ky.wait
  ·refine(ah (aA.mp hk))▸?_;exact(show kb "come"=false by kernel_rfl)▸Ky.Q8
 ·rcases bF.mp hk with rfl|hk
  ·exact(show kb "read"=false by kernel_rfl)▸Ky.read
  ·refine(ah (aA.mp hk))▸?_;exact(show kb "write"=true by kernel_rfl)▸Ky.write
theorem Ng:∀k∈c.ks,small (.str k)=true:=fun k hk=>by cases GR hk<;>kernel_rfl
theorem Kw{a b:CR}(h:cN a=cN b):a=b:=by
 induction a;induction b
 unfold cN at h
 simp only [vD.injEq,Prod.mk.injEq,V.ref.injEq,V.int.injEq] at h
 simp_all
theorem Ll{i j:Int}(h:bK i a=bK j b):i=j∧a=b:=by
 induction a;induction b
 unfold bK at h
 simp only [vD.injEq,Prod.mk.injEq,V.ref.injEq,V.int.injEq] at h
 simp_all
theorem OI(R:Inv c σ H){rc:VA}(T7:rc∈σ.cells)(hk:k∈c.ks)(q:Q (.bool (zj c σ (kb k))) H):Wp (vc 2 ru (.iC 2 [rc]) [eM k]) H Q:=by
 refine FO (Cb (by simp) (Wp.f rfl ?_))
 refine(?_:Wp (qt rc (eM k)) H _)
 unfold qt
 exact Wp.b3 (ko ((R.ce rc T7).2) (Wp.p (Ba R (GR hk) (Wp.p q))))
theorem BJ(R:Inv c σ H){rc:VA}(T7:rc∈σ.cells)
  (Jv:(∀k∈c.ks,σ.qg k= []∨zj c σ (kb k)=false)→∀H',Inv c σ H'→Q .none H')
  (Jw:∀k i m,k∈c.ks→σ.qg k=i::m→zj c σ (kb k)=true→(k=c.e1∨(k=c.e2∧(σ.qg c.e1= []∨zj c σ (kb c.e1)=false)))→∀H',Inv c {σ with tp:=up σ.tp i {σ.tp i with st:= .nj,wake:=none},qg:=uq σ.qg k ((σ.qg k).filter fun x=>decide (x≠i))} H'→
   H'.get (cA (σ.cm i))=some (.inst 31 (cN (kx c σ i k "served")))→Q (.ref (cA (σ.cm i))) H'):
  Wp (lW [.ref nZ,.iC 2 [rc]]) H Q:=by
 refine aS (R.th) fun l Ge Sv=>?_
 haveI qe:∀k,σ.q k= []↔σ.qg k= []:=fun k=>jb
 refine BK (op:=fun k=>zj c σ (kb k)) (q:=σ.q) R.fr (lC c) R.qr Ng R.BR R.ok.qd (R.fr.old (R.qr.choose_spec.1)) (Tn c▸Ge) R.calls (fun H' s k hk=>OI (R.cu s) T7 hk ⟨rfl,.refl⟩) (fun h H' s=>Jv (fun k hk=>(h k hk).imp_left (qe k).mp) H' (R.cu s)) ?_
 intro k x κ ti τ m hq O7 Wq TB mf VZ tt H' s hqr g1 g2
 have hk:k∈c.ks:=by rw [lC];rcases Wq with h|h<;>simp [h]
 obtain⟨i,m',Yk,rfl,_⟩:∃i m',σ.qg k=i::m'∧cA (σ.cm i)=x∧True:=by
  unfold St.q at hq
  induction hg:σ.qg k with
  |nil=>replace hq:=(hg)▸hq;exact aj (by cases hq)
  |cons i m'=>replace hq:=(hg)▸hq;exact zF i m' rfl ((vD.inj hq).1) trivial
 have hm:i∈σ.qg k:=by rw [Yk];simp
 haveI hi:=(R.c0.q k).2 i hm
 haveI hκ:κ=kx c σ i k "queued":=Kw (ib.inst.inj (Option.some.inj (TB.1.symm.trans (R.ca k hk i hm)))).2
 subst hκ
 haveI hτ:=Ll (ib.inst.inj (Option.some.inj (VZ.symm.trans (R.ts i hi)))).2
 obtain⟨rfl,rfl⟩:=hτ
 refine Jw k i m' hk Yk O7 (Wq.imp_right fun h=>⟨h.1,h.2.imp_left (qe _).mp⟩) H' ?_ g1
 haveI s:cZ (X4 c (σ.cm i) i) H H':=s
 haveI s':fi bQ H H':=s.mono fun y=>X4.b R.ok
 exact {ts:=R.z5 s (X4.KQ R.ok) g2,qe:=R.K4 s X4.h2,qr:=(I5 R hk hm).symm▸hqr,ca:=Et R hk hm s,cn:=Ey R hk hm s,c0:=xV R}
theorem GA{α:Type}{f:Str→List α}:∀{ks:List Str},ks.Nodup→(∀k∈ks,k≠wa→f k= [])→wa∈ks→ks.flatMap f=f wa
 | [],_,_,h=>by cases h
 |k::ks,hn,h,hm=>by
  have hn:=eI.mp hn
  refine LD.symm▸?_
  by_cases hk:k=wa
  ·subst hk
   rw [F2.mpr fun x hx=>h x (by simp [hx]) fun e=>hn.1 (e▸hx),oH]
  ·rw [h k (by simp) hk,List.nil_append]
   exact GA hn.2 (fun x hx=>h x (by simp [hx])) ((bF.mp hm).resolve_left fun e=>hk e.symm)
theorem OF{l:List Nat}(hn:l.Nodup)(h:∀x∈l,x=a)(hm:a∈l):l= [a]:=by
 cases l with
 |nil=>cases hm
 |cons x l=>
  obtain rfl:=h x (by simp)
  cases l with
  |nil=>rfl
  |cons y l=>
   have:=h y (by simp)
   subst this
   simp at hn
def Td(c:Cf)(σ:St)(k:Str):List Nat:=(σ.qg k).filter fun j=>(c.pat j).cond
noncomputable def W4(f:Nat→Bool):V→Bool
 | .ref x=>f x.n
 |_=>false
theorem Wp.Uu{a:V}{b:VA}{l:List VA}{Q:Bool→Hp→Prop}(h1:listOf H a=some (l.map V.ref))(h2:H.get b=some (.list []))(q:Q (!l.isEmpty) H):Wp (aX .NotEq a (.ref b)) H Q:=by
 cases l with
 |nil=>exact Wp.YJ (l:= []) (m:= []) h1 (by refine(?_:(match H.get b with|some (.list vs)=>some vs|_=>none)=_);refine h2.symm▸?_;rfl) q
 |cons x l=>
  refine ie true H ?_ q
  haveI hn:BP H a=none∧lenOf H a=some (l.length+1):=by
   unfold listOf at h1
   split at h1
   ·rename_i y
    split at h1
    ·rename_i vs hx
     cases h1
     constructor
     ·refine(?_:(match H.get y with|some (.list vs)=>(qw vs).map PyData.list|some (.cI [])=>_|some (.aU [])=>_|_=>_)=_)
      refine hx.symm▸?_;rfl
     ·refine(?_:(match H.get y with|some (.list vs)=>some vs.length|_=>none)=_)
      refine hx.symm▸?_;simp
    ·exact nn h1
   ·apply Vk h1
    exact iN rfl (by refine(?_:some _=_);simp)
   ·exact nn h1
  haveI hb:lenOf H (.ref b)=some 0:=by
   refine(?_:(match H.get b with|some (.list vs)=>some vs.length|_=>none)=_)
   refine h2.symm▸?_;rfl
  refine(?_:((Oj a (.ref b)).d fun c=>pU (!c)) H=_)
  unfold M.d Oj
  (refine hn.1.symm▸?_;refine hn.2.symm▸?_;refine hb.symm▸?_)
  rfl
theorem yD(R:Inv c σ H)(k:Str):(σ.qg k).length≤6:=by
 have:=m5 (ks:=aR c.n) (R.c0.q k).1 fun i hi=>ei.mpr ((R.c0.q k).2 i hi)
 replace this:=(bP)▸this
 have:=R.ok.n6
 exact ai ‹_› ‹_›
theorem AW{α:Type}{f:Str→List α}(h:∀k,(f k).length≤b):∀ks:List Str,(ks.flatMap f).length≤ks.length*b
 | []=>by simp
 |k::ks=>by
  rw [LD,ij,r8,Nat.succ_mul]
  have:=h k
  have:=AW h ks
  lia
theorem BV(R:Inv c σ H){pC:Nat}(h1:∀k∈c.ks,∀i∈σ.qg k,(c.pat i).cond=true→i=pC)
  (Jv:(∀k∈c.ks,∀i∈σ.qg k,(c.pat i).cond=false)→∀H',Inv c σ H'→Q (.bool false) H')
  (Jw:∀k,k∈c.ks→pC∈σ.qg k→(c.pat pC).cond=true→∀H',Inv c {σ with tp:=up σ.tp pC {st:= .ready,wake:=none,call:=none,oQ:=some "refused",ins:=(σ.tp pC).ins},qg:=uq σ.qg k ((σ.qg k).filter fun x=>decide (x≠pC))} H'→Q (.bool true) H'):
  Wp (jA [.ref nZ]) H Q:=by
 refine aS (R.th) fun l Ge Sv=>?_
 refine xS (R.qr) fun es e n1 n2 IA MF=>?_
 haveI Fj:=R.fr.old e
 refine Wp.f rfl ?_
 unfold nE
 haveI ol:Old (H.set ⟨1,H.next⟩ (.list [])) ⟨1,H.next⟩:= .inr (aW _)
 refine Wp.b (Wp.IY R.fr (by exact af _ _) (by kernel_rfl) (Wp.b ?_))
 have s0:cZ (fun _=>False) H (H.set ⟨1,H.next⟩ (.list [])):=gP (by exact af _ _)
 have back:∀{H'},cZ (fun y=>y=⟨1,H.next⟩) (H.set ⟨1,H.next⟩ (.list [])) H'→cZ (fun _=>False) H H':=fun {H'} s=>⟨ai s0.next s.next,fun y _ ho=>by
  have:y≠⟨1,H.next⟩:=by
   rintro rfl
   rcases ho with h|h
   ·exact absurd h (by refine(?_:¬(100≤1));decide)
   ·exact dZ _ h
  refine cQ (s0.keep y id ho) fun a b=>?_
  refine cQ (s.keep y this (ho.on s0)) fun c d=>?_
  exact⟨c.trans a,d.trans b⟩,fun f=>s.fresh (s0.fresh f)⟩
 haveI g0:=s0.old R.fr e
 haveI el:es.length≤2:=by
  have:=EL n1 fun p hp=>(IA p hp).1
  rw [lC] at this;exact this
 haveI cl:∀k,(Td c σ k).length≤6:=fun k=>ai (cX ..) (yD R k)
 refine Wp.aE (s0.old R.fr Ge) fU (Wp.cy ?_)
 refine Kk g0 (fun j st H'=>cZ (fun y=>y=⟨1,H.next⟩) (H.set ⟨1,H.next⟩ (.list [])) H'∧H'.get ⟨1,H.next⟩=some (.list ((((es.map (·.1)).take j).flatMap (Td c σ)).map fun x=>V.ref (cA (σ.cm x))))) (fun i st H' hI=>(hI.1.keep c.qd (fun h=>by have:=R.ok.qd;replace this:=(h)▸this;exact aj (by cases this)) (Fj.on s0)).2) ⟨.refl,by simpa using au⟩ (fun j p st H' hp hI=>?_) fun st H' hI=>?_
 ·replace hp:=(aC)▸hp
  refine aS (ba.mp hp) fun p0 Qq cj=>?_
  apply sb cj
  have hm:p0∈es:=aB Qq
  refine ou (IA _ hm) fun x1 x2 x3 x4=>?_
  refine cQ (hI) fun s gd=>?_
  haveI tk:(es.map (·.1)).take (j+1)=(es.map (·.1)).take j++ [p0.1]:=by(refine jO.symm▸?_;refine(ah (aC))▸?_;refine Qq.symm▸?_);rfl
  have R':=R.cu (back s)
  refine aS (R'.th) fun l' VC _=>?_
  haveI gq:=(back s).old R.fr e
  haveI ga:=(back s).old R.fr x4
  refine Wp.b3 (Wp.jo gd (Wp.b4 (Wp.aE VC fU (Wp.MQ gq (kG n1 hm) ?_))))
  have any:∀i∈σ.qg p0.1,((σ.qg p0.1).any fun j=>decide (σ.cm j=σ.cm i)&&(c.pat j).cond)=(c.pat i).cond:=fun i hi=>by
   induction hc:(c.pat i).cond with
   |true=>exact Oc.mpr ⟨i,hi,by simp [hc]⟩
   |false=>
    rw [yM]
    intro j hj h
    rw [cV,decide_eq_true_eq] at h
    (replace h:=((R.Cs x1 x1 hj hi h.1).1)▸h;replace h:=(hc)▸h)
    exact aw h.2
  refine gT (vs:=(σ.q p0.1).map V.ref) (by exact af _ _) (W4 fun m=>(σ.qg p0.1).any fun j=>decide (σ.cm j=m)&&(c.pat j).cond) id (fun _=>True) R'.fr (by rw [aq];have:=R.BR p0.1;exact ai ‹_› (by decide)) trivial (fun iw _ s2 j=>c6 (s2.old R'.fr ga) j) (fun _ _ _ _ _ _=>trivial) (fun v hv iw _ s2=>?_) (fun v hv _ iw _ s2=>Wp.p ⟨rfl,trivial,.refl⟩) fun iw r _ s2 tr lr hr gr=>?_
  ·refine aS (aP.mp hv) fun x hx cj=>?_
   apply sb cj
   refine aS (aP.mp hx) fun i hi cj=>?_
   apply sb cj
   haveI hc:=(R'.cu s2).ca p0.1 x1 i hi
   haveI ev:W4 (fun m=>(σ.qg p0.1).any fun j=>decide (σ.cm j=m)&&(c.pat j).cond) (V.ref (cA (σ.cm i)))=(c.pat i).cond:=any i hi
   refine ev.symm▸?_
   refine Wp.nM ?_
   induction KU:(c.pat i).cond with
   |false=>exact Wp.jE (Wp.b (Wp.aE hc DK (by refine(ah (show(kx c σ i p0.1 "queued").cond= .bool false from congrArg V.bool KU))▸?_;exact Pa false _ rfl rfl rfl trivial .refl)))
   |true=>exact Wp.lz (Wp.b (Wp.aE hc DK (by refine(ah (show(kx c σ i p0.1 "queued").cond= .bool true from congrArg V.bool KU))▸?_;exact zF true _ rfl rfl (Wp.b2 (Wp.aE hc DL ⟨false,_,rfl,Wp.p ⟨rfl,trivial,.refl⟩⟩)))))
  ·haveI VM:=s2.get id (ol.on s) gd
   haveI e2:(((σ.q p0.1).map V.ref).filter (W4 fun m=>(σ.qg p0.1).any fun j=>decide (σ.cm j=m)&&(c.pat j).cond)).map id=(Td c σ p0.1).map fun x=>V.ref (cA (σ.cm x)):=by
    rw [qB]
    refine(?_:As _ (((σ.qg p0.1).map fun i=>cA (σ.cm i)).map V.ref)=_)
    (refine eW.symm▸?_;refine jD.symm▸?_)
    refine(?_:gf _ _=gf _ ((σ.qg p0.1).filter fun j=>(c.pat j).cond))
    congr 1
    exact cW fun i hi=>any i hi
   replace gr:=(e2)▸gr
   haveI fl:=AW cl ((es.map (·.1)).take j)
   haveI tl:((es.map (·.1)).take j).length≤2:=by rw [z8,aq];exact ai (Au _ _) ‹_›
   haveI cl1:=cl p0.1
   refine Wp.p (Ej VM gr ?_ (Wp.p (Wp.p ⟨(s.trans (s2.mono fun _ f=>f.elim)).trans (dm rfl ((ol.on s).on s2)),?_⟩)))
   ·rw [aq,aq];lia
   ·rw [au,tk,Km,dK]
    simp
 ·obtain⟨s,gd⟩:=hI
  haveI R':=R.cu (back s)
  rw [aq,←aq (f:=(·.1)) (as:=es),nO] at gd
  refine Wp.b (Wp.p (Wp.cy ?_))
  haveI fin:∀{aG:Hp} {L:List VA} {b:Bool},eP aG→aG.get ⟨1,H.next⟩=some (.list (L.map V.ref))→(!L.isEmpty)=b→(∀bh,cZ (fun _=>False) aG bh→Q (.bool b) bh)→Wp ((((dB 1).d fun x=>lL x []).d fun b=>((aX .NotEq (.ref ⟨1,H.next⟩) b).d fun c=>pU (V.bool c))).d fun v=>(pU (Fl.ret v))) aG fun r H'=>Q (match r with| .ret v=>v| .next _=> .none) H':=fun {aG L b} hf g hb z=>by
   subst hb
   haveI s3:cZ (fun _=>False) aG (aG.set ⟨1,aG.next⟩ (.list [])):=gP (by exact af _ _)
   refine Wp.b2 (Wp.IY hf (by exact af _ _) (by kernel_rfl) (Wp.b (Wp.Uu (l:=L) ?_ au (Wp.p (Wp.p (z _ s3))))))
   refine(?_:(match(aG.set ⟨1,aG.next⟩ (.list [])).get ⟨1,H.next⟩ with|some (.list vs)=>some vs|_=>none)=_)
   (refine(ah (s3.old hf g))▸?_;with_reducible rfl)
  by_cases wV:∀k∈c.ks,∀i∈σ.qg k,(c.pat i).cond=false
  ·haveI e0:(es.map (·.1)).flatMap (Td c σ)= []:=F2.mpr fun k hk=>by
    refine aS (aP.mp hk) fun p hp cj=>?_
    apply sb cj
    exact hJ.mpr fun i hi=>by refine(ah (wV _ (IA p hp).1 i hi))▸?_;exact aw
   replace gd:=(e0)▸gd
   refine ia (vs:= []) (by simp) (fun _ _ aG=>aG=H') (fun _ _ aG e j=>by refine e.symm▸?_;exact c6 gd j) rfl (fun i v st H' hv=>by simp at hv) fun st aG e=>?_
   apply iH e
   exact fin (L:= []) R'.fr gd rfl fun bh s2=>Jv wV bh (R'.cu s2)
  ·obtain⟨k,hk,i,hi,hc⟩:∃k∈c.ks,∃i∈σ.qg k,(c.pat i).cond=true:=by
    refine bS fun h=>wV fun k hk i hi=>?_
    induction hc:(c.pat i).cond with
    |false=>rfl
    |true=>exact absurd ⟨k,hk,i,hi,hc⟩ h
   obtain rfl:=h1 k hk i hi hc
   haveI MC:k∈es.map (·.1):=by
    refine dh (MF k (xD (J9 hi))) fun a ha=>?_
    exact aP.mpr ⟨_,ha,rfl⟩
   haveI e1:(es.map (·.1)).flatMap (Td c σ)= [i]:=by
    rw [GA n1 (fun k' jM qH=>?_) MC]
    ·exact OF ((R.c0.q k).1.filter _) (fun x hx=>h1 k hk x (bH.mp hx).1 (bH.mp hx).2) (bH.mpr ⟨hi,hc⟩)
    ·refine aS (aP.mp jM) fun p hp cj=>?_
     subst cj
     refine hJ.mpr fun x hx hxc=>qH ?_
     obtain rfl:=h1 _ (IA p hp).1 x hx hxc
     exact(R.Cs (IA p hp).1 hk hx hi rfl).2
   replace gd:=(e1)▸gd
   refine ia (vs:= [.ref (cA (σ.cm i))]) (by simp) (fun j _ aG=>(j=0→aG=H')∧aG.get ⟨1,H.next⟩=some (.list [.ref (cA (σ.cm i))])∧(j=1→Inv c {σ with tp:=up σ.tp i {st:= .ready,wake:=none,call:=none,oQ:=some "refused",ins:=(σ.tp i).ins},qg:=uq σ.qg k ((σ.qg k).filter fun x=>decide (x≠i))} aG)) (fun _ _ aG e j=>c6 e.2.1 j) ⟨fun _=>rfl,gd,fun h=>by exact aj (by cases h)⟩ (fun j v st aG hv hI=>?_) fun st aG hI=>?_
   ·obtain⟨rfl,rfl⟩:j=0∧v= .ref (cA (σ.cm i)):=by
     match j,hv with
     |0,hv=>apply so hv;exact iN rfl rfl
    obtain rfl:=hI.1 rfl
    exact Wp.b2 (Lh R' hk hi fun bh R2 s2=>Wp.p (Wp.p ⟨fun h=>(by exact aj (by cases h)),s2.get R'.fr rfl rfl gd,fun _=>R2⟩))
   ·haveI R2:=hI.2.2 rfl
    exact fin (L:= [cA (σ.cm i)]) R2.fr hI.2.1 rfl fun bh s2=>Jw k hk hi hc bh (R2.cu s2)
variable {tl:List Nat}
noncomputable def tK(p:Co)(n:Int):Option Int:=match p with
 | .none=> .none
 | .sW=>some (n+1)
 | .num k=>some (n+k)
inductive Ph
 |new|rest (w:Int)|lq|wait|HT|turned|lK (k:Int)|gO (w:Int)|lu|left|comp|done
structure View where
 tp:TP
 gs:GS
 now:Int
 yY:Bool
 zH:Bool
 yZ:Bool
 WQ:Bool
 cm:Nat
noncomputable def isLive(g:GS)(now:Int):Bool:=match g.jG with
 |none=>true
 |some d=>decide (now<d)
def ok(pt:Co)(v:View):Ph→Prop
 | .new=>v.tp=⟨.ready,none,none,none,v.tp.ins⟩∧v.gs.bc=0∧v.gs.jG=none∧v.yY=false∧v.zH=false∧v.yZ=false
 | .rest w=>v.tp=⟨.delayed,some w,none,none,v.tp.ins⟩∧v.gs.bc=1∧v.gs.jG=none∧v.yY=false∧v.zH=false∧v.yZ=false∧v.now<w
 | .lq=>v.tp=⟨.ready,none,none,none,v.tp.ins⟩∧v.gs.bc=1∧v.gs.jG=none∧v.yY=false∧v.zH=false∧v.yZ=false
 | .wait=>v.tp=⟨.eC,pt.CH v.gs.since,some v.cm,none,v.tp.ins⟩∧v.gs.bc=2∧v.gs.jG=tK pt v.gs.since∧v.yY=true∧v.zH=false∧v.yZ=true∧isLive v.gs v.now=true∧(pt.cond=true→v.gs.since=v.now)
 | .HT=>v.tp=⟨.ready,none,none,some "called",v.tp.ins⟩∧v.gs.bc=2∧v.yY=false∧v.zH=true∧v.yZ=false
 | .turned=>v.tp=⟨.ready,none,none,some "refused",v.tp.ins⟩∧v.gs.bc=2∧pt.cond=true∧v.gs.since=v.now∧v.zH=false∧v.yZ=false∧(v.yY=true→v.WQ=true)
 | .lK k=>v.tp=⟨.ready,none,none,some "late",v.tp.ins⟩∧v.gs.bc=2∧pt= .num k∧v.gs.since+k=v.now∧v.gs.jG=some v.now∧v.zH=false∧v.yZ=false
 | .gO w=>v.tp=⟨.delayed,some w,none,none,v.tp.ins⟩∧v.gs.bc=3∧v.yY=false∧v.zH=true∧v.yZ=false∧v.now<w
 | .lu=>v.tp=⟨.ready,none,none,none,v.tp.ins⟩∧v.gs.bc=3∧v.yY=false∧v.zH=true∧v.yZ=false
 | .left=>v.tp=⟨.ready,none,none,none,v.tp.ins⟩∧v.gs.bc=4∧v.yY=false∧v.zH=false∧v.yZ=false
 | .comp=>v.tp.st= .ju∧v.tp.wake=none∧v.yY=false∧v.zH=false∧v.yZ=false
 | .done=>v.tp.st= .done∧v.tp.wake=none∧v.yY=false∧v.zH=false∧v.yZ=false
def view(c:Cf)(σ:St)(tl:List Nat)(i:Nat):View:=⟨σ.tp i,σ.gs i,σ.now,decide (i∈σ.line),decide (i∈σ.within),decide (i∈σ.qg c.e1)||decide (i∈σ.qg c.e2),decide (i∈tl),σ.cm i⟩
abbrev lv(σ:St):List Nat:=σ.line.filter (live σ)
noncomputable def Cg(b:Bool):Str:=if b=true then "write" else "read"
structure Wf(c:Cf)(σ:St)(tl:List Nat):Prop where
 ph:∀i<c.n,∃p,ok (c.pat i) (view c σ tl i) p
 ins:∀i<c.n,(σ.tp i).ins=decide (σ.lk=some i)
 od:c.iJ≠2→∀b,(lv σ).filter (fun j=>c.wr j==b)=σ.qg (Cg b)++tl.filter (fun j=>c.wr j==b)
 o2:c.iJ=2→lv σ=σ.qg "wait"++(σ.qg "come"++tl)∧(σ.qg "wait").length≤1∧∀i∈σ.qg "wait",c.wr i=true
 wit:∀i∈σ.within,c.wr i=true→σ.within= [i]
 sW:∀k∈c.ks,∀i∈σ.qg k,(c.pat i).cond=true→c.iJ=2∧k= "wait"∧σ.qg "come"= []∧tl= []
 tq:∀i∈tl,∀k∈c.ks,i∉σ.qg k
theorem oz:(view c σ tl i).yZ=true↔∃k∈c.ks,i∈σ.qg k:=by
 rw [lC]
 show(decide _||decide _)=true↔_
 rw [Ov,decide_eq_true_eq,decide_eq_true_eq]
 constructor
 ·rintro (h|h)
  ·exact dG _ (by simp) h
  ·exact dG _ (by simp) h
 ·rintro ⟨k,hk,h⟩
  rcases bF.mp hk with rfl|hk
  ·exact .inl h
  ·replace h:=(aA.mp hk)▸h;exact .inr h
theorem Wf.HL(w:Wf c σ tl)(hi:i<c.n)(hk:k∈c.ks)(hq:i∈σ.qg k):ok (c.pat i) (view c σ tl i) .wait:=by
 refine dh (w.ph i hi) fun p h=>?_
 have hq:(view c σ tl i).yZ=true:=oz.mpr ⟨k,hk,hq⟩
 induction p with
 |wait=>exact h
 |new=>replace hq:=(h.2.2.2.2.2)▸hq;exact ft hq
 |rest _=>replace hq:=(h.2.2.2.2.2.1)▸hq;exact ft hq
 |lq=>replace hq:=(h.2.2.2.2.2)▸hq;exact ft hq
 |HT=>replace hq:=(h.2.2.2.2)▸hq;exact ft hq
 |turned=>replace hq:=(h.2.2.2.2.2.1)▸hq;exact ft hq
 |lK _=>replace hq:=(h.2.2.2.2.2.2)▸hq;exact ft hq
 |gO _=>replace hq:=(h.2.2.2.2.1)▸hq;exact ft hq
 |lu=>replace hq:=(h.2.2.2.2)▸hq;exact ft hq
 |left=>replace hq:=(h.2.2.2.2)▸hq;exact ft hq
 |comp=>replace hq:=(h.2.2.2.2)▸hq;exact ft hq
 |done=>replace hq:=(h.2.2.2.2)▸hq;exact ft hq
theorem JR(h:∀i∈σ.within,c.wr i=true→σ.within= [i]):mJ c σ=false↔∀i∈σ.within,c.wr i=false:=by
 unfold mJ
 induction hw:σ.within with
 |nil=>simp
 |cons w ws=>
  constructor
  ·intro e i hi
   induction hc:c.wr i with
   |false=>rfl
   |true=>
    have:=h i (by refine hw.symm▸?_;exact hi) hc
    replace this:=(hw)▸this
    refine cQ (vD.inj this) fun Xc cj=>?_;subst Xc;subst cj
    exact absurd (hc.symm.trans e) (by decide)
  ·intro e;exact e w (by simp)
theorem Dw(h:c.iJ=2):c.ks=(["wait", "come"]:List Str):=if_pos h
theorem Qw(h:c.iJ≠2):c.ks=(["read", "write"]:List Str):=if_neg h
theorem Wf.first(w:Wf c σ tl)(hk:k∈c.ks)(hq:σ.qg k=i::m)(ho:zj c σ (kb k)=true):(rX c σ (c.wr i)).take 1= [i]∧mJ c σ=false∧(¬(k= "come"∧c.wr i=true∧σ.within≠ [])→c.wr i=true→σ.within= []):=by
 have hh:mJ c σ=false:=by
  unfold zj at ho
  split at ho
  ·unfold mJ
   (refine(ah (of_decide_eq_true ho))▸?_;with_reducible rfl)
  ·rw [cV] at ho
   simpa using ho.1
 by_cases hm:c.iJ=2
 ·refine fC (w.o2 hm) fun o1 o2 o3=>?_
  haveI rv:rX c σ (c.wr i)=lv σ:=by
   unfold rX
   rw [eR]
   intro j _
   rw [decide_eq_true hm,Sr]
  replace hk:=(Dw hm)▸hk
  rcases bF.mp hk with rfl|hk
  ·replace ho:=(show kb "wait"=true from by kernel_rfl)▸ho
   refine fM (by(refine rv.symm▸?_;refine o1.symm▸?_;refine hq.symm▸?_);rfl) hh (fun _ _=>?_)
   exact of_decide_eq_true ho
  ·rw [aA] at hk
   subst hk
   replace ho:=(show kb "come"=false from by kernel_rfl)▸ho
   unfold zj at ho
   rw [if_neg aw,if_pos hm,cV,decide_eq_true_eq] at ho
   refine fM (by(refine rv.symm▸?_;refine o1.symm▸?_;refine ho.2.symm▸?_;refine hq.symm▸?_);rfl) hh (fun h1 h2=>bS fun h3=>h1 ⟨rfl,h2,h3⟩)
 ·haveI rv:rX c σ (c.wr i)=(lv σ).filter fun j=>c.wr j==c.wr i:=by
   unfold rX
   refine cW fun j _=>?_
   rw [decide_eq_false hm,FV]
  have Ye:k=Cg (c.wr i):=by
   replace hk:=(Qw hm)▸hk
   have mem:∀b,k=Cg b→c.wr i=b:=fun b e=>by
    have:i∈(lv σ).filter fun j=>c.wr j==b:=by(refine(ah (w.od hm b))▸?_;refine(e)▸?_;refine hq.symm▸?_);simp
    simpa using(bH.mp this).2
   rcases bF.mp hk with rfl|hk
   ·refine(ah (mem false rfl))▸?_;rfl
   ·rw [aA] at hk
    subst hk
    refine(ah (mem true rfl))▸?_;rfl
  refine fM (by rw [rv,w.od hm,←Ye,hq];rfl) hh (fun _ h2=>?_)
  (replace ho:=(Ye)▸ho;replace ho:=(h2)▸ho)
  replace ho:=(show kb (Cg true)=true from by kernel_rfl)▸ho
  exact of_decide_eq_true ho
theorem PW(h1:aY.tp j=σ.tp j)(h2:aY.gs j=σ.gs j)(h3:aY.now=σ.now)(h4:j∈aY.line↔j∈σ.line)(h5:j∈aY.within↔j∈σ.within)(h6:∀k∈c.ks,(j∈aY.qg k↔j∈σ.qg k))(h7:j∈Jq↔j∈tl)(h8:aY.cm j=σ.cm j):view c aY Jq j=view c σ tl j:=by
 haveI a:=h6 c.e1 (by rw [lC];simp)
 haveI b:=h6 c.e2 (by rw [lC];simp)
 unfold view
 simp only [h1,h2,h3,h4,h5,h7,h8,a,b]
theorem xo(h:ok pt (view c σ tl j) p)(h1:aY.tp j=σ.tp j)(h2:aY.gs j=σ.gs j)(h3:aY.now=σ.now)(h4:j∈aY.line↔j∈σ.line)(h5:j∈aY.within↔j∈σ.within)(h6:∀k∈c.ks,(j∈aY.qg k↔j∈σ.qg k))(h7:j∈Jq↔j∈tl)(h8:aY.cm j=σ.cm j):ok pt (view c aY Jq j) p:=by
 rw [PW h1 h2 h3 h4 h5 h6 h7 h8];exact h
noncomputable abbrev lG(i:Nat)(l:List Nat):List Nat:=l.filter fun x=>decide (x≠i)
theorem gM:j∈lG i l↔j∈l∧j≠i:=by rw [bH];simp
theorem m4(h:j≠i):j∈lG i l↔j∈l:=by rw [gM];simp [h]
theorem mw(h:i∉l):lG i l=l:=eR.mpr fun x hx=>by
 have:x≠i:=fun e=>h (e▸hx)
 simpa using this
theorem GY(h:(i::l).Nodup):lG i (i::l)=l:=by
 unfold lG
 rw [List.filter_cons_of_neg (by simp)]
 exact mw (eI.mp h).1
theorem xb:(lG i l).filter f=lG i (l.filter f):=by
 unfold lG
 rw [js,js]
 exact cW fun x _=>QN ..
theorem rQ:lG i (l++m)=lG i l++lG i m:=jr ..
theorem Wf.inn(w:Wf c σ tl)(hi:i<c.n)(hk:k∈c.ks)(hq:i∈σ.qg k)(hd:∀k'∈c.ks,i∈σ.qg k'→k'=k)(hh:mJ c σ=false)(hw:c.wr i=true→σ.within= [])
  (t1:uL i=⟨.ready,none,none,some "called",(σ.tp i).ins⟩) (t2:∀j,j≠i→uL j=σ.tp j) (su:∀k'∈c.ks,pN k'=lG i (σ.qg k')):
  Wf c {σ with line:=lG i σ.line,within:=σ.within++ [i],tp:=uL,qg:=pN} tl:=by
 refine Rb (w.HL hi hk hq) fun a1 a2 a3 a4 a5 a6 a7 a8=>?_
 haveI YC:i∉tl:=fun h=>w.tq i h k hk hq
 haveI YF:lv {σ with line:=lG i σ.line,within:=σ.within++ [i],tp:=uL,qg:=pN}=lG i (lv σ):=xb
 haveI hwo:=(JR w.wit).mp hh
 refine⟨fun j hj=>?_,fun j hj=>?_,fun hm b=>?_,fun hm=>?_,fun x hx MG=>?_,fun k' jM j hj hc=>?_,fun j hj k' jM=>?_⟩
 ·by_cases hM:j=i
  ·subst hM
   refine⟨.HT,?_,a2,?_,?_,?_⟩
   ·refine(?_:uL j=⟨_,_,_,_,(uL j).ins⟩)
    rw [t1]
   ·exact decide_eq_false fun h=>(gM.mp h).2 rfl
   ·exact decide_eq_true (eH.mpr (.inr (by simp)))
   ·refine(?_:(decide (j∈pN _)||decide (j∈pN _))=false)
    rw [su _ (by rw [lC];simp),su _ (by rw [lC];simp),decide_eq_false fun h=>(gM.mp h).2 rfl,decide_eq_false fun h=>(gM.mp h).2 rfl];rfl
  ·refine dh (w.ph j hj) fun p h=>?_
   exact mK p (xo h (t2 j hM) rfl rfl (m4 hM) (by refine(?_:j∈σ.within++ [i]↔_);simp [hM]) (fun k' jM=>by refine(?_:j∈pN k'↔_);rw [su k' jM];exact m4 hM) Iff.rfl rfl)
 ·refine(?_:(uL j).ins=_)
  by_cases hM:j=i
  ·subst hM;rw [t1];exact w.ins j hj
  ·rw [t2 j hM];exact w.ins j hj
 ·haveI hr:Cg b∈c.ks:=by rw [Qw hm];induction b<;>simp [Cg]
  rw [YF,xb,w.od hm b,rQ,mw (l:=tl.filter _) (fun h=>YC (bH.mp h).1)]
  refine(?_:_=pN (Cg b)++_)
  rw [su _ hr]
 ·refine fC (w.o2 hm) fun o1 o2 o3=>?_
  haveI m1:("wait":Str)∈c.ks:=by rw [Dw hm];simp
  haveI m2:("come":Str)∈c.ks:=by rw [Dw hm];simp
  refine(?_:lv _=pN "wait"++(pN "come"++tl)∧(pN "wait").length≤1∧∀x∈pN "wait",_)
  rw [YF,o1,rQ,rQ,mw YC,su _ m1,su _ m2]
  exact fM rfl (ai (cX ..) o2) (fun x hx=>o3 x (gM.mp hx).1)
 ·haveI hx:x∈σ.within++ [i]:=hx
  rcases eH.mp hx with h|h
  ·rw [hwo x h] at MG;exact ft MG
  ·rw [aA.mp h] at MG ⊢
   refine(?_:σ.within++ [i]= [i])
   rw [hw MG];rfl
 ·haveI hj:j∈pN k':=hj
  rw [su k' jM] at hj
  refine ou (w.sW k' jM j (gM.mp hj).1 hc) fun e1 e2 e3 e4=>?_
  refine qI e1 e2 ?_ e4
  refine(?_:pN "come"= [])
  rw [su _ (by rw [Dw e1];simp),e3];rfl
 ·refine(?_:j∉pN k')
  rw [su k' jM]
  exact fun h=>w.tq j hj k' jM (gM.mp h).1
theorem Wf.req(w:Wf c σ tl)(hi:i<c.n)(hm:c.iJ=2)(hq:σ.qg "come"=i::m)(hn:(σ.qg "come").Nodup)(h0:σ.qg "wait"= [])(hw:c.wr i=true)
  (t1:uL i=⟨.eC,(c.pat i).CH (σ.gs i).since,some (σ.cm i),none,(σ.tp i).ins⟩) (t2:∀j,j≠i→uL j=σ.tp j) (IA:pN "wait"= [i]) (MF:pN "come"=lG i (σ.qg "come")):
  Wf c {σ with tp:=uL,qg:=pN} tl:=by
 have m2:("come":Str)∈c.ks:=by refine(ah (Dw hm))▸?_;simp
 haveI m1:("wait":Str)∈c.ks:=by refine(ah (Dw hm))▸?_;simp
 obtain⟨a1,a2,a3,a4,a5,a6,a7,a8⟩:=w.HL hi m2 (by refine hq.symm▸?_;simp)
 have k2:∀k∈c.ks,k= "wait"∨k= "come":=fun k hk=>by rw [Dw hm] at hk;simpa using hk
 haveI cf:∀x∈σ.qg "come",(c.pat x).cond=false:=fun x hx=>by
  induction hc:(c.pat x).cond with
  |false=>rfl
  |true=>exact absurd (w.sW _ m2 x hx hc).2.1 (by decide)
 refine fC (w.o2 hm) fun o1 o2 o3=>?_
 have hl:lG i (σ.qg "come")=m:=by rw [hq] at hn ⊢;exact GY hn
 refine⟨fun j hj=>?_,fun j hj=>?_,fun h=>absurd hm h,fun _=>?_,w.wit,fun k' jM j hj hc=>?_,fun j hj k' jM=>?_⟩
 ·by_cases hM:j=i
  ·subst hM
   refine⟨.wait,?_,a2,a3,a4,a5,?_,a7,a8⟩
   ·refine(?_:uL j=⟨_,_,_,_,(uL j).ins⟩)
    refine t1.symm▸?_;rfl
   ·exact oz.mpr ⟨"wait",m1,by refine(?_:j∈pN "wait");refine IA.symm▸?_;simp⟩
  ·refine dh (w.ph j hj) fun p h=>?_
   refine mK p (xo h (t2 j hM) rfl rfl Iff.rfl Iff.rfl (fun k' jM=>?_) Iff.rfl rfl)
   ·rcases k2 k' jM with rfl|rfl
    ·refine(?_:j∈pN "wait"↔_)
     (refine IA.symm▸?_;refine h0.symm▸?_);simp [hM]
    ·refine(?_:j∈pN "come"↔_)
     refine MF.symm▸?_;exact m4 hM
 ·refine(?_:(uL j).ins=_)
  by_cases hM:j=i
  ·subst hM;refine t1.symm▸?_;exact w.ins j hj
  ·refine(ah (t2 j hM))▸?_;exact w.ins j hj
 ·refine(?_:lv σ=pN "wait"++(pN "come"++tl)∧(pN "wait").length≤1∧∀x∈pN "wait",_)
  (refine o1.symm▸?_;refine IA.symm▸?_;refine MF.symm▸?_;refine hl.symm▸?_;refine h0.symm▸?_;refine hq.symm▸?_)
  refine fM rfl (by simp) (fun x hx=>?_)
  refine(ah (aA.mp hx))▸?_;exact hw
 ·exfalso
  rcases k2 k' jM with rfl|rfl
  ·have hj:j∈pN "wait":=hj
   rw [IA] at hj
   rw [aA.mp hj,cf i (by rw [hq];simp)] at hc;exact ft hc
  ·have hj:j∈pN "come":=hj
   rw [MF] at hj
   rw [cf j (gM.mp hj).1] at hc;exact ft hc
 ·rcases k2 k' jM with rfl|rfl
  ·refine(?_:j∉pN "wait")
   rw [IA]
   exact fun h=>w.tq j hj _ m2 (by rw [aA.mp h,hq];simp)
  ·refine(?_:j∉pN "come")
   rw [MF]
   exact fun h=>w.tq j hj _ m2 (gM.mp h).1
theorem Nq:∀{l:List Nat},i∈l→l.length≤1→l= [i]
 | [x],h,_=>by rw [aA.mp h]
 | [],h,_=>by cases h
 |x::y::l,_,h=>by simp at h
theorem Wf.ref(w:Wf c σ tl)(hi:i<c.n)(hk:k∈c.ks)(hq:i∈σ.qg k)(hc:(c.pat i).cond=true)
  (t1:uL i=⟨.ready,none,none,some "refused",(σ.tp i).ins⟩) (t2:∀j,j≠i→uL j=σ.tp j) (su:∀k'∈c.ks,pN k'=lG i (σ.qg k')):Wf c {σ with tp:=uL,qg:=pN} [i]:=by
 refine ou (w.sW k hk i hq hc) fun hm cj h0 u6=>?_
 subst cj
 subst u6
 refine Rb (w.HL hi hk hq) fun a1 a2 a3 a4 a5 a6 a7 a8=>?_
 haveI m2:("come":Str)∈c.ks:=by refine(ah (Dw hm))▸?_;simp
 haveI k2:∀k∈c.ks,k= "wait"∨k= "come":=fun k hk=>by replace hk:=(Dw hm)▸hk;simpa using hk
 refine fC (w.o2 hm) fun o1 o2 o3=>?_
 haveI T4:σ.qg "wait"= [i]:=Nq hq o2
 have q0:∀k'∈c.ks,pN k'= []:=fun k' jM=>by
  refine(ah (su k' jM))▸?_
  rcases k2 k' jM with rfl|rfl
  ·refine T4.symm▸?_;exact GY (by simp)
  ·refine h0.symm▸?_;rfl
 refine⟨fun j hj=>?_,fun j hj=>?_,fun h=>absurd hm h,fun _=>?_,w.wit,fun k' jM j hj _=>?_,fun j hj k' jM=>?_⟩
 ·by_cases hM:j=i
  ·subst hM
   refine⟨.turned,?_,a2,hc,a8 hc,a5,?_,fun _=>decide_eq_true (by simp)⟩
   ·refine(?_:uL j=⟨_,_,_,_,(uL j).ins⟩)
    (refine t1.symm▸?_;with_reducible rfl)
   ·refine(?_:(decide (j∈pN _)||decide (j∈pN _))=false)
    rw [q0 _ (by rw [lC];simp),q0 _ (by rw [lC];simp)];rfl
  ·refine dh (w.ph j hj) fun p h=>?_
   exact mK p (xo h (t2 j hM) rfl rfl Iff.rfl Iff.rfl (fun k' jM=>by refine(?_:j∈pN k'↔_);rw [su k' jM];exact m4 hM) (by simp [hM]) rfl)
 ·refine(?_:(uL j).ins=_)
  by_cases hM:j=i
  ·subst hM;rw [t1];exact w.ins j hj
  ·rw [t2 j hM];exact w.ins j hj
 ·refine(?_:lv σ=pN "wait"++(pN "come"++ [i])∧(pN "wait").length≤1∧∀x∈pN "wait",_)
  rw [q0 _ hk,q0 _ m2,o1,T4,h0]
  exact fM rfl (by simp) (fun x hx=>by exact aj (by cases hx))
 ·haveI hj:j∈pN k':=hj
  replace hj:=(q0 k' jM)▸hj;exact aj (by cases hj)
 ·refine(?_:j∉pN k')
  rw [q0 k' jM];simp
theorem MP{P Q:Prop}(h:P):if true=true then P else Q:=by refine(ah (if_pos rfl))▸?_;exact h
structure Aa(c:Cf)(σ:St):Prop where
 ik:∀k∈c.ks,σ.qg k= []∨zj c σ (kb k)=false
 jK:∀k∈c.ks,∀i∈σ.qg k,(c.pat i).cond=false
structure Keeps(c:Cf)(σ aY:St)(tl Jq:List Nat):Prop where
 now:aY.now=σ.now
 gs:aY.gs=σ.gs
 lk:aY.lk=σ.lk
 dN:aY.dN=σ.dN
 steps:aY.steps=σ.steps
 num:aY.num=σ.num
 kl:aY.kl=σ.kl
 tp:∀i,(∀k∈c.ks,i∉σ.qg k)→aY.tp i=σ.tp i
 qg:∀k∈c.ks,∀i∈aY.qg k,∃k'∈c.ks,i∈σ.qg k'
 line:∀i∈aY.line,i∈σ.line
 tl:Jq=tl∨∃i,Jq= [i]∧(c.pat i).cond=true∧∃k∈c.ks,i∈σ.qg k
 qs:∀k∈c.ks,∀i∈σ.qg k,(aY.tp i).st= .eC∨(aY.tp i).st= .ready
theorem Wf.calls(w:Wf c σ tl)(F:Cm c σ)(hk:k∈c.ks)(hi:i∈σ.qg k):(σ.tp i).st= .eC:=by
 haveI h:σ.tp i=⟨_,_,_,_,_⟩:=(w.HL ((F.q k).2 i hi) hk hi).1
 rw [h]
theorem Keeps.trans(a:Keeps c σ a9 tl B7)(b:Keeps c a9 pS B7 Xr):Keeps c σ pS tl Xr:=by
 refine⟨b.now.trans a.now,b.gs.trans a.gs,b.lk.trans a.lk,b.dN.trans a.dN,b.steps.trans a.steps,b.num.trans a.num,b.kl.trans a.kl,fun i h=>?_,fun k hk i hi=>?_,fun i hi=>a.line i (b.line i hi),?_,fun k hk i hi=>?_⟩
 ·refine(b.tp i fun k hk hi=>?_).trans (a.tp i h)
  refine aS (a.qg k hk i hi) fun k' jM Lv=>?_
  exact h k' jM Lv
 ·refine aS (b.qg k hk i hi) fun k' jM Lv=>?_
  exact a.qg k' jM i Lv
 ·rcases b.tl with e|⟨i,e,hc,k,hk,hi⟩
  ·refine e.symm▸?_;exact a.tl
  ·exact .inr ⟨i,e,hc,a.qg k hk i hi⟩
 ·by_cases h:∃k'∈c.ks,i∈a9.qg k'
  ·refine aS (h) fun k' jM Lv=>?_
   exact b.qs k' jM i Lv
  ·refine(ah (b.tp i fun k' jM Lv=>h ⟨k',jM,Lv⟩))▸?_
   exact a.qs k hk i hi
def Nm(c:Cf)(σ:St):Nat:=(σ.qg c.e1).length+2*(σ.qg c.e2).length
theorem Fb(h:i∈l):(lG i l).length<l.length:=List.length_filter_lt_length_iff_exists.mpr ⟨i,h,by simp⟩
theorem BC:(lG i l).length≤l.length:=cX ..
theorem D8(hk:k∈c.ks)(hi:i∈σ.qg k)(su:∀k'∈c.ks,pN k'=lG i (σ.qg k')):Nm c {σ with line:=l,within:=w,tp:=uL,qg:=pN}<Nm c σ:=by
 haveI m1:c.e1∈c.ks:=by rw [lC];simp
 haveI m2:c.e2∈c.ks:=by rw [lC];simp
 refine(?_:(pN c.e1).length+2*(pN c.e2).length<(σ.qg c.e1).length+2*(σ.qg c.e2).length)
 (refine(ah (su _ m1))▸?_;refine(ah (su _ m2))▸?_)
 haveI a:=BC (i:=i) (l:=σ.qg c.e1)
 haveI b:=BC (i:=i) (l:=σ.qg c.e2)
 rw [lC] at hk
 rcases bF.mp hk with rfl|hk
 ·have:=Fb hi;lia
 ·replace hi:=(aA.mp hk)▸hi
  have:=Fb hi;lia
theorem bB:up f i v i=v:=if_pos rfl
theorem dH(h:j≠i):up f i v j=f j:=if_neg h
theorem Inv.Sa(R:Inv c σ H)(h:i∈σ.qg k):k∈c.ks:=by
 refine xS (R.qr) fun es _ _ _ h1 h2=>?_
 refine dh (h2 k (xD (J9 h))) fun a ha=>?_
 exact(h1 _ ha).1
theorem NK(R:Inv c σ H):Inv c {σ with cells:=⟨8,H.next⟩::σ.cells} (H.set ⟨8,H.next⟩ (.cell (.ref c.rm))):=by
 haveI s:cZ (fun _=>False) H (H.set ⟨8,H.next⟩ (.cell (.ref c.rm))):=gP (by exact af _ _)
 haveI S:=R.cu s
 haveI s':fi (fun _=>false) H (H.set ⟨8,H.next⟩ (.cell (.ref c.rm))):=s.mono fun _ f=>f.elim
 exact {ce:=fun x hx=>(bF.mp hx).elim (fun e=>by apply iH e;exact⟨rfl,au⟩) (S.ce x)}
theorem FF(R:Inv c σ H)(w:Wf c σ tl)(z:∀H' aY Jq,Inv c aY H'→Wf c aY Jq→Aa c aY→Keeps c σ aY tl Jq→Q .none H'):Wp (j6 [.ref c.rm]) H Q:=by
 refine Wp.f rfl ?_
 unfold y7
 refine Wp.b (HP (R.fr _ (by refine(?_:8<100);exact af _ _) (az _)) (FQ (Wp.cy ?_)))
 generalize T7:(⟨8,H.next⟩:VA)=rc
 haveI R0:Inv c {σ with cells:=rc::σ.cells} (H.set rc (.cell (.ref c.rm))):=T7▸NK R
 refine pw (fun m _ H'=>∃aY Jq,Inv c aY H'∧Wf c aY Jq∧Keeps c σ aY tl Jq∧rc∈aY.cells∧m=Nm c aY) (Nm c σ) ?_ ⟨_,tl,R0,⟨w.ph,w.ins,w.od,w.o2,w.wit,w.sW,w.tq⟩,⟨rfl,rfl,rfl,rfl,rfl,rfl,rfl,fun _ _=>rfl,fun k hk i hi=>⟨k,hk,hi⟩,fun _ h=>h,.inl rfl,fun k hk i hi=> .inl (w.calls R.c0 hk hi)⟩,by simp,rfl⟩ ?_
 ·have:=yD R c.e1
  have:=yD R c.e2
  unfold Nm;lia
 rintro m st aG ⟨a9,B7,aD,wk,te,n0,rfl⟩
 refine ie true aG rfl (MP ?_)
 refine eY (aD.rm) fun ln wi a _=>?_
 haveI Ie:=(aD.ce rc n0).2
 refine Wp.b4 (ko Ie (Wp.itemF a rfl (Wp.p ?_)))
 refine BJ aD n0 (fun h0 bh bf=>?_) fun k i m hk hq ho Wq bh bf hc=>?_
 ·
  refine Wp.b (Wp.jH (Wp.cy ?_))
  refine eY (bf.rm) fun ln wi a _=>?_
  refine Wp.b6 (ko ((bf.ce rc n0).2) (Wp.itemF a rfl (Wp.p ?_)))
  have h1:∃pC,∀k∈c.ks,∀i∈a9.qg k,(c.pat i).cond=true→i=pC:=by
   by_cases h:∃k∈c.ks,∃i∈a9.qg k,(c.pat i).cond=true
   ·obtain⟨k,hk,i,hi,hc⟩:=h
    refine ou (wk.sW k hk i hi hc) fun hm cj _ _=>?_
    subst cj
    refine mK i (fun k' jM j hj Ol=>?_)
    refine ou (wk.sW k' jM j hj Ol) fun _ cj _ _=>?_
    subst cj
    have:=Nq hi (wk.o2 hm).2.1
    rw [this] at hj
    exact aA.mp hj
   ·exact mK 0 (fun k hk i hi hc=>absurd ⟨k,hk,i,hi,hc⟩ h)
  refine dh (h1) fun pC h1=>?_
  refine BV bf h1 (fun h2 dg dp=>?_) fun k hk hi hc dg dp=>?_
  ·exact ie false dg rfl (Wp.p (Wp.cy (Wp.p (z dg a9 B7 dp wk ⟨h0,h2⟩ te))))
  ·refine ie true dg rfl (Wp.p (Wp.cy (Wp.p (Wp.p (Wp.p ?_)))))
   have ZY:=(bf.c0.q k).2 pC hi
   have su:∀k'∈c.ks,uq a9.qg k (lG pC (a9.qg k)) k'=lG pC (a9.qg k'):=fun k' jM=>by
    refine(?_:(if k'=k then _ else _)=_)
    split
    ·rename_i e;(refine e.symm▸?_;with_reducible rfl)
    ·rename_i e;exact(mw fun h=>e (bf.Cs jM hk h hi rfl).2).symm
   haveI w':=wk.ref ZY hk hi hc (uL:=up a9.tp pC {st:= .ready,wake:=none,call:=none,oQ:=some "refused",ins:=(a9.tp pC).ins}) (pN:=uq a9.qg k (lG pC (a9.qg k))) bB (fun j hj=>dH hj) su
   refine⟨_,D8 (l:=a9.line) (w:=a9.within) hk hi su,_, [pC],dp,w',te.trans ⟨rfl,rfl,rfl,rfl,rfl,rfl,rfl,fun j hj=>dH fun e=>hj k hk (e▸hi),fun k' jM j hj=>⟨k',jM,?_⟩,fun _ h=>h,.inr ⟨pC,rfl,hc,k,hk,hi⟩,fun k' jM j hj=>?_⟩,n0,rfl⟩
   ·haveI hj:j∈uq a9.qg k (lG pC (a9.qg k)) k':=hj
    rw [su k' jM] at hj
    exact(gM.mp hj).1
   ·refine(?_:(up a9.tp pC _ j).st=_∨(up a9.tp pC _ j).st=_)
    by_cases hM:j=pC
    ·apply sb hM;refine bB.symm▸?_;exact .inr rfl
    ·refine(ah (dH hM))▸?_;exact .inl (wk.calls aD.c0 jM hj)
 ·
  refine Wp.b (Wp.jH (Wp.cy ?_))
  haveI KV:i∈a9.qg k:=by refine hq.symm▸?_;simp
  haveI hi:=(aD.c0.q k).2 i KV
  haveI Yv:=wk.HL hi hk KV
  haveI htp:a9.tp i=⟨.eC,(c.pat i).CH (a9.gs i).since,some (a9.cm i),none,(a9.tp i).ins⟩:=Yv.1
  haveI RC:i∉a9.within:=of_decide_eq_false Yv.2.2.2.2.1
  have su:∀k'∈c.ks,uq a9.qg k (lG i (a9.qg k)) k'=lG i (a9.qg k'):=fun k' jM=>by
   refine(?_:(if k'=k then _ else _)=_)
   split
   ·rename_i e;(refine e.symm▸?_;with_reducible rfl)
   ·rename_i e;exact(mw fun h=>e (aD.Cs jM hk h KV rfl).2).symm
  haveI hnq:∀k',i∉uq a9.qg k (lG i (a9.qg k)) k':=fun k' h=>by
   by_cases jM:k'∈c.ks
   ·rw [su k' jM] at h;exact(gM.mp h).2 rfl
   ·haveI h:i∈(if k'=k then lG i (a9.qg k) else a9.qg k'):=h
    split at h
    ·exact(gM.mp h).2 rfl
    ·exact jM (aD.Sa h)
  refine fC (wk.first hk hq ho) fun f1 f2 f3=>?_
  refine Wp.b4 (ko ((bf.ce rc n0).2) (Wp.p ?_))
  refine JE (σ:={a9 with tp:=up a9.tp i {a9.tp i with st:= .nj,wake:=none},qg:=uq a9.qg k (lG i (a9.qg k))}) bf hi (GR hk) hnq hc RC (fun U5 Qt SF=>?_) fun hn=>?_
  ·subst U5
   haveI hm:c.iJ=2:=bS fun hm=>by rw [Qw hm] at hk;exact absurd hk (by decide)
   have m1:("wait":Str)∈c.ks:=by refine(ah (Dw hm))▸?_;simp
   refine iN m1 (fun dg dp=>Wp.p (Wp.p (Wp.p ?_)))
   have h0:a9.qg "wait"= []:=by
    replace ho:=(show kb "come"=false from by kernel_rfl)▸ho
    unfold zj at ho
    rw [if_neg aw,if_pos hm,cV,decide_eq_true_eq] at ho
    exact ho.2
   haveI qH:("wait":Str)≠ "come":=by decide
   haveI u0:uq a9.qg "come" (lG i (a9.qg "come")) "wait"= []:=(if_neg qH).trans h0
   have u1:uq (uq a9.qg "come" (lG i (a9.qg "come"))) "wait" (uq a9.qg "come" (lG i (a9.qg "come")) "wait"++ [i]) "wait"= [i]:=(if_pos rfl).trans (by refine u0.symm▸?_;rfl)
   have u2:uq (uq a9.qg "come" (lG i (a9.qg "come"))) "wait" (uq a9.qg "come" (lG i (a9.qg "come")) "wait"++ [i]) "come"=lG i (a9.qg "come"):=(if_neg (bM qH)).trans (if_pos rfl)
   refine⟨_,?_,_,B7,dp,wk.req hi hm hq (aD.c0.q "come").1 h0 Qt ?_ (fun j hj=>?_) u1 u2,te.trans ⟨rfl,rfl,rfl,rfl,rfl,rfl,rfl,fun j hj=>?_,fun k' jM j hj=>?_,fun _ h=>h,.inl rfl,fun k' jM j hj=>?_⟩,n0,rfl⟩
   ·haveI e1:c.e1= "wait":=if_pos hm
    haveI e2:c.e2= "come":=if_pos hm
    refine(?_:SV (uq (uq a9.qg "come" (lG i (a9.qg "come"))) "wait" (uq a9.qg "come" (lG i (a9.qg "come")) "wait"++ [i]) c.e1)+2*SV (uq (uq a9.qg "come" (lG i (a9.qg "come"))) "wait" (uq a9.qg "come" (lG i (a9.qg "come")) "wait"++ [i]) c.e2)<(a9.qg c.e1).length+2*(a9.qg c.e2).length)
    (refine e1.symm▸?_;refine e2.symm▸?_;refine u1.symm▸?_;refine u2.symm▸?_;refine h0.symm▸?_)
    have:=Fb KV
    simp only [r8,List.length_nil]
    lia
   ·refine bB.trans ?_
    refine(?_:TP.mk Ep.eC ((c.pat i).CH (a9.gs i).since) (up a9.tp i {a9.tp i with st:= .nj,wake:=none} i).call (up a9.tp i {a9.tp i with st:= .nj,wake:=none} i).oQ (up a9.tp i {a9.tp i with st:= .nj,wake:=none} i).ins=_)
    refine bB.symm▸?_
    refine(?_:TP.mk _ _ (a9.tp i).call (a9.tp i).oQ (a9.tp i).ins=_)
    (refine htp.symm▸?_;with_reducible rfl)
   ·refine(?_:(up (up a9.tp i _) i _) j=_)
    (refine(ah (dH hj))▸?_;refine(ah (dH hj))▸?_;with_reducible rfl)
   ·haveI hM:j≠i:=fun e=>hj _ hk (e▸KV)
    refine(?_:(up (up a9.tp i _) i _) j=_)
    (refine(ah (dH hM))▸?_;refine(ah (dH hM))▸?_;with_reducible rfl)
   ·replace jM:=(Dw hm)▸jM
    rcases bF.mp jM with rfl|jM
    ·haveI hj:j∈uq (uq a9.qg "come" (lG i (a9.qg "come"))) "wait" (uq a9.qg "come" (lG i (a9.qg "come")) "wait"++ [i]) "wait":=hj
     rw [u1] at hj
     exact dG _ hk (by refine(ah (aA.mp hj))▸?_;exact KV)
    ·rw [aA] at jM
     subst jM
     haveI hj:j∈uq (uq a9.qg "come" (lG i (a9.qg "come"))) "wait" (uq a9.qg "come" (lG i (a9.qg "come")) "wait"++ [i]) "come":=hj
     rw [u2] at hj
     exact dG _ hk ((gM.mp hj).1)
   ·refine .inl ?_
    refine(?_:(up (up a9.tp i _) i _ j).st=_)
    by_cases hM:j=i
    ·apply sb hM;(refine bB.symm▸?_;with_reducible rfl)
    ·(refine(ah (dH hM))▸?_;refine(ah (dH hM))▸?_);exact wk.calls aD.c0 jM hj
  ·refine iN ⟨f1,f2,f3 hn⟩ (fun dg dp=>Wp.p (Wp.p (Wp.p ?_)))
   haveI t1:(up (up a9.tp i {a9.tp i with st:= .nj,wake:=none}) i {st:= .ready,wake:=none,call:=none,oQ:=some "called",ins:=(up a9.tp i {a9.tp i with st:= .nj,wake:=none} i).ins}) i=⟨.ready,none,none,some "called",(a9.tp i).ins⟩:=by(refine bB.symm▸?_;refine bB.symm▸?_;with_reducible rfl)
   haveI t2:∀j,j≠i→(up (up a9.tp i {a9.tp i with st:= .nj,wake:=none}) i {st:= .ready,wake:=none,call:=none,oQ:=some "called",ins:=(up a9.tp i {a9.tp i with st:= .nj,wake:=none} i).ins}) j=a9.tp j:=fun j hj=>by(refine(ah (dH hj))▸?_;refine(ah (dH hj))▸?_;with_reducible rfl)
   refine⟨_,D8 hk KV su,_,B7,dp,wk.inn hi hk KV (fun k' jM h=>(aD.Cs jM hk h KV rfl).2) f2 (f3 hn) t1 t2 su,te.trans ⟨rfl,rfl,rfl,rfl,rfl,rfl,rfl,fun j hj=>t2 j fun e=>hj k hk (e▸KV),fun k' jM j hj=>⟨k',jM,?_⟩,fun j hj=>(gM.mp hj).1,.inl rfl,fun k' jM j hj=>?_⟩,n0,rfl⟩
   ·haveI hj:j∈uq a9.qg k (lG i (a9.qg k)) k':=hj
    rw [su k' jM] at hj
    exact(gM.mp hj).1
   ·by_cases hM:j=i
    ·apply iH hM;exact .inr (congrArg TP.st t1)
    ·exact .inl ((congrArg TP.st (t2 j hM)).trans (wk.calls aD.c0 jM hj))
variable {aY:St}
structure Good(c:Cf)(σ:St):Prop where
 wf:Wf c σ []
 set:Aa c σ
 lk:σ.lk=none
theorem oA:live σ j=isLive (σ.gs j) σ.now:=rfl
structure Out(c:Cf)(σ:St)(i:Nat):Prop where
 line:i∉σ.line
 within:i∉σ.within
 q:∀k∈c.ks,i∉σ.qg k
structure Arr(c:Cf)(σ aY:St)(i:Nat):Prop where
 now:aY.now=σ.now
 lk:aY.lk=some i
 gs:∀j,j≠i→aY.gs j=σ.gs j
 tp:∀j,j≠i→aY.tp j=σ.tp j
 cm:∀j,j≠i→aY.cm j=σ.cm j
 ins:(aY.tp i).ins=true
 WY:isLive (aY.gs i) aY.now=true
theorem Arr.J6(a:Arr c σ aY i)(h:j≠i):live aY j=live σ j:=by(refine oA.symm▸?_;refine oA.symm▸?_;refine(ah (a.gs j h))▸?_;refine a.now.symm▸?_;with_reducible rfl)
theorem Arr.Fe(a:Arr c σ aY i)(o:Out c σ i)(h:aY.line=σ.line++ [i]):lv aY=lv σ++ [i]:=by
 refine(?_:aY.line.filter _=_)
 rw [h,jr]
 congr 1
 ·exact cW fun j hj=>a.J6 fun e=>o.line (e▸hj)
 ·rw [F1 (by rw [oA];exact a.WY)];rfl
theorem Arr.Px(a:Arr c σ aY i)(o:Out c σ i)(h:aY.line=σ.line):lv aY=lv σ:=by
 refine(?_:aY.line.filter _=_)
 refine h.symm▸?_
 exact cW fun j hj=>a.J6 fun e=>o.line (e▸hj)
theorem Arr.J1(a:Arr c σ aY i)(g:Good c σ):∀j<c.n,(aY.tp j).ins=decide (aY.lk=some j):=fun j hj=>by
 rw [a.lk]
 by_cases h:j=i
 ·rw [h,a.ins];simp
 ·rw [a.tp j h,g.wf.ins j hj,g.lk]
  simp [bM h]
theorem Arr.PI(a:Arr c σ aY i)(g:Good c σ)(hl:∀j,j≠i→(j∈aY.line↔j∈σ.line))(hw:∀j,j≠i→(j∈aY.within↔j∈σ.within))(hq:∀j,j≠i→∀k∈c.ks,(j∈aY.qg k↔j∈σ.qg k))(ht:∀j,j≠i→j∉Jq)(hp:∃p,ok (c.pat i) (view c aY Jq i) p):
  ∀j<c.n,∃p,ok (c.pat j) (view c aY Jq j) p:=fun j hj=>by
 by_cases h:j=i
 ·refine h.symm▸?_;exact hp
 ·refine dh (g.wf.ph j hj) fun p x=>?_
  exact mK p (xo x (a.tp j h) (a.gs j h) a.now (hl j h) (hw j h) (hq j h) ⟨fun y=>absurd y (ht j h),fun y=>by exact aj (by cases y)⟩ (a.cm j h))
theorem lH(h:j≠i):j∈l++ [i]↔j∈l:=by simp [h]
def gL(c:Cf)(i:Nat):Str:=if c.iJ=2 then "come" else Cg (c.wr i)
theorem uC:gL c i∈c.ks:=by
 unfold gL
 by_cases h:c.iJ=2
 ·(refine(ah (if_pos h))▸?_;refine(ah (Dw h))▸?_);simp
 ·(refine(ah (if_neg h))▸?_;refine(ah (Qw h))▸?_)
  cases c.wr i<;>simp [Cg]
theorem Se(h:Cg a=Cg b):a=b:=by
 induction a<;>induction b<;>first|rfl|exact absurd h (by decide)
theorem Wf.Vy(g:Good c σ)(o:Out c σ i)(a:Arr c σ aY i)(hi:i<c.n)(hl:aY.line=σ.line++ [i])(hw:aY.within=σ.within)(hq:aY.qg=σ.qg)(hc:(c.pat i).cond=true)(hs:(aY.gs i).bc=2)(hn:(aY.gs i).since=aY.now)
  (ht:aY.tp i=⟨.ready,none,none,some "refused",(aY.tp i).ins⟩):Wf c aY [i]:=by
 haveI w:=g.wf
 haveI L:=a.Fe o hl
 refine⟨a.PI g (fun j h=>by refine hl.symm▸?_;exact lH h) (fun j _=>by(refine hw.symm▸?_;with_reducible rfl)) (fun j _ k _=>by(refine hq.symm▸?_;with_reducible rfl)) (fun j h=>by simp [h]) ⟨.turned,ht,hs,hc,hn,?_,?_,fun _=>decide_eq_true (by simp)⟩,a.J1 g,fun hm b=>?_,fun hm=>?_,?_,?_,?_⟩
 ·refine(?_:decide (i∈aY.within)=false)
  refine hw.symm▸?_;exact decide_eq_false o.within
 ·refine(?_:(decide (i∈aY.qg _)||decide (i∈aY.qg _))=false)
  rw [hq,decide_eq_false (o.q _ (by rw [lC];simp)),decide_eq_false (o.q _ (by rw [lC];simp))];rfl
 ·rw [L,jr,w.od hm b,hq];simp
 ·refine fC (w.o2 hm) fun o1 o2 o3=>?_
  rw [L,o1,hq]
  exact fM (by simp) o2 o3
 ·rw [hw];exact w.wit
 ·rw [hq];exact fun k hk j hj hc=>absurd hc (by rw [g.set.jK k hk j hj];exact aw)
 ·rw [hq];exact fun j hj k hk=>by rw [aA.mp hj];exact o.q k hk
theorem Wf.Vz(g:Good c σ)(o:Out c σ i)(a:Arr c σ aY i)(hi:i<c.n)(hl:aY.line=σ.line++ [i])(hw:aY.within=σ.within)(hq:aY.qg=uq σ.qg (gL c i) (σ.qg (gL c i)++ [i]))(hc:(c.pat i).cond=false)(hs:(aY.gs i).bc=2)(hd:(aY.gs i).jG=tK (c.pat i) (aY.gs i).since)
  (ht:aY.tp i=⟨.eC,(c.pat i).CH (aY.gs i).since,some (aY.cm i),none,(aY.tp i).ins⟩):Wf c aY []:=by
 haveI w:=g.wf
 haveI L:=a.Fe o hl
 have mq:∀j,j≠i→∀k∈c.ks,(j∈aY.qg k↔j∈σ.qg k):=fun j h k hk=>by
  rw [hq]
  show j∈(if k=_ then _ else _)↔_
  split
  ·rename_i e;refine e.symm▸?_;exact lH h
  ·rfl
 refine⟨a.PI g (fun j h=>by refine hl.symm▸?_;exact lH h) (fun j _=>by(refine hw.symm▸?_;with_reducible rfl)) mq (fun j _=>by simp) ⟨.wait,ht,hs,hd,decide_eq_true (by rw [hl];simp),?_,oz.mpr ⟨_,uC,by rw [hq];show i∈(if _ then _ else _);rw [if_pos rfl];simp⟩,a.WY,fun h=>by rw [hc] at h;exact ft h⟩,a.J1 g,fun hm b=>?_,fun hm=>?_,?_,?_,fun j hj=>by exact aj (by cases hj)⟩
 ·refine(?_:decide (i∈aY.within)=false)
  rw [hw];exact decide_eq_false o.within
 ·rw [L,jr,w.od hm b,hq]
  haveI ke:gL c i=Cg (c.wr i):=if_neg hm
  show _=(if Cg b=gL c i then _ else _)++_
  rw [ke]
  by_cases hb:c.wr i=b
  ·subst hb;rw [if_pos rfl];simp
  ·rw [if_neg fun e=>hb (Se e).symm]
   have:(c.wr i==b)=false:=by simpa using hb
   simp [this]
 ·refine fC (w.o2 hm) fun o1 o2 o3=>?_
  haveI ke:gL c i= "come":=if_pos hm
  haveI qH:("wait":Str)≠ "come":=by decide
  haveI e1:aY.qg "wait"=σ.qg "wait":=by rw [hq,ke];exact if_neg qH
  haveI e2:aY.qg "come"=σ.qg "come"++ [i]:=by rw [hq,ke];exact if_pos rfl
  rw [L,o1,e1,e2]
  exact fM (by simp) o2 o3
 ·rw [hw];exact w.wit
 ·intro k hk j hj Ol
  by_cases h:j=i
  ·rw [h,hc] at Ol;exact ft Ol
  ·rw [g.set.jK k hk j ((mq j h k hk).mp hj)] at Ol;exact ft Ol
theorem Wf.Vx(g:Good c σ)(o:Out c σ i)(a:Arr c σ aY i)(hi:i<c.n)(hl:aY.line=σ.line)(hw:aY.within=σ.within++ [i])(hq:aY.qg=σ.qg)(hh:mJ c σ=false)(Qt:c.wr i=true→σ.within= [])(hs:(aY.gs i).bc=2)
  (ht:aY.tp i=⟨.ready,none,none,some "called",(aY.tp i).ins⟩):Wf c aY []:=by
 have w:=g.wf
 have L:=a.Px o hl
 refine⟨a.PI g (fun j _=>by(refine hl.symm▸?_;with_reducible rfl)) (fun j h=>by refine hw.symm▸?_;exact lH h) (fun j _ k _=>by(refine hq.symm▸?_;with_reducible rfl)) (fun j _=>by simp) ⟨.HT,ht,hs,?_,?_,?_⟩,a.J1 g,fun hm b=>?_,fun hm=>?_,fun x hx MG=>?_,?_,fun j hj=>by exact aj (by cases hj)⟩
 ·refine(?_:decide (i∈aY.line)=false)
  refine hl.symm▸?_;exact decide_eq_false o.line
 ·exact decide_eq_true (by refine hw.symm▸?_;simp)
 ·refine(?_:(decide (i∈aY.qg _)||decide (i∈aY.qg _))=false)
  rw [hq,decide_eq_false (o.q _ (by rw [lC];simp)),decide_eq_false (o.q _ (by rw [lC];simp))];rfl
 ·rw [L,w.od hm b,hq]
 ·rw [L,hq];exact w.o2 hm
 ·rw [hw] at hx ⊢
  rcases eH.mp hx with h|h
  ·rw [(JR w.wit).mp hh x h] at MG;exact ft MG
  ·rw [aA.mp h] at MG ⊢
   rw [Qt MG];rfl
 ·rw [hq];exact fun k hk j hj hc=>absurd hc (by rw [g.set.jK k hk j hj];exact aw)
theorem Wf.Vw(g:Good c σ)(o:Out c σ i)(a:Arr c σ aY i)(hi:i<c.n)(hm:c.iJ=2)(hl:aY.line=σ.line++ [i])(hw:aY.within=σ.within)(h0:σ.qg "wait"= [])(h1:σ.qg "come"= [])(IA:aY.qg "wait"= [i])(MF:aY.qg "come"= [])(Qt:c.wr i=true)(hs:(aY.gs i).bc=2)(hd:(aY.gs i).jG=tK (c.pat i) (aY.gs i).since)(hn:(aY.gs i).since=aY.now)
  (ht:aY.tp i=⟨.eC,(c.pat i).CH (aY.gs i).since,some (aY.cm i),none,(aY.tp i).ins⟩):Wf c aY []:=by
 haveI w:=g.wf
 haveI L:=a.Fe o hl
 haveI k2:∀k∈c.ks,k= "wait"∨k= "come":=fun k hk=>by replace hk:=(Dw hm)▸hk;simpa using hk
 refine⟨a.PI g (fun j h=>by refine hl.symm▸?_;exact lH h) (fun j _=>by(refine hw.symm▸?_;with_reducible rfl)) (fun j h k hk=>?_) (fun j _=>by simp) ⟨.wait,ht,hs,hd,decide_eq_true (by refine hl.symm▸?_;simp),?_,oz.mpr ⟨"wait",by refine(ah (Dw hm))▸?_;simp,by refine IA.symm▸?_;simp⟩,a.WY,fun _=>hn⟩,a.J1 g,fun h=>absurd hm h,fun _=>?_,?_,fun k hk j hj hc=>?_,fun j hj=>by exact aj (by cases hj)⟩
 ·rcases k2 k hk with rfl|rfl
  ·(refine IA.symm▸?_;refine h0.symm▸?_);simp [h]
  ·(refine MF.symm▸?_;refine h1.symm▸?_;with_reducible rfl)
 ·refine(?_:decide (i∈aY.within)=false)
  refine hw.symm▸?_;exact decide_eq_false o.within
 ·refine fC (w.o2 hm) fun o1 o2 o3=>?_
  (refine L.symm▸?_;refine o1.symm▸?_;refine h0.symm▸?_;refine h1.symm▸?_;refine IA.symm▸?_;refine MF.symm▸?_)
  refine fM rfl (by simp) (fun x hx=>?_)
  refine(ah (aA.mp hx))▸?_;exact Qt
 ·refine hw.symm▸?_;exact w.wit
 ·rcases k2 k hk with rfl|rfl
  ·exact qI hm rfl MF rfl
  ·replace hj:=(MF)▸hj;exact aj (by cases hj)
theorem RW(h:ok pt v p):ok pt {v with tp:={v.tp with ins:=b}} p:=by
 have e:∀{a1 a2 a3 a4},v.tp=⟨a1,a2,a3,a4,v.tp.ins⟩→({v.tp with ins:=b}:TP)=⟨a1,a2,a3,a4,b⟩:=fun h=>by rw [h]
 induction p with
 |comp=>exact h
 |done=>exact h
 |new=>exact⟨e h.1,h.2⟩
 |rest _=>exact⟨e h.1,h.2⟩
 |lq=>exact⟨e h.1,h.2⟩
 |wait=>exact⟨e h.1,h.2⟩
 |HT=>exact⟨e h.1,h.2⟩
 |turned=>exact⟨e h.1,h.2⟩
 |lK _=>exact⟨e h.1,h.2⟩
 |gO _=>exact⟨e h.1,h.2⟩
 |lu=>exact⟨e h.1,h.2⟩
 |left=>exact⟨e h.1,h.2⟩
theorem Wf.free(w:Wf c σ tl)(hl:σ.lk=some i):Wf c {σ with lk:=none,tp:=up σ.tp i {σ.tp i with ins:=false}} tl:=by
 refine⟨fun j hj=>?_,fun j hj=>?_,w.od,w.o2,w.wit,w.sW,w.tq⟩
 ·refine dh (w.ph j hj) fun p h=>?_
  refine mK p ?_
  by_cases hM:j=i
  ·apply sb hM
   have:view c {σ with lk:=none,tp:=up σ.tp j {σ.tp j with ins:=false}} tl j={view c σ tl j with tp:={σ.tp j with ins:=false}}:=by
    unfold view;simp only [if_pos]
   rw [this]
   exact RW h
  ·exact xo h (dH hM) rfl rfl Iff.rfl Iff.rfl (fun _ _=>Iff.rfl) Iff.rfl rfl
 ·refine(?_:(up σ.tp i _ j).ins=decide (none=some j))
  rw [decide_eq_false (by simp)]
  by_cases hM:j=i
  ·apply sb hM;rw [bB]
  ·rw [dH hM,w.ins j hj,hl]
   simp [bM hM]
theorem Wf.To(w:Wf c σ tl)(ht:tl= []∨tl= [i])(hq:∀k∈c.ks,i∉σ.qg k):Wf c {σ with line:=lG i σ.line} []:=by
 have L:lv {σ with line:=lG i σ.line}=lG i (lv σ):=xb
 have t0:∀f:Nat→Bool,lG i (tl.filter f)= []:=fun f=>by
  rcases ht with e|e
  ·refine e.symm▸?_;rfl
  ·refine e.symm▸?_
   refine hJ.mpr fun x hx=>?_
   refine(ah (aA.mp (bH.mp hx).1))▸?_;simp
 refine⟨fun j hj=>?_,w.ins,fun hm b=>?_,fun hm=>?_,w.wit,fun k hk j hj hc=>?_,fun j hj=>by exact aj (by cases hj)⟩
 ·refine dh (w.ph j hj) fun p h=>?_
  by_cases hM:j=i
  ·subst hM
   haveI hL:(view c {σ with line:=lG j σ.line} [] j).yY=false:=decide_eq_false fun h=>(gM.mp h).2 rfl
   refine mK p ?_
   induction p with
   |wait=>
    refine aS (oz.mp h.2.2.2.2.2.1) fun k hk hi=>?_
    exact absurd hi (hq k hk)
   |new=>exact ID h.1 h.2.1 h.2.2.1 hL h.2.2.2.2
   |rest _=>exact ID h.1 h.2.1 h.2.2.1 hL h.2.2.2.2
   |lq=>exact ID h.1 h.2.1 h.2.2.1 hL h.2.2.2.2
   |HT=>exact qI h.1 h.2.1 hL h.2.2.2
   |turned=>exact WL h.1 h.2.1 h.2.2.1 h.2.2.2.1 h.2.2.2.2.1 h.2.2.2.2.2.1 (fun x=>by replace x:=(hL)▸x;exact ft x)
   |lK _=>exact h
   |gO _=>exact qI h.1 h.2.1 hL h.2.2.2
   |lu=>exact qI h.1 h.2.1 hL h.2.2.2
   |left=>exact qI h.1 h.2.1 hL h.2.2.2
   |comp=>exact qI h.1 h.2.1 hL h.2.2.2
   |done=>exact qI h.1 h.2.1 hL h.2.2.2
  ·have:j∉tl:=fun h=>by
    rcases ht with e|e
    ·replace h:=(e)▸h;exact aj (by cases h)
    ·replace h:=(e)▸h;exact hM (aA.mp h)
   exact mK p (xo h rfl rfl rfl (m4 hM) Iff.rfl (fun _ _=>Iff.rfl) ⟨fun x=>(by exact aj (by cases x)),fun x=>absurd x this⟩ rfl)
 ·haveI hr:Cg b∈c.ks:=by rw [Qw hm];induction b<;>simp [Cg]
  rw [L,xb,w.od hm b,rQ,t0,mw (hq _ hr)];rfl
 ·refine fC (w.o2 hm) fun o1 o2 o3=>?_
  rw [L,o1,rQ,rQ,mw (hq "wait" (by rw [Dw hm];simp)),mw (hq "come" (by rw [Dw hm];simp))]
  have:=t0 fun _=>true
  rw [eR.mpr fun _ _=>rfl] at this
  rw [this]
  exact fM rfl o2 o3
 ·refine ou (w.sW k hk j hj hc) fun e1 e2 e3 e4=>?_
  exact qI e1 e2 e3 rfl
theorem wu{Q:Fl→Hp→Prop}(R:Inv c σ H)(w:Wf c σ tl)(hi:i<c.n)(Z5:σ.lk=some i)(htl:(c.pat i).cond=true∧tl= [i]∨tl= [])(hq:∀k∈c.ks,∀j∈σ.qg k,(c.pat j).cond=true→j=i)
  (z:∀H' aY,Inv c aY H'→Good c aY→aY.gs=σ.gs→aY.now=σ.now→aY.dN=σ.dN→aY.steps=σ.steps→(∀j,j≠i→(∀k∈c.ks,j∉σ.qg k)→aY.tp j=σ.tp j)→Q (.next []) H'):
  Wp (((j6 [.ref c.rm]).d fun _=>pU ()).d fun _=>(((((Internal.itemF (.ref c.rm) .gX).d fun v=>(pU [v,.ref (tA i)])).d fun vs=>(j7 vs)).d fun _=>pU ()).d fun _=>(((Internal.itemF (.ref (c.ga i)) .bZ).d fun a=>(aX .Eq a (.str "else"))).d fun b=>(bif b then((((Internal.itemF (.ref c.rm) .line).d fun src=>(fW 12 src (fun dP=>testM .And [(aX .NotEq dP (iV i))]) (fun dP=>(pU dP)))).d fun u=>(Internal.b0 (.ref c.rm) .line u)).d fun _=>nX) else nX).cy (fun _=>nX)))) H Q:=by
 refine Wp.b2 (FF R w fun aG a9 B7 aD wk br te=>Wp.p ?_)
 refine eY (aD.rm) fun ln wi a _=>?_
 haveI RA:a9.lk=some i:=te.lk.trans Z5
 refine Wp.b4 (Wp.itemF a rfl (Wp.p (wR aD hi RA (by rw [wk.ins i hi,RA];simp) fun bh bf=>Wp.p ?_)))
 haveI UN:=wk.free RA
 refine Wp.b2 (Wp.itemF (bf.gu i hi) (u:=(c.pat i).v) rfl (uy ?_))
 have t1:B7= []∨(B7= [i]∧(c.pat i).cond=true):=by
  rcases te.tl with e|⟨j,e,hc,k,hk,hj⟩
  ·rcases htl with⟨h1,h2⟩|h
   ·exact .inr ⟨e.trans h2,h1⟩
   ·exact .inl (e.trans h)
  ·obtain rfl:=hq k hk j hj hc
   exact .inr ⟨e,hc⟩
 induction hc:(c.pat i).cond with
 |true=>
  refine Wp.cy (Wp.b (rG (i:=i) bf fun dg dp s3=>Wp.p (Wp.p (z dg _ dp ⟨?_,⟨br.ik,br.jK⟩,rfl⟩ te.gs te.now te.dN te.steps fun j hj hq=>(dH hj).trans (te.tp j hq)))))
  exact UN.To (t1.imp_right (·.1)) fun k hk h=>by have:=br.jK k hk i h;rw [hc] at this;exact tf this
 |false=>
  have t0:B7= []:=t1.resolve_right fun h=>by rw [hc] at h;exact ft h.2
  subst t0
  exact Wp.cy (Wp.p (Wp.p (z bh _ bf ⟨UN,⟨br.ik,br.jK⟩,rfl⟩ te.gs te.now te.dN te.steps fun j hj hq=>(dH hj).trans (te.tp j hq))))
theorem Mj(p:Co)(hp:p.ok)(g n:Int):isLive ⟨g,n,tK p n⟩ n=true:=by
 induction p with
 |none=>rfl
 |sW=>exact decide_eq_true (by lia)
 |num k=>exact decide_eq_true (by have:1≤k:=hp;lia)
theorem Nc:kb (gL c i)=if c.iJ=2 then false else c.wr i:=by
 unfold gL
 by_cases h:c.iJ=2
 ·(refine(ah (if_pos h))▸?_;refine(ah (if_pos h))▸?_);kernel_rfl
 ·(refine(ah (if_neg h))▸?_;refine(ah (if_neg h))▸?_)
  cases c.wr i<;>kernel_rfl
theorem LV(g:Good c σ)(ho:zj c σ (kb (gL c i))=true):mJ c σ=false∧σ.qg (gL c i)= []∧(c.iJ=2→σ.qg "wait"= []∧lv σ= [])∧(c.iJ≠2→c.wr i=true→σ.within= []):=by
 haveI h1:σ.qg (gL c i)= []:=(g.set.ik _ uC).resolve_right fun h=>by rw [ho] at h;exact tf h
 haveI h2:mJ c σ=false:=by
  unfold zj at ho
  split at ho
  ·unfold mJ
   (refine(ah (of_decide_eq_true ho))▸?_;with_reducible rfl)
  ·rw [cV] at ho
   simpa using ho.1
 refine qI h2 h1 (fun hm=>?_) (fun hm hw=>?_)
 ·rw [Nc,if_pos hm] at ho
  unfold zj at ho
  rw [if_neg aw,if_pos hm,cV,decide_eq_true_eq] at ho
  refine cQ (g.wf.o2 hm) fun o1 _=>?_
  rw [show gL c i= "come" from if_pos hm] at h1
  exact iN ho.2 (by(refine o1.symm▸?_;refine ho.2.symm▸?_;refine h1.symm▸?_);rfl)
 ·rw [Nc,if_neg hm,hw] at ho
  exact of_decide_eq_true ho
theorem Ni{l:List Nat}(h:i∉l):lG i (l++ [i])=l:=by
 rw [rQ,mw h,show lG i [i]= [] from by simp [lG],oH]
theorem Wp.cT{Q:α→Hp→Prop}(h:Wp m H Q):Wp (bif true then m else n) H Q:=h
theorem Wp.cF{Q:α→Hp→Prop}(h:Wp n H Q):Wp (bif false then m else n) H Q:=h
theorem zr{a b:α}:up (up f i a) i b=up f i b:=by
 funext j
 refine(?_:(if j=i then b else if j=i then a else f j)=if j=i then b else f j)
 split<;>rfl
theorem QA(hj:j≠i)(hq:∀k∈c.ks,j∉σ.qg k):∀k∈c.ks,j∉uq σ.qg wa (σ.qg wa++ [i]) k:=fun k hk h=>by
 haveI h:j∈(if k=wa then σ.qg wa++ [i] else σ.qg k):=h
 split at h
 ·rename_i e
  exact hq k hk (e▸(lH hj).mp h)
 ·exact hq k hk h
abbrev k8(c:Cf)(σ:St)(i:Nat):Nat→GS:=up σ.gs i ⟨2,σ.now,tK (c.pat i) σ.now⟩
theorem Md(g:Good c σ)(o:Out c σ i)(hi:i<c.n)(hp:σ.tp i=⟨.ready,none,none,none,(σ.tp i).ins⟩)(R:Inv c {σ with gs:=k8 c σ i} H)
  (z:∀H' aY,Inv c aY H'→Good c aY→aY.gs=k8 c σ i→aY.now=σ.now→aY.dN=σ.dN→aY.steps=σ.steps→(∀j,j≠i→(∀k∈c.ks,j∉σ.qg k)→aY.tp j=σ.tp j)→Q .none H'):Wp (jt [.ref c.rm,.ref (tA i),iV i]) H Q:=by
 haveI CN:(σ.tp i).ins=false:=by(refine(ah (g.wf.ins i hi))▸?_;refine g.lk.symm▸?_);rfl
 haveI Wx:∀k,i∉σ.qg k:=fun k h=>o.q k (R.Sa h) h
 refine eY (R.rm) fun ln wi a _=>?_
 refine Wp.f rfl ?_
 unfold xd
 refine Wp.b2 (yG R (qG R hi ?_))
 refine Wp.b (Wp.p ?_)
 refine Wp.b2 (Wp.itemF a rfl ⟨decide (c.iJ<2),H,rfl,?_⟩)
 haveI pre:∀{Q:Fl→Hp→Prop},Q (.next [eM (gL c i)]) H→Wp (bif decide (c.iJ<2) then((((Internal.itemF (.ref (c.ga i)) .cJ).d fun v=>(bV v)).d fun c=>bif c then(pU (.tup [(.str "write"),.none])) else(pU (.tup [(.str "read"),.none]))).d fun tT=>(pU (Fl.next [tT]))) else(pU (.next [eM "come"]))) H Q:=fun z=>by
  unfold gL at z
  by_cases hm:c.iJ=2
  ·replace z:=(if_pos hm)▸z
   rw [decide_eq_false (by lia)]
   exact Wp.p z
  ·replace z:=(if_neg hm)▸z
   rw [decide_eq_true (by have:=R.ok.iJ;lia)]
   refine Wp.b3 (Wp.itemF (R.gu i hi) (u:= .bool (c.wr i)) rfl ⟨c.wr i,H,rfl,?_⟩)
   induction hw:c.wr i with
   |true=>replace z:=(hw)▸z;exact Wp.p (Wp.p z)
   |false=>replace z:=(hw)▸z;exact Wp.p (Wp.p z)
 refine Wp.cy (pre ?_)
 clear pre a
 refine Wp.b (Ga R hi o.line fun aG aD s1=>?_)
 refine eY (aD.rm) fun ln wi a _=>?_
 refine Wp.b4 (Wp.itemF a rfl (Wp.p (yO aD hi g.lk CN fun bh bf=>Wp.p ?_)))
 haveI e2:({σ.tp i with oQ:=none,ins:=true}:TP)=⟨.ready,none,none,none,true⟩:=by(refine hp.symm▸?_;with_reducible rfl)
 haveI QX:Inv c {σ with gs:=k8 c σ i,line:=σ.line++ [i],lk:=some i,tp:=up σ.tp i ⟨.ready,none,none,none,true⟩} bh:=e2▸bf
 clear bf aD e2
 refine eY (QX.rm) fun ln wi a _=>?_
 refine Wp.b2 (Ba QX (GR uC) ⟨_,bh,rfl,?_⟩)
 haveI hg:(k8 c σ i i)=⟨2,σ.now,tK (c.pat i) σ.now⟩:=bB
 haveI Wi:isLive (k8 c σ i i) σ.now=true:=by refine hg.symm▸?_;exact Mj _ (R.ok.pat i hi) 2 σ.now
 haveI Ua:(k8 c σ i i).since=σ.now:=by(refine hg.symm▸?_;with_reducible rfl)
 haveI uA:(k8 c σ i i).bc=2:=by(refine hg.symm▸?_;with_reducible rfl)
 haveI X7:(k8 c σ i i).jG=tK (c.pat i) (k8 c σ i i).since:=by(refine hg.symm▸?_;with_reducible rfl)
 haveI Fh:∀k∈c.ks,∀j∈σ.qg k,(c.pat j).cond=true→j=i:=fun k hk j hj hc=>by replace hc:=(g.set.jK k hk j hj)▸hc;exact ft hc
 refine Wp.cy ?_
 refine(?_:Wp (bif zj c σ (kb (gL c i)) then _ else _) bh _)
 induction ho:zj c σ (kb (gL c i)) with
 |true=>
  refine ou (LV g ho) fun f1 f2 f3 f4=>?_
  refine Wp.cT ?_
  repeat (with_reducible refine Wp.b ?_)
  refine Wp.itemF a rfl ?_
  repeat (with_reducible refine Wp.b ?_)
  refine Wp.itemF a rfl ?_
  repeat (with_reducible refine Wp.b ?_)
  refine Wp.lst (by kernel_rfl) ?_
  repeat (with_reducible refine Wp.b ?_)
  refine Wp.itemF (QX.gu i hi) (u:=(c.pat i).v) rfl ?_
  repeat (with_reducible refine Wp.p ?_)
  refine wy QX hi Wx Ua fun dg zt e3 dp hc=>?_
  repeat (with_reducible refine Wp.p ?_)
  haveI Zl:zt={σ with gs:=k8 c σ i,line:=σ.line++ [i],lk:=some i,num:=σ.num+1,cm:=up σ.cm i (σ.num+1),tp:=up σ.tp i ⟨.ready,none,some (σ.num+1),none,true⟩}:=by
   refine e3.symm▸?_
   refine(?_:St.mk _ _ _ _ _ _ (up (up σ.tp i _) i {up σ.tp i ⟨.ready,none,none,none,true⟩ i with call:=_,oQ:=_}) _ _ _ _ _ _=_)
   (refine zr.symm▸?_;refine bB.symm▸?_;with_reducible rfl)
  clear e3
  subst Zl
  haveI Zm:cA (σ.num+1)=cA (up σ.cm i (σ.num+1) i):=by(refine bB.symm▸?_;with_reducible rfl)
  rw [Zm] at hc ⊢
  haveI aa:∀(pT:St),pT.now=σ.now→pT.lk=some i→pT.gs=k8 c σ i→pT.cm=up σ.cm i (σ.num+1)→(∀j,j≠i→pT.tp j=σ.tp j)→(pT.tp i).ins=true→Arr c σ pT i:=fun pT h1 h2 h3 h4 h5 h6=>
   ⟨h1,h2,fun j hj=>by refine h3.symm▸?_;exact dH hj,h5,fun j hj=>by refine h4.symm▸?_;exact dH hj,h6,by(refine h3.symm▸?_;refine h1.symm▸?_);exact Wi⟩
  refine JE (σ:={σ with gs:=k8 c σ i,line:=σ.line++ [i],lk:=some i,num:=σ.num+1,cm:=up σ.cm i (σ.num+1),tp:=up σ.tp i ⟨.ready,none,some (σ.num+1),none,true⟩}) dp hi (GR uC) Wx hc o.within (fun U5 Qt SF=>?_) fun hn=>?_
  ·haveI hm:c.iJ=2:=bS fun hm=>by
    rw [show gL c i=Cg (c.wr i) from if_neg hm,Qt] at U5
    exact absurd U5 (by decide)
   refine cQ (f3 hm) fun q0 _=>?_
   rw [show gL c i= "come" from if_pos hm] at f2
   refine⟨by refine(ah (Dw hm))▸?_;simp,fun iZ mI=>Wp.p (Wp.p ?_)⟩
   haveI e4:up (up σ.tp i ⟨.ready,none,some (σ.num+1),none,true⟩) i {up σ.tp i ⟨.ready,none,some (σ.num+1),none,true⟩ i with st:= .eC,wake:=(c.pat i).CH (k8 c σ i i).since}=up σ.tp i ⟨.eC,(c.pat i).CH (k8 c σ i i).since,some (σ.num+1),none,true⟩:=by(refine zr.symm▸?_;refine bB.symm▸?_;with_reducible rfl)
   haveI R4:Inv c {σ with gs:=k8 c σ i,line:=σ.line++ [i],lk:=some i,num:=σ.num+1,cm:=up σ.cm i (σ.num+1),tp:=up σ.tp i ⟨.eC,(c.pat i).CH (k8 c σ i i).since,some (σ.num+1),none,true⟩,qg:=uq σ.qg "wait" (σ.qg "wait"++ [i])} iZ:=e4▸mI
   haveI qH:("come":Str)≠ "wait":=by decide
   haveI u1:uq σ.qg "wait" (σ.qg "wait"++ [i]) "wait"= [i]:=(if_pos rfl).trans (by refine q0.symm▸?_;rfl)
   haveI u2:uq σ.qg "wait" (σ.qg "wait"++ [i]) "come"= []:=(if_neg qH).trans f2
   refine wu R4 (Wf.Vw g o (aa _ rfl rfl rfl rfl (fun j hj=>dH hj) (by refine(?_:(up σ.tp i _ i).ins=true);(refine bB.symm▸?_;with_reducible rfl))) hi hm rfl rfl q0 f2 u1 u2 Qt uA X7 Ua ?_) hi rfl (.inr rfl) (fun k hk j hj Ol=>?_) fun H' aY I G e1 e2 e3 e4 e5=>z H' aY I G e1 e2 e3 e4 fun j hj hq=>(e5 j hj (QA hj hq)).trans (dH hj)
   ·refine(?_:up σ.tp i _ i=⟨_,_,some (up σ.cm i (σ.num+1) i),_,(up σ.tp i _ i).ins⟩)
    (refine bB.symm▸?_;refine bB.symm▸?_;with_reducible rfl)
   ·replace hk:=(Dw hm)▸hk
    rcases bF.mp hk with rfl|hk
    ·haveI hj:j∈uq σ.qg "wait" (σ.qg "wait"++ [i]) "wait":=hj
     replace hj:=(u1)▸hj;exact aA.mp hj
    ·rw [aA.mp hk] at hj
     haveI hj:j∈uq σ.qg "wait" (σ.qg "wait"++ [i]) "come":=hj
     replace hj:=(u2)▸hj;exact aj (by cases hj)
  ·haveI Yt:c.wr i=true→σ.within= []:=fun hw=>by
    by_cases hm:c.iJ=2
    ·exact bS fun h=>hn ⟨if_pos hm,hw,h⟩
    ·exact f4 hm hw
   haveI A3:=aa {σ with gs:=k8 c σ i,line:=σ.line++ [i],lk:=some i,num:=σ.num+1,cm:=up σ.cm i (σ.num+1),tp:=up σ.tp i ⟨.ready,none,some (σ.num+1),none,true⟩} rfl rfl rfl rfl (fun j hj=>dH hj) (by refine(?_:(up σ.tp i _ i).ins=true);(refine bB.symm▸?_;with_reducible rfl))
   haveI L:=A3.Fe o rfl
   refine⟨⟨?_,f1,Yt⟩,fun iZ mI=>Wp.p (Wp.p ?_)⟩
   ·refine fz (congrArg (fun l=>(As (fun j=>decide (c.iJ=2)||(c.wr j==c.wr i)) l).take 1) L) ?_
    refine(?_:(As (fun j=>decide (c.iJ=2)||(c.wr j==c.wr i)) (lv σ++ [i])).take 1= [i])
    rw [jr,F1 (by simp)]
    by_cases hm:c.iJ=2
    ·refine(ah ((f3 hm).2))▸?_;rfl
    ·have:(lv σ).filter (fun j=>decide (c.iJ=2)||(c.wr j==c.wr i))= []:=by
      haveI e:=g.wf.od hm (c.wr i)
      rw [show gL c i=Cg (c.wr i) from if_neg hm] at f2
      rw [f2] at e
      refine(ah (decide_eq_false hm))▸?_
      simpa using e
     refine this.symm▸?_;rfl
   ·haveI e4:up (up σ.tp i ⟨.ready,none,some (σ.num+1),none,true⟩) i {st:= .ready,wake:=none,call:=none,oQ:=some "called",ins:=(up σ.tp i ⟨.ready,none,some (σ.num+1),none,true⟩ i).ins}=up σ.tp i ⟨.ready,none,none,some "called",true⟩:=by(refine zr.symm▸?_;refine bB.symm▸?_;with_reducible rfl)
    haveI R4:Inv c {σ with gs:=k8 c σ i,line:=lG i (σ.line++ [i]),within:=σ.within++ [i],lk:=some i,num:=σ.num+1,cm:=up σ.cm i (σ.num+1),tp:=up σ.tp i ⟨.ready,none,none,some "called",true⟩} iZ:=e4▸mI
    refine wu R4 (Wf.Vx g o (aa _ rfl rfl rfl rfl (fun j hj=>dH hj) (by refine(?_:(up σ.tp i _ i).ins=true);(refine bB.symm▸?_;with_reducible rfl))) hi (Ni o.line) rfl rfl f1 Yt uA ?_) hi rfl (.inr rfl) Fh fun H' aY I G e1 e2 e3 e4 e5=>z H' aY I G e1 e2 e3 e4 fun j hj hq=>(e5 j hj hq).trans (dH hj)
    refine(?_:up σ.tp i _ i=⟨_,_,_,_,(up σ.tp i _ i).ins⟩)
    (refine bB.symm▸?_;with_reducible rfl)
 |false=>
  refine Wp.cF ?_
  repeat (with_reducible refine Wp.b ?_)
  refine Wp.itemF a rfl ?_
  repeat (with_reducible refine Wp.b ?_)
  refine Wp.itemF a rfl ?_
  repeat (with_reducible refine Wp.b ?_)
  refine Wp.lst (by kernel_rfl) ?_
  repeat (with_reducible refine Wp.b ?_)
  refine Wp.itemF (QX.gu i hi) (u:=(c.pat i).v) rfl ?_
  repeat (with_reducible refine Wp.p ?_)
  induction hc:(c.pat i).cond with
  |true=>
   haveI Sz:c.pat i= .sW:=by
    induction h:c.pat i with
    |sW=>rfl
    |none=>rw [h] at hc;exact ft hc
    |num _=>rw [h] at hc;exact ft hc
   refine Fs QX hi Sz fun dg dp=>Wp.p (Wp.p ?_)
   haveI e4:up (up σ.tp i ⟨.ready,none,none,none,true⟩) i {up σ.tp i ⟨.ready,none,none,none,true⟩ i with call:=none,oQ:=some "refused"}=up σ.tp i ⟨.ready,none,none,some "refused",true⟩:=by(refine zr.symm▸?_;refine bB.symm▸?_;with_reducible rfl)
   haveI R4:Inv c {σ with gs:=k8 c σ i,line:=σ.line++ [i],lk:=some i,num:=σ.num+1,tp:=up σ.tp i ⟨.ready,none,none,some "refused",true⟩} dg:=e4▸dp
   refine wu R4 (tl:= [i]) (Wf.Vy g o ⟨rfl,rfl,fun j hj=>dH hj,fun j hj=>dH hj,fun _ _=>rfl,(by refine(?_:(up σ.tp i _ i).ins=true);(refine bB.symm▸?_;with_reducible rfl)),Wi⟩ hi rfl rfl rfl hc uA Ua ?_) hi rfl (.inl ⟨hc,rfl⟩) Fh fun H' aY I G e1 e2 e3 e4 e5=>z H' aY I G e1 e2 e3 e4 fun j hj hq=>(e5 j hj hq).trans (dH hj)
   refine(?_:up σ.tp i _ i=⟨_,_,_,_,(up σ.tp i _ i).ins⟩)
   (refine bB.symm▸?_;with_reducible rfl)
  |false=>
   refine Dx QX hi hc uC Wx Ua fun dg dp=>Wp.p (Wp.p ?_)
   haveI e4:up (up σ.tp i ⟨.ready,none,none,none,true⟩) i {up σ.tp i ⟨.ready,none,none,none,true⟩ i with st:= .eC,wake:=(c.pat i).CH σ.now,call:=some (σ.num+1),oQ:=none}=up σ.tp i ⟨.eC,(c.pat i).CH σ.now,some (σ.num+1),none,true⟩:=by(refine zr.symm▸?_;refine bB.symm▸?_;with_reducible rfl)
   haveI R4:Inv c {σ with gs:=k8 c σ i,line:=σ.line++ [i],lk:=some i,num:=σ.num+1,cm:=up σ.cm i (σ.num+1),tp:=up σ.tp i ⟨.eC,(c.pat i).CH σ.now,some (σ.num+1),none,true⟩,qg:=uq σ.qg (gL c i) (σ.qg (gL c i)++ [i])} dg:=e4▸dp
   refine wu R4 (Wf.Vz g o ⟨rfl,rfl,fun j hj=>dH hj,fun j hj=>dH hj,fun j hj=>dH hj,(by refine(?_:(up σ.tp i _ i).ins=true);(refine bB.symm▸?_;with_reducible rfl)),Wi⟩ hi rfl rfl rfl hc uA X7 ?_) hi rfl (.inr rfl) (fun k hk j hj Ol=>?_) fun H' aY I G e1 e2 e3 e4 e5=>z H' aY I G e1 e2 e3 e4 fun j hj hq=>(e5 j hj (QA hj hq)).trans (dH hj)
   ·refine(?_:up σ.tp i _ i=⟨_,(c.pat i).CH (k8 c σ i i).since,some (up σ.cm i (σ.num+1) i),_,(up σ.tp i _ i).ins⟩)
    (refine bB.symm▸?_;refine bB.symm▸?_;refine Ua.symm▸?_;with_reducible rfl)
   ·haveI hj:j∈(if k=gL c i then σ.qg (gL c i)++ [i] else σ.qg k):=hj
    split at hj
    ·rename_i e
     rcases eH.mp hj with h|h
     ·exact Fh _ uC j h Ol
     ·exact aA.mp h
    ·exact Fh k hk j hj Ol
theorem uJ(R:Inv c σ H)(hi:i<c.n)(hq:∀k∈c.ks,i∉σ.qg k){Q:Unit→Hp→Prop}(e:jB (qk c i (σ.gs i)) f v=qk c i g')(q:∀H',Inv c {σ with gs:=up σ.gs i g'} H'→Q () H'):Wp (Internal.b0 (.ref (c.ga i)) f v) H Q:=by
 refine Wp.b0 (R.gu i hi) e (by kernel_rfl) (q _ ?_)
 haveI s:cZ (fun y=>y=c.ga i) H (H.set (c.ga i) (.aU (qk c i g'))):=dm rfl (R.fr.old (R.gu i hi))
 haveI s':fi bR H (H.set (c.ga i) (.aU (qk c i g'))):=s.mono fun y=>bE (R.ok.ga i hi) rfl
 refine qj (R.rm) fun ln wi a t1 t2 gl gw=>?_
 refine {rm:=⟨ln,wi,s.get (fun e=>R.ok.gr i hi e.symm) (R.fr.old a) a,t1,t2,s'.get R.fr t1 rfl gl,s'.get R.fr t2 rfl gw⟩,gu:=fun j hj=>?_,ca:=fun k hk j hj=>?_}
 ·refine(?_:_=some (ib.aU (qk c j (if j=i then g' else σ.gs j))))
  by_cases hM:j=i
  ·apply sb hM;refine(ah (if_pos rfl))▸?_;exact au
  ·refine(ah (if_neg hM))▸?_
   exact s.get (fun e=>hM (R.ok.gi j hj i hi e)) (R.fr.old (R.gu j hj)) (R.gu j hj)
 ·haveI hM:j≠i:=fun e=>hq k hk (e▸hj)
  have:=R.SH s' rfl k hk j hj
  unfold kx at this ⊢
  refine this.symm▸?_
  refine(?_:_=some (ib.inst 31 (cN ⟨_,_,_,_,_,_,(c.pat j).dl (if j=i then g' else σ.gs j).since,_,_,_⟩)))
  (refine(ah (if_neg hM))▸?_;with_reducible rfl)
theorem Wf.chg(w:Wf c σ [])(hg:∀j,j≠i→zD j=σ.gs j)(ht:∀j,j≠i→uL j=σ.tp j)(CN:(uL i).ins=(σ.tp i).ins)(hd:(zD i).jG=(σ.gs i).jG∨i∉σ.line)(hp:∃p,ok (c.pat i) (view c {σ with gs:=zD,tp:=uL} [] i) p):Wf c {σ with gs:=zD,tp:=uL} []:=by
 have L:lv {σ with gs:=zD,tp:=uL}=lv σ:=cW fun j hj=>by
  (refine oA.symm▸?_;refine oA.symm▸?_)
  refine(?_:isLive (zD j) σ.now=_)
  by_cases h:j=i
  ·subst h
   unfold isLive
   (refine(ah (hd.resolve_right fun h=>h hj))▸?_;with_reducible rfl)
  ·(refine(ah (hg j h))▸?_;with_reducible rfl)
 refine⟨fun j hj=>?_,fun j hj=>?_,fun hm b=>by refine L.symm▸?_;exact w.od hm b,fun hm=>by refine L.symm▸?_;exact w.o2 hm,w.wit,w.sW,w.tq⟩
 ·by_cases h:j=i
  ·refine h.symm▸?_;exact hp
  ·refine dh (w.ph j hj) fun p x=>?_
   exact mK p (xo x (ht j h) (hg j h) rfl Iff.rfl Iff.rfl (fun _ _=>Iff.rfl) Iff.rfl rfl)
 ·refine(?_:(uL j).ins=_)
  by_cases h:j=i
  ·subst h;refine CN.symm▸?_;exact w.ins j hj
  ·refine(ah (ht j h))▸?_;exact w.ins j hj
theorem Good.chg(g:Good c σ)(hg:∀j,j≠i→zD j=σ.gs j)(ht:∀j,j≠i→uL j=σ.tp j)(CN:(uL i).ins=(σ.tp i).ins)(hd:(zD i).jG=(σ.gs i).jG∨i∉σ.line)(hp:∃p,ok (c.pat i) (view c {σ with gs:=zD,tp:=uL} [] i) p):Good c {σ with gs:=zD,tp:=uL}:=
 ⟨g.wf.chg hg ht CN hd hp,⟨g.set.ik,g.set.jK⟩,g.lk⟩
noncomputable def dead:Ep→Bool
 | .ju=>true
 | .done=>true
 |_=>false
def pm(p:TP)(g:GS):Nat:=if dead p.st=true then 0 else(6-g.bc).toNat
theorem QC:pm p g≤(6-g.bc).toNat:=by unfold pm;split<;>omega
structure OC(c:Cf)(σ aY:St)(i:Nat):Prop where
 dN:aY.dN=σ.dN
 steps:aY.steps=σ.steps
 gs:∀j,j≠i→aY.gs j=σ.gs j
 tp:∀j,j≠i→(∀k∈c.ks,j∉σ.qg k)→aY.tp j=σ.tp j
 pm:pm (aY.tp i) (aY.gs i)<Internal.pm (σ.tp i) (σ.gs i)
theorem K5(g:Good c σ)(hi:i<c.n)(hg:∀j,j≠i→zD j=σ.gs j)(uA:(zD i).bc=4)(ht:σ.tp i=⟨.ready,none,none,none,(σ.tp i).ins⟩)(hl:i∉σ.line)(hw:i∈σ.within)(hq:∀k∈c.ks,i∉σ.qg k)(R:Inv c {σ with gs:=zD} H)
  (z:∀H' aY,Inv c aY H'→Good c aY→aY.gs=zD→aY.now=σ.now→aY.dN=σ.dN→aY.steps=σ.steps→(∀j,j≠i→(∀k∈c.ks,j∉σ.qg k)→aY.tp j=σ.tp j)→Q .none H'):Wp (lQ [.ref c.rm,.ref (tA i),iV i]) H Q:=by
 have CN:(σ.tp i).ins=false:=by(refine(ah (g.wf.ins i hi))▸?_;refine g.lk.symm▸?_);rfl
 refine eY (R.rm) fun ln wi a _=>?_
 refine Wp.f rfl ?_
 unfold vi
 refine Wp.b4 (Wp.itemF a rfl (Wp.p (yO R hi g.lk CN fun aG aD=>Wp.p ?_)))
 refine Wp.b (AS (i:=i) aD fun bh bf s2=>?_)
 haveI e2:({σ.tp i with oQ:=none,ins:=true}:TP)=⟨.ready,none,none,none,true⟩:=by(refine ht.symm▸?_;with_reducible rfl)
 haveI R2:Inv c {σ with gs:=zD,within:=lG i σ.within,lk:=some i,tp:=up σ.tp i ⟨.ready,none,none,none,true⟩} bh:=e2▸bf
 clear bf aD e2
 haveI w:=g.wf
 have lvn:∀j∈σ.line,j≠i:=fun j hj e=>hl (e▸hj)
 have L:lv {σ with gs:=zD,within:=lG i σ.within,lk:=some i,tp:=up σ.tp i ⟨.ready,none,none,none,true⟩}=lv σ:=cW fun j hj=>by
  (refine oA.symm▸?_;refine oA.symm▸?_)
  refine(?_:isLive (zD j) σ.now=_)
  (refine(ah (hg j (lvn j hj)))▸?_;with_reducible rfl)
 have W2:Wf c {σ with gs:=zD,within:=lG i σ.within,lk:=some i,tp:=up σ.tp i ⟨.ready,none,none,none,true⟩} []:=by
  refine⟨fun j hj=>?_,fun j hj=>?_,fun hm b=>by refine L.symm▸?_;exact w.od hm b,fun hm=>by refine L.symm▸?_;exact w.o2 hm,fun x hx MG=>?_,w.sW,w.tq⟩
  ·by_cases h:j=i
   ·subst h
    refine⟨.left,?_,uA,decide_eq_false hl,decide_eq_false fun h=>(gM.mp h).2 rfl,?_⟩
    ·refine(?_:up σ.tp j _ j=⟨_,_,_,_,(up σ.tp j _ j).ins⟩)
     (refine bB.symm▸?_;with_reducible rfl)
    ·refine(?_:(decide (j∈σ.qg _)||decide (j∈σ.qg _))=false)
     rw [decide_eq_false (hq _ (by rw [lC];simp)),decide_eq_false (hq _ (by rw [lC];simp))];rfl
   ·refine dh (w.ph j hj) fun p x=>?_
    exact mK p (xo x (dH h) (hg j h) rfl Iff.rfl (m4 h) (fun _ _=>Iff.rfl) Iff.rfl rfl)
  ·refine(?_:(up σ.tp i _ j).ins=decide (some i=some j))
   by_cases h:j=i
   ·apply sb h;rw [bB];simp
   ·rw [dH h,w.ins j hj,g.lk];simp [bM h]
  ·have hx:x∈lG i σ.within:=hx
   refine cQ (gM.mp hx) fun h1 h2=>?_
   have:=w.wit x h1 MG
   rw [this] at hw
   exact absurd (aA.mp hw).symm h2
 refine Wp.b2 (FF R2 W2 fun dg zt Sl dp UO fw xF=>Wp.p ?_)
 refine eY (dp.rm) fun ln wi a _=>?_
 have RB:zt.lk=some i:=xF.lk
 refine Wp.b4 (Wp.itemF a rfl (Wp.p (wR dp hi RB (by rw [UO.ins i hi,RB];simp) fun iZ mI=>Wp.p (Wp.p ?_))))
 have t0:Sl= []:=by
  rcases xF.tl with e|⟨j,e,hc,k,hk,hj⟩
  ·exact e
  ·haveI hj:j∈σ.qg k:=hj
   rw [g.set.jK k hk j hj] at hc;exact ft hc
 subst t0
 exact z iZ _ mI ⟨UO.free RB,⟨fw.ik,fw.jK⟩,rfl⟩ xF.gs xF.now xF.dN xF.steps fun j hj hqj=>(dH hj).trans ((xF.tp j hqj).trans (dH hj))
theorem A8:∀l:List Nat,intsOf (nU l)=some (l.map iO)
 | []=>rfl
 |a::l=>by show(intsOf (nU l)).map _=_;rw [A8 l];rfl
theorem JC(i:Nat):∀l:List Nat,((l.map iO).any fun x=>x==(i:Int))=decide (i∈l)
 | []=>rfl
 |a::l=>by
  rw [bw,FW,JC i l]
  show(((a:Int)==(i:Int))||_)=_
  have:=Ah a i
  by_cases h:a=i
  ·apply sb h;simp
  ·rw [decide_eq_true h] at this
   refine(ah (show((a:Int)==(i:Int))=false from by simpa using this))▸?_
   simp [bM h]
theorem Wp.Vd{Q:Bool→Hp→Prop}(h:H.get x=some (.list (nU l)))(z:Q (decide (i∈l)) H):Wp (FZ (iV i) (.ref x)) H Q:=by
 refine ie (decide (i∈l)) H ?_ z
 have h1:listOf H (.ref x)=some (nU l):=by refine(?_:(match H.get x with|some (.list vs)=>some vs|_=>none)=_);(refine h.symm▸?_;with_reducible rfl)
 unfold FZ
 refine h1.symm▸?_
 induction l with
 |nil=>rfl
 |cons a l=>
  refine(?_:(match iV i,intsOf (nU (a::l)) with| .int k,some is=>some (is.any (· ==k),H)|_,_=>none)=_)
  rw [A8]
  refine(?_:some ((((a::l).map iO).any fun x=>x==(i:Int)),H)=_)
  rw [JC]
def nA(ak ao bD cB dx aM:V):M Fl:=
 ((testM .And [((itemF aM .bc).d fun a=>(aX .Eq a (.int 1))),((itemF aM .rest).d fun a=>(aX .Gt a (.int 0)))]).d fun c=>(bif c then(((((((itemF aM .rest).d fun v=>(pU [v])).d fun vs=>(pU (ao::vs))).d fun vs=>(pU (cB::vs))).d fun vs=>(iL vs)).d fun _=>pU ()).d fun _=>nX) else(((itemF aM .bc).d fun a=>(aX .Lt a (.int 3))).d fun c=>(bif c then((b0 aM .bc (.int 2)).d fun _=>((b0 aM .since dx).d fun _=>(((itemF aM .bZ).d fun a=>(aX .IsNot a .none)).d fun c=>(bif c then((((((itemF aM .bZ).d fun a=>(aX .Eq a (.str "else"))).d fun c=>bif c then(pU (.int 1)) else(itemF aM .bZ)).d fun b=>(j4 .Add dx b)).d fun u=>(b0 aM .jG u)).d fun _=>nX) else nX).cy (fun _=>(((jt [ak,ao,bD]).d fun _=>pU ()).d fun _=>nX))))) else((testM .And [((itemF aM .bc).d fun a=>(aX .Eq a (.int 3))),((aE ao .answer).d fun a=>((iE [(.str "called")]).d fun b=>(aX .Eq a b)))]).d fun c=>(bif c then(((((((itemF aM .gO).d fun v=>(pU [v])).d fun vs=>(pU (ao::vs))).d fun vs=>(pU (cB::vs))).d fun vs=>(iL vs)).d fun _=>pU ()).d fun _=>((mL .And [((itemF ak .within).d fun b=>((FZ bD b).d fun c=>pU (.bool c))),((itemF ak .line).d fun b=>((FZ bD b).d fun c=>pU (.bool (!c))))]).d fun v=>(pU (.ret v)))) else(((itemF aM .bc).d fun a=>(aX .Eq a (.int 4))).d fun c=>(bif c then(((lQ [ak,ao,bD]).d fun _=>pU ()).d fun _=>nX) else(((i3 [ao]).d fun _=>pU ()).d fun _=>((mL .Or [((itemF aM .bc).d fun a=>((aX .Eq a (.int 5)).d fun c=>pU (.bool c))),(((((((itemF aM .since).d fun b=>(j4 .Sub dx b)).d fun v=>(pU [v])).d fun vs=>(pU (bD::vs))).d fun vs=>(pU (ao::vs))).d fun vs=>(pU (ak::vs))).d fun vs=>(fR vs))]).d fun v=>(pU (.ret v))))).cy (fun _=>nX))).cy (fun _=>nX))).cy (fun _=>nX))).cy (fun _=>(pU (.ret (.bool true)))))
theorem FK{Q:Bool→Hp→Prop}(h1:(small (.tuple [.str a])&&small (.tuple [.str b]))=true)(h2:PyData.eqv (.tuple [.str a]) (.tuple [.str b])=r)(z:Q r H):Wp (aX .Eq (.tup [.str a]) (.tup [.str b])) H Q:=
 Wp.eq (d:= .tuple [.str a]) (e:= .tuple [.str b]) rfl rfl h1 h2 z
theorem H8(R:Inv c σ H)(hi:i<c.n)(ha:(σ.tp i).oQ=some a)(h1:(small (.tuple [.str a])&&small (.tuple [.str b]))=true)(h2:PyData.eqv (.tuple [.str a]) (.tuple [.str b])=r){Q:Bool→Hp→Prop}(z:Q r H):
  Wp ((Internal.aE (.ref (tA i)) .answer).d fun a=>((iE [.str b]).d fun b=>(aX .Eq a b))) H Q:=by
 refine Wp.b (Wp.aE (R.ts i hi) uo (Wp.b (Wp.tup (by kernel_rfl) ?_)))
 refine(?_:Wp (aX .Eq (PF (σ.tp i).oQ) _) H Q)
 refine ha.symm▸?_
 exact FK h1 h2 z
theorem EP(R:Inv c σ H)(hi:i<c.n)(hp:c.pat i= .sW)(RC:i∉σ.within)(ha:(σ.tp i).oQ=some ("refused":Str))(z:Q (.bool true) H):Wp (fR [.ref c.rm,.ref (tA i),iV i,.int 0]) H Q:=by
 refine qj (R.rm) fun ln wi a t1 t2 gl gw=>?_
 refine Wp.f rfl ?_
 unfold rR
 refine Wp.b3 (yG R (qG R hi (Wp.itemF (R.gu i hi) (u:=(c.pat i).v) rfl ?_)))
 refine hp.symm▸?_
 refine Wp.b (Wp.yA (Wp.is ⟨rfl,Wp.b (Wp.itemF a rfl (Wp.Vd gw ?_))⟩))
 refine(ah (decide_eq_false RC))▸?_
 refine Wp.cy (Wp.p (Wp.b (uy (p:= .sW) (Wp.cy (Wp.b3 (Wp.aE (R.ts i hi) uo (Wp.b (Wp.tup (by kernel_rfl) (Wp.b ?_)))))))))
 refine(?_:Wp (aX .Eq (PF (σ.tp i).oQ) _) H _)
 refine ha.symm▸?_
 refine FK (by kernel_rfl) (r:=true) (by kernel_rfl) (Wp.p (Wp.b ⟨true,H,rfl,?_⟩))
 refine(?_:Wp ((aX .Eq (.int 0) (.int 0)).d fun c=>pU (V.bool c)) H _)
 refine Wp.b (Wp.JO ?_)
 exact Wp.p (Wp.p z)
theorem ER(R:Inv c σ H)(hi:i<c.n){k:Int}(hp:c.pat i= .num k)(RC:i∉σ.within)(ha:(σ.tp i).oQ=some ("late":Str))(z:∀H',Inv c {σ with line:=lG i σ.line} H'→Q (.bool true) H'):Wp (fR [.ref c.rm,.ref (tA i),iV i,.int k]) H Q:=by
 refine qj (R.rm) fun ln wi a t1 t2 gl gw=>?_
 refine Wp.f rfl ?_
 unfold rR
 refine Wp.b3 (yG R (qG R hi (Wp.itemF (R.gu i hi) (u:=(c.pat i).v) rfl ?_)))
 refine hp.symm▸?_
 refine Wp.b (Wp.yA (Wp.is ⟨rfl,Wp.b (Wp.itemF a rfl (Wp.Vd gw ?_))⟩))
 refine(ah (decide_eq_false RC))▸?_
 refine Wp.cy (Wp.p (Wp.b (uy (p:= .num k) (Wp.cy (Wp.p (Wp.b (rG (i:=i) R fun aG aD s1=>Wp.b3 (Wp.aE (aD.ts i hi) uo (Wp.b (Wp.tup (by kernel_rfl) (Wp.b ?_)))))))))))
 refine(?_:Wp (aX .Eq (PF (σ.tp i).oQ) _) aG _)
 refine ha.symm▸?_
 refine FK (by kernel_rfl) (r:=true) (by kernel_rfl) (Wp.p (Wp.b ⟨true,aG,rfl,?_⟩))
 refine(?_:Wp ((aX .Eq (.int k) (.int k)).d fun c=>pU (V.bool c)) aG _)
 refine Wp.b (Wp.JO ?_)
 rw [beq_self_eq_true]
 exact Wp.p (Wp.p (z aG aD))
theorem o9(R:Inv c σ H)(hi:i<c.n)(hq:∀k∈c.ks,i∉σ.qg k)(z:∀H',Inv c {σ with gs:=up σ.gs i ⟨(σ.gs i).bc+1,(σ.gs i).since,(σ.gs i).jG⟩} H'→Wp (nA (.ref c.rm) (.ref (tA i)) (iV i) (.ref ff) (.int σ.now) (.ref (c.ga i))) H' fun r H'=>Q (match r with| .ret v=>v| .next _=> .none) H'):
  Wp (j5 [.ref c.rm,.ref (tA i),iV i]) H Q:=by
 refine eY (R.rm) fun ln wi a _=>?_
 refine Wp.f rfl ?_
 unfold y5
 refine Wp.b (Wp.itemF a rfl (Wp.b2 (Wp.aE R.tk.choose_spec.choose_spec.1 ur (Wp.aE R.ck AA (Wp.b2 (yG R (qG R hi ?_)))))))
 refine Wp.b2 (Wp.itemF (R.gu i hi) (u:= .int (σ.gs i).bc) rfl (Wp.b ⟨.int ((σ.gs i).bc+1),H,rfl,?_⟩))
 refine uJ R hi hq (g':=⟨(σ.gs i).bc+1,(σ.gs i).since,(σ.gs i).jG⟩) rfl fun aG aD=>?_
 exact Wp.b2 (Wp.aE (aD.ts i hi) Hi (Wp.jH (Wp.cy (Wp.p (z aG aD)))))
end
section
variable {c:Cf}{σ aY:St}{H:Hp}{i:Nat}{k k' iS:Str}{tl:List Nat}{Q:Fl→Hp→Prop}
abbrev gR(c:Cf)(σ:St)(i:Nat):M Fl:=nA (.ref c.rm) (.ref (tA i)) (iV i) (.ref ff) (.int σ.now) (.ref (c.ga i))
theorem jV(R:Inv c σ H)(hi:i<c.n)(hs:(σ.gs i).bc=s){Q:Bool→Hp→Prop}(z:Q (s==t) H):Wp ((Internal.itemF (.ref (c.ga i)) .bc).d fun a=>(aX .Eq a (.int t))) H Q:=
 Wp.b (Wp.itemF (R.gu i hi) (u:= .int (σ.gs i).bc) rfl (by refine hs.symm▸?_;exact Wp.JO z))
theorem um(R:Inv c σ H)(hi:i<c.n)(hs:(σ.gs i).bc=s)(e:decide (s<3)=b){Q:Bool→Hp→Prop}(z:Q b H):Wp ((Internal.itemF (.ref (c.ga i)) .bc).d fun a=>(aX .Lt a (.int 3))) H Q:=
 Wp.b (Wp.itemF (R.gu i hi) (u:= .int (σ.gs i).bc) rfl (by refine hs.symm▸?_;exact ie (decide (s<3)) H rfl (e▸z)))
theorem Iu(R:Inv c σ H)(hi:i<c.n)(hs:(σ.gs i).bc=1)(hr:0<c.rest i)(hp:(σ.tp i).ins=false)(z:∀H',Inv c {σ with tp:=up σ.tp i {σ.tp i with st:= .delayed,wake:=some (σ.now+c.rest i),oQ:=none}} H'→Q (.ret (.bool true)) H'):Wp (gR c σ i) H Q:=by
 unfold gR nA
 refine Wp.b (Wp.lz (jV R hi hs ⟨rfl,Wp.b (Wp.itemF (R.gu i hi) (u:= .int (c.rest i)) rfl ⟨decide (0<c.rest i),H,rfl,?_⟩)⟩))
 refine(ah (decide_eq_true hr))▸?_
 refine Wp.cy (Wp.cT (Wp.b6 (Wp.itemF (R.gu i hi) (u:= .int (c.rest i)) rfl (Wp.p (Wp.p (Wp.p ?_))))))
 exact Gu R hi ‹_› hp fun H' R'=>Wp.p (Wp.p (Wp.p (z H' R')))
abbrev O2(ak ao bD dx aM:V):M Fl:=
 ((Internal.b0 aM .bc (.int 2)).d fun _=>((Internal.b0 aM .since dx).d fun _=>(((Internal.itemF aM .bZ).d fun a=>(aX .IsNot a .none)).d fun c=>(bif c then((((((Internal.itemF aM .bZ).d fun a=>(aX .Eq a (.str "else"))).d fun c=>bif c then(pU (.int 1)) else(Internal.itemF aM .bZ)).d fun b=>(j4 .Add dx b)).d fun u=>(Internal.b0 aM .jG u)).d fun _=>nX) else nX).cy (fun _=>(((jt [ak,ao,bD]).d fun _=>pU ()).d fun _=>nX)))))
theorem Kr(g:Good c σ)(o:Out c σ i)(hi:i<c.n)(hp:σ.tp i=⟨.ready,none,none,none,(σ.tp i).ins⟩)(R:Inv c {σ with gs:=up σ.gs i ⟨s,n,none⟩} H)
  (z:∀H' aY,Inv c aY H'→Good c aY→aY.gs=k8 c σ i→aY.now=σ.now→aY.dN=σ.dN→aY.steps=σ.steps→(∀j,j≠i→(∀k∈c.ks,j∉σ.qg k)→aY.tp j=σ.tp j)→Q (.next []) H'):Wp (O2 (.ref c.rm) (.ref (tA i)) (iV i) (.int σ.now) (.ref (c.ga i))) H Q:=by
 refine Wp.b (uJ R hi o.q (g':=⟨2,n,none⟩) (by refine(?_:jB (qk c i (up σ.gs i _ i)) _ _=_);refine bB.symm▸?_;rfl) fun aG aD=>Wp.b ?_)
 haveI R1:Inv c {σ with gs:=up σ.gs i ⟨2,n,none⟩} aG:=(zr (f:=σ.gs) (a:=⟨s,n,none⟩) (b:=⟨2,n,none⟩) (i:=i))▸aD
 refine uJ R1 hi o.q (g':=⟨2,σ.now,none⟩) (by refine(?_:jB (qk c i (up σ.gs i _ i)) _ _=_);refine bB.symm▸?_;rfl) fun bh bf=>Wp.b ?_
 have R2:Inv c {σ with gs:=up σ.gs i ⟨2,σ.now,none⟩} bh:=(zr (f:=σ.gs) (a:=⟨2,n,none⟩) (b:=⟨2,σ.now,none⟩) (i:=i))▸bf
 clear aD bf R1
 have fin:∀{dg},Inv c {σ with gs:=k8 c σ i} dg→Wp (((jt [.ref c.rm,.ref (tA i),iV i]).d fun _=>pU ()).d fun _=>(pU (Fl.next []))) dg Q:=fun dp=>
  Wp.b2 (Md g o hi hp dp fun H' aY a1 a2 a3 a4 a5 a6 a7=>Wp.p (Wp.p (z H' aY a1 a2 a3 a4 a5 a6 a7)))
 have pat:∀{Q:V→Hp→Prop},Q (c.pat i).v bh→Wp (Internal.itemF (.ref (c.ga i)) .bZ) bh Q:=fun z=>Wp.itemF (R2.gu i hi) rfl z
 have jG:∀{d:Int},tK (c.pat i) σ.now=some d→∀{Q':Unit→Hp→Prop},(∀dg,Inv c {σ with gs:=k8 c σ i} dg→Q' () dg)→Wp (Internal.b0 (.ref (c.ga i)) .jG (.int d)) bh Q':=fun {d} hd {Q'} z'=>by
  refine uJ R2 hi o.q (g':=⟨2,σ.now,some d⟩) (by refine(?_:jB (qk c i (up σ.gs i _ i)) _ _=_);refine bB.symm▸?_;rfl) fun dg dp=>z' dg ?_
  haveI e:up (up σ.gs i ⟨2,σ.now,none⟩) i ⟨2,σ.now,some d⟩=k8 c σ i:=by refine zr.symm▸?_;unfold k8;(refine hd.symm▸?_;with_reducible rfl)
  exact e▸dp
 induction KW:c.pat i with
 |none=>
  rw [KW] at pat
  refine Wp.b (pat (Wp.jH (Wp.cy (Wp.p ?_))))
  exact fin (show Inv c {σ with gs:=k8 c σ i} bh by unfold k8;refine KW.symm▸?_;exact R2)
 |sW=>
  rw [KW] at pat
  refine Wp.b (pat (Wp.jH (Wp.cy (Wp.b5 (pat (uy (p:= .sW) ?_))))))
  exact Wp.p ⟨.int (σ.now+1),bh,rfl,jG (by refine KW.symm▸?_;rfl) fun dg dp=>Wp.p (fin dp)⟩
 |num k=>
  rw [KW] at pat
  refine Wp.b (pat (Wp.jH (Wp.cy (Wp.b5 (pat (uy (p:= .num k) ?_))))))
  exact pat ⟨.int (σ.now+k),bh,rfl,jG (by refine KW.symm▸?_;rfl) fun dg dp=>Wp.p (fin dp)⟩
theorem yV(g:Good c σ)(o:Out c σ i)(hi:i<c.n)(hp:σ.tp i=⟨.ready,none,none,none,(σ.tp i).ins⟩)(R:Inv c {σ with gs:=up σ.gs i ⟨s,n,none⟩} H)(hs:s=1∧c.rest i=0∨s=2)
  (z:∀H' aY,Inv c aY H'→Good c aY→aY.gs=k8 c σ i→aY.now=σ.now→aY.dN=σ.dN→aY.steps=σ.steps→(∀j,j≠i→(∀k∈c.ks,j∉σ.qg k)→aY.tp j=σ.tp j)→Q (.ret (.bool true)) H'):Wp (gR c σ i) H Q:=by
 have uA:(up σ.gs i ⟨s,n,none⟩ i).bc=s:=by(refine bB.symm▸?_;with_reducible rfl)
 unfold gR nA
 haveI N1:∀{Q:Bool→Hp→Prop},Q false H→Wp (testM .And [((Internal.itemF (.ref (c.ga i)) .bc).d fun a=>(aX .Eq a (.int 1))),((Internal.itemF (.ref (c.ga i)) .rest).d fun a=>(aX .Gt a (.int 0)))]) H Q:=fun z=>by
  rcases hs with⟨rfl,hr⟩|rfl
  ·refine Wp.lz (jV R hi uA ⟨rfl,Wp.b (Wp.itemF (R.gu i hi) (u:= .int (c.rest i)) rfl ⟨decide (0<c.rest i),H,rfl,?_⟩)⟩)
   refine hr.symm▸?_;exact z
  ·exact Wp.jE (jV R hi uA ⟨rfl,z⟩)
 refine Wp.b (N1 (Wp.cy (Wp.cF (Wp.b (um R hi uA (b:=true) (by rcases hs with⟨rfl,_⟩|rfl<;>rfl) (Wp.cy (Wp.cT ?_)))))))
 exact Kr g o hi hp R fun H' aY a1 a2 a3 a4 a5 a6 a7=>Wp.p (Wp.p (z H' aY a1 a2 a3 a4 a5 a6 a7))
theorem uz(R:Inv c σ H)(hi:i<c.n)(hs:(σ.gs i).bc=s)(h3:s=3∨s=4∨s=5)(ha:(σ.tp i).oQ=a)
  (hb:s=3∧a=some ("called":Str)∧b=true∨s=3∧(a=some ("refused":Str)∨a=some ("late":Str))∧b=false∨s≠3∧b=false) (z:Q' b H):
  Wp (testM .And [((Internal.itemF (.ref (c.ga i)) .bc).d fun a=>(aX .Eq a (.int 3))),((Internal.aE (.ref (tA i)) .answer).d fun a=>((iE [(.str "called")]).d fun b=>(aX .Eq a b)))]) H Q':=by
 rcases hb with⟨rfl,rfl,rfl⟩|⟨rfl,h,rfl⟩|⟨h,rfl⟩
 ·exact Wp.lz (jV R hi hs ⟨rfl,H8 R hi ha (by kernel_rfl) (by kernel_rfl) z⟩)
 ·rcases h with rfl|rfl
  ·exact Wp.lz (jV R hi hs ⟨rfl,H8 R hi ha (by kernel_rfl) (by kernel_rfl) z⟩)
  ·exact Wp.lz (jV R hi hs ⟨rfl,H8 R hi ha (by kernel_rfl) (by kernel_rfl) z⟩)
 ·refine Wp.jE (jV R hi hs ⟨?_,z⟩)
  simpa using h
theorem rK(R:Inv c σ H)(hi:i<c.n)(hs:(σ.gs i).bc=s)(h3:s=3∨s=4∨s=5){Q:Bool→Hp→Prop}(z:Q false H):Wp (testM .And [((Internal.itemF (.ref (c.ga i)) .bc).d fun a=>(aX .Eq a (.int 1))),((Internal.itemF (.ref (c.ga i)) .rest).d fun a=>(aX .Gt a (.int 0)))]) H Q:=
 Wp.jE (jV R hi hs ⟨by rcases h3 with rfl|rfl|rfl<;>rfl,z⟩)
theorem KP(R:Inv c σ H)(hi:i<c.n)(hs:(σ.gs i).bc=3)(ha:(σ.tp i).oQ=some ("called":Str))(hp:(σ.tp i).ins=false)(hw:i∈σ.within)(hl:i∉σ.line)(z:∀H',Inv c {σ with tp:=up σ.tp i {σ.tp i with st:= .delayed,wake:=some (σ.now+c.gO i),oQ:=none}} H'→Q (.ret (.bool true)) H'):Wp (gR c σ i) H Q:=by
 unfold gR nA
 refine Wp.b (rK R hi hs (.inl rfl) (Wp.cy (Wp.cF (Wp.b (um R hi hs (b:=false) rfl (Wp.cy (Wp.cF (Wp.b (uz R hi hs (.inl rfl) ha (b:=true) (.inl ⟨rfl,rfl,rfl⟩) (Wp.cy (Wp.cT ?_)))))))))))
 refine Wp.b6 (Wp.itemF (R.gu i hi) (u:= .int (c.gO i)) rfl (Wp.p (Wp.p (Wp.p (Gu R hi (R.ok.gO i hi) hp fun H' R'=>Wp.p ?_)))))
 refine qj (R'.rm) fun ln wi a t1 t2 gl gw=>?_
 refine Wp.b3 (Wp.itemF a rfl (Wp.b (Wp.Vd gw (Wp.p (Wp.b ?_)))))
 haveI gl:H'.get ln=some (.list (nU σ.line)):=gl
 haveI hw:decide (i∈σ.within)=true:=decide_eq_true hw
 refine ie true H' (congrArg (fun b=>some (b,H')) hw) ?_
 refine(?_:Wp ((Internal.itemF (.ref c.rm) .line).d fun b=>((FZ (iV i) b).d fun c=>pU (V.bool (!c)))) H' _)
 refine Wp.b (Wp.itemF a rfl (Wp.b (Wp.Vd gl ?_)))
 refine(ah (decide_eq_false hl))▸?_
 exact Wp.p (Wp.p (z H' R'))
theorem Eg(R:Inv c σ H)(hi:i<c.n)(hs:(σ.gs i).bc=s){Q:V→Hp→Prop}(z:Q (.bool (s==t)) H):Wp ((Internal.itemF (.ref (c.ga i)) .bc).d fun a=>((aX .Eq a (.int t)).d fun c=>pU (.bool c))) H Q:=
 Wp.b (Wp.itemF (R.gu i hi) (u:= .int (σ.gs i).bc) rfl (by refine hs.symm▸?_;exact Wp.b (Wp.JO (Wp.p z))))
theorem Iv(g:Good c σ)(hi:i<c.n)(ht:σ.tp i=⟨.ready,none,none,none,(σ.tp i).ins⟩)(hl:i∉σ.line)(hw:i∈σ.within)(hq:∀k∈c.ks,i∉σ.qg k)(hg:∀j,j≠i→zD j=σ.gs j)(hs:(zD i).bc=4)(R:Inv c {σ with gs:=zD} H)
  (z:∀H' aY,Inv c aY H'→Good c aY→aY.gs=zD→aY.now=σ.now→aY.dN=σ.dN→aY.steps=σ.steps→(∀j,j≠i→(∀k∈c.ks,j∉σ.qg k)→aY.tp j=σ.tp j)→Q (.ret (.bool true)) H'):Wp (gR c σ i) H Q:=by
 unfold gR nA
 haveI ha:(σ.tp i).oQ=none:=by(refine ht.symm▸?_;with_reducible rfl)
 refine Wp.b (rK R hi hs (.inr (.inl rfl)) (Wp.cy (Wp.cF (Wp.b (um R hi hs (b:=false) rfl (Wp.cy (Wp.cF (Wp.b (uz R hi hs (.inr (.inl rfl)) ha (b:=false) (.inr (.inr ⟨by decide,rfl⟩)) (Wp.cy (Wp.cF ?_)))))))))))
 refine Wp.b (jV R hi hs (Wp.cy (Wp.cT ?_)))
 exact Wp.b2 (K5 g hi hg hs ht hl hw hq R fun H' aY a1 a2 a3 a4 a5 a6 a7=>Wp.p (Wp.p (Wp.p (Wp.p (Wp.p (Wp.p (z H' aY a1 a2 a3 a4 a5 a6 a7)))))))
abbrev Qf(σ:St)(i:Nat):Nat→TP:=up σ.tp i {σ.tp i with st:= .ju,wake:=none}
theorem KO(R:Inv c σ H)(hi:i<c.n)(hs:(σ.gs i).bc=5)(z:∀H',Inv c {σ with tp:=Qf σ i} H'→Q (.ret (.bool true)) H'):Wp (gR c σ i) H Q:=by
 unfold gR nA
 refine Wp.b (rK R hi hs (.inr (.inr rfl)) (Wp.cy (Wp.cF (Wp.b (um R hi hs (b:=false) rfl (Wp.cy (Wp.cF (Wp.b (uz R hi hs (.inr (.inr rfl)) rfl (b:=false) (.inr (.inr ⟨by decide,rfl⟩)) (Wp.cy (Wp.cF ?_)))))))))))
 refine Wp.b (jV R hi hs (Wp.cy (Wp.cF ?_)))
 refine Wp.b2 (yS R hi fun H' R'=>Wp.p ?_)
 exact Wp.b2 (Eg R' hi hs (Wp.b ⟨true,H',rfl,Wp.p (Wp.p (z H' R'))⟩))
theorem DW(R:Inv c σ H)(hi:i<c.n)(hs:(σ.gs i).bc=3)(ha:(σ.tp i).oQ=some ("refused":Str)∨(σ.tp i).oQ=some ("late":Str))(z:∀H',Inv c {σ with tp:=Qf σ i} H'→Wp (fR [.ref c.rm,.ref (tA i),iV i,.int (σ.now-(σ.gs i).since)]) H' fun v iw=>Q (.ret v) iw):Wp (gR c σ i) H Q:=by
 unfold gR nA
 refine Wp.b (rK R hi hs (.inl rfl) (Wp.cy (Wp.cF (Wp.b (um R hi hs (b:=false) rfl (Wp.cy (Wp.cF (Wp.b (uz R hi hs (.inl rfl) rfl (b:=false) (.inr (.inl ⟨rfl,ha,rfl⟩)) (Wp.cy (Wp.cF ?_)))))))))))
 refine Wp.b (jV R hi hs (Wp.cy (Wp.cF ?_)))
 refine Wp.b2 (yS R hi fun H' R'=>Wp.p ?_)
 refine Wp.b2 (Eg R' hi hs (Wp.b ⟨false,H',rfl,?_⟩))
 refine(?_:Wp (((((((Internal.itemF (.ref (c.ga i)) .since).d fun b=>(j4 .Sub (.int σ.now) b)).d fun v=>(pU [v])).d fun vs=>(pU (iV i::vs))).d fun vs=>(pU (.ref (tA i)::vs))).d fun vs=>(pU (.ref c.rm::vs))).d fun vs=>(fR vs)) H' _)
 refine Wp.b6 (Wp.itemF (R'.gu i hi) (u:= .int (σ.gs i).since) rfl ⟨.int (σ.now-(σ.gs i).since),H',rfl,Wp.p (Wp.p (Wp.p (Wp.p ?_)))⟩)
 exact(z H' R').mono fun v iw q=>Wp.p q
theorem PD(h:(decide (i∈σ.qg c.e1)||decide (i∈σ.qg c.e2))=false):∀k∈c.ks,i∉σ.qg k:=fun k hk hi=>by
 rw [lC] at hk
 rw [Jx,decide_eq_false_iff_not,decide_eq_false_iff_not] at h
 rcases bF.mp hk with rfl|hk
 ·exact h.1 hi
 ·replace hi:=(aA.mp hk)▸hi;exact h.2 hi
theorem G4(hd:dead p.st=false)(hs:g.bc<g'.bc)(h5:g.bc≤5):pm p' g'<pm p g:=by
 have:=QC (p:=p') (g:=g')
 haveI e:pm p g=(6-g.bc).toNat:=by unfold pm;(refine hd.symm▸?_;refine(ah (if_neg aw))▸?_;with_reducible rfl)
 lia
theorem Fp(hd:dead p.st=false)(U1:dead p'.st=true)(h5:g.bc≤5):pm p' g'<pm p g:=by
 have e:pm p g=(6-g.bc).toNat:=by unfold pm;(refine hd.symm▸?_;refine(ah (if_neg aw))▸?_;with_reducible rfl)
 have e':pm p' g'=0:=by unfold pm;(refine U1.symm▸?_;refine(ah (if_pos rfl))▸?_;with_reducible rfl)
 lia
theorem O3{Q:V→Hp→Prop}(g:Good c σ)(R:Inv c σ H)(hi:i<c.n)(hr:(σ.tp i).st= .ready)(z:∀H' aY,Inv c aY H'→Good c aY→OC c σ aY i→Q (.bool true) H'):Wp (j5 [.ref c.rm,.ref (tA i),iV i]) H Q:=by
 refine dh (g.wf.ph i hi) fun p h=>?_
 haveI CN:(σ.tp i).ins=false:=by(refine(ah (g.wf.ins i hi))▸?_;refine g.lk.symm▸?_);rfl
 haveI hd:dead (σ.tp i).st=false:=by refine hr.symm▸?_;rfl
 haveI nV:∀{a1 a2 a3 a4 a5},σ.tp i=⟨a1,a2,a3,a4,a5⟩→a1= .ready:=fun h=>by replace hr:=(h)▸hr;exact hr
 haveI one:∀{zD:Nat→GS} {uL:Nat→TP},(∀j,j≠i→zD j=σ.gs j)→(∀j,j≠i→uL j=σ.tp j)→pm (uL i) (zD i)<pm (σ.tp i) (σ.gs i)→OC c σ {σ with gs:=zD,tp:=uL} i:=fun h1 h2 h3=>⟨rfl,rfl,h1,fun j hj _=>h2 j hj,h3⟩
 induction p with
 |wait=>cases nV h.1
 |rest _=>cases nV h.1
 |gO _=>cases nV h.1
 |comp=>haveI h:=h.1;(replace h:=(show(view c σ [] i).tp.st=(σ.tp i).st from rfl)▸h;replace h:=(hr)▸h);exact aj (by cases h)
 |done=>haveI h:=h.1;(replace h:=(show(view c σ [] i).tp.st=(σ.tp i).st from rfl)▸h;replace h:=(hr)▸h);exact aj (by cases h)
 |new=>
  refine Mk (h) fun h1 h2 h3 h4 h5 h6=>?_
  haveI h1:σ.tp i=⟨.ready,none,none,none,(σ.tp i).ins⟩:=h1
  haveI h2:(σ.gs i).bc=0:=h2
  haveI h3:(σ.gs i).jG=none:=h3
  haveI o:Out c σ i:=⟨of_decide_eq_false h4,of_decide_eq_false h5,PD h6⟩
  refine o9 R hi o.q fun aG aD=>?_
  haveI R1:Inv c {σ with gs:=up σ.gs i ⟨1,(σ.gs i).since,none⟩} aG:=by(replace aD:=(h2)▸aD;replace aD:=(h3)▸aD);exact aD
  haveI e1:up σ.gs i ⟨1,(σ.gs i).since,none⟩ i=⟨1,(σ.gs i).since,none⟩:=bB
  haveI uA:(up σ.gs i ⟨1,(σ.gs i).since,none⟩ i).bc=1:=by rw [e1]
  by_cases hre:0<c.rest i
  ·refine Iu (σ:={σ with gs:=up σ.gs i ⟨1,(σ.gs i).since,none⟩}) R1 hi uA hre CN fun bh bf=>z bh _ bf (g.chg (fun j hj=>dH hj) (fun j hj=>dH hj) ?_ (.inr o.line) ⟨.rest (σ.now+c.rest i),?_,?_,?_,h4,h5,h6,?_⟩) (one (fun j hj=>dH hj) (fun j hj=>dH hj) ?_)
   ·refine(?_:(up σ.tp i _ i).ins=_);rw [bB]
   ·refine(?_:up σ.tp i _ i=⟨_,_,_,_,(up σ.tp i _ i).ins⟩)
    rw [bB]
    refine(?_:TP.mk _ _ (σ.tp i).call _ _=_)
    rw [h1]
   ·exact uA
   ·refine(?_:(up σ.gs i _ i).jG=none)
    rw [bB]
   ·refine(?_:σ.now<σ.now+c.rest i);lia
   ·exact G4 hd (by refine(?_:(σ.gs i).bc<(up σ.gs i _ i).bc);rw [uA,h2];decide) (by rw [h2];decide)
  ·haveI Wz:c.rest i=0:=by have:=R.ok.rest i hi;lia
   refine yV g o hi h1 R1 (.inl ⟨rfl,Wz⟩) fun H' aY a1 a2 a3 a4 a5 a6 a7=>z H' aY a1 a2 ⟨a5,a6,fun j hj=>by rw [a3];exact dH hj,a7,?_⟩
   rw [a3];unfold k8;rw [bB];exact G4 hd (by rw [h2];refine(?_:(0:Int)<2);decide) (by rw [h2];decide)
 |lq=>
  refine Mk (h) fun h1 h2 h3 h4 h5 h6=>?_
  haveI h1:σ.tp i=⟨.ready,none,none,none,(σ.tp i).ins⟩:=h1
  haveI h2:(σ.gs i).bc=1:=h2
  haveI h3:(σ.gs i).jG=none:=h3
  haveI o:Out c σ i:=⟨of_decide_eq_false h4,of_decide_eq_false h5,PD h6⟩
  refine o9 R hi o.q fun aG aD=>?_
  haveI R1:Inv c {σ with gs:=up σ.gs i ⟨2,(σ.gs i).since,none⟩} aG:=by(replace aD:=(h2)▸aD;replace aD:=(h3)▸aD);exact aD
  refine yV g o hi h1 R1 (.inr rfl) fun H' aY a1 a2 a3 a4 a5 a6 a7=>z H' aY a1 a2 ⟨a5,a6,fun j hj=>by rw [a3];exact dH hj,a7,?_⟩
  rw [a3];unfold k8;rw [bB];exact G4 hd (by rw [h2];refine(?_:(1:Int)<2);decide) (by rw [h2];decide)
 |HT=>
  refine KI (h) fun h1 h2 h4 h5 h6=>?_
  haveI h1:σ.tp i=⟨.ready,none,none,some "called",(σ.tp i).ins⟩:=h1
  haveI h2:(σ.gs i).bc=2:=h2
  refine o9 R hi (PD h6) fun aG aD=>?_
  haveI e1:up σ.gs i ⟨(σ.gs i).bc+1,(σ.gs i).since,(σ.gs i).jG⟩ i=⟨(σ.gs i).bc+1,(σ.gs i).since,(σ.gs i).jG⟩:=bB
  haveI uA:(up σ.gs i ⟨(σ.gs i).bc+1,(σ.gs i).since,(σ.gs i).jG⟩ i).bc=3:=by rw [e1,h2];rfl
  refine KP (σ:={σ with gs:=up σ.gs i ⟨(σ.gs i).bc+1,(σ.gs i).since,(σ.gs i).jG⟩}) aD hi uA (by refine(?_:(σ.tp i).oQ=_);rw [h1]) CN (of_decide_eq_true h5) (of_decide_eq_false h4) fun bh bf=>z bh _ bf (g.chg (fun j hj=>dH hj) (fun j hj=>dH hj) ?_ (.inr (of_decide_eq_false h4)) ⟨.gO (σ.now+c.gO i),?_,uA,h4,h5,h6,?_⟩) (one (fun j hj=>dH hj) (fun j hj=>dH hj) ?_)
  ·refine(?_:(up σ.tp i _ i).ins=_);rw [bB]
  ·refine(?_:up σ.tp i _ i=⟨_,_,_,_,(up σ.tp i _ i).ins⟩)
   rw [bB]
   refine(?_:TP.mk _ _ (σ.tp i).call _ _=_)
   rw [h1]
  ·have:=R.ok.gO i hi
   refine(?_:σ.now<σ.now+c.gO i);lia
  ·exact G4 hd (by refine(?_:(σ.gs i).bc<(up σ.gs i _ i).bc);rw [uA,h2];decide) (by rw [h2];decide)
 |lu=>
  refine KI (h) fun h1 h2 h4 h5 h6=>?_
  haveI h1:σ.tp i=⟨.ready,none,none,none,(σ.tp i).ins⟩:=h1
  haveI h2:(σ.gs i).bc=3:=h2
  refine o9 R hi (PD h6) fun aG aD=>?_
  haveI e1:up σ.gs i ⟨(σ.gs i).bc+1,(σ.gs i).since,(σ.gs i).jG⟩ i=⟨(σ.gs i).bc+1,(σ.gs i).since,(σ.gs i).jG⟩:=bB
  haveI uA:(up σ.gs i ⟨(σ.gs i).bc+1,(σ.gs i).since,(σ.gs i).jG⟩ i).bc=4:=by rw [e1,h2];rfl
  refine Iv g hi h1 (of_decide_eq_false h4) (of_decide_eq_true h5) (PD h6) (fun j hj=>dH hj) uA aD fun H' aY a1 a2 a3 a4 a5 a6 a7=>z H' aY a1 a2 ⟨a5,a6,fun j hj=>by rw [a3];exact dH hj,a7,?_⟩
  rw [a3];exact G4 hd (by rw [uA,h2];decide) (by rw [h2];decide)
 |left=>
  refine KI (h) fun h1 h2 h4 h5 h6=>?_
  haveI h2:(σ.gs i).bc=4:=h2
  refine o9 R hi (PD h6) fun aG aD=>?_
  haveI e1:up σ.gs i ⟨(σ.gs i).bc+1,(σ.gs i).since,(σ.gs i).jG⟩ i=⟨(σ.gs i).bc+1,(σ.gs i).since,(σ.gs i).jG⟩:=bB
  haveI uA:(up σ.gs i ⟨(σ.gs i).bc+1,(σ.gs i).since,(σ.gs i).jG⟩ i).bc=5:=by rw [e1,h2];rfl
  refine KO (σ:={σ with gs:=up σ.gs i ⟨(σ.gs i).bc+1,(σ.gs i).since,(σ.gs i).jG⟩}) aD hi uA fun bh bf=>z bh _ bf (g.chg (fun j hj=>dH hj) (fun j hj=>dH hj) ?_ (.inr (of_decide_eq_false h4)) ⟨.comp,?_,?_,h4,h5,h6⟩) (one (fun j hj=>dH hj) (fun j hj=>dH hj) ?_)
  ·refine(?_:(up σ.tp i _ i).ins=_);rw [bB]
  ·refine(?_:(up σ.tp i _ i).st=_);rw [bB]
  ·refine(?_:(up σ.tp i _ i).wake=_);rw [bB]
  ·exact Fp hd (by refine(?_:dead (up σ.tp i _ i).st=true);rw [bB];rfl) (by rw [h2];decide)
 |turned=>
  refine Te (h) fun h1 h2 h3 h4 h5 h6 h7=>?_
  haveI h1:σ.tp i=⟨.ready,none,none,some "refused",(σ.tp i).ins⟩:=h1
  haveI h2:(σ.gs i).bc=2:=h2
  haveI h4:(σ.gs i).since=σ.now:=h4
  haveI hl:(view c σ [] i).yY=false:=by
   induction hx:(view c σ [] i).yY with
   |false=>rfl
   |true=>have:=h7 hx;exact ft this
  haveI Sz:c.pat i= .sW:=by
   induction h:c.pat i with
   |sW=>rfl
   |none=>replace h3:=(h)▸h3;exact ft h3
   |num _=>replace h3:=(h)▸h3;exact ft h3
  refine o9 R hi (PD h6) fun aG aD=>?_
  haveI e1:up σ.gs i ⟨(σ.gs i).bc+1,(σ.gs i).since,(σ.gs i).jG⟩ i=⟨(σ.gs i).bc+1,(σ.gs i).since,(σ.gs i).jG⟩:=bB
  haveI uA:(up σ.gs i ⟨(σ.gs i).bc+1,(σ.gs i).since,(σ.gs i).jG⟩ i).bc=3:=by rw [e1,h2];rfl
  refine DW (σ:={σ with gs:=up σ.gs i ⟨(σ.gs i).bc+1,(σ.gs i).since,(σ.gs i).jG⟩}) aD hi uA (.inl (by refine(?_:(σ.tp i).oQ=_);rw [h1])) fun bh bf=>?_
  haveI e0:σ.now-(up σ.gs i ⟨(σ.gs i).bc+1,(σ.gs i).since,(σ.gs i).jG⟩ i).since=0:=by rw [e1,h4];simp
  refine(?_:Wp (fR [_,_,_,.int (σ.now-(up σ.gs i ⟨(σ.gs i).bc+1,(σ.gs i).since,(σ.gs i).jG⟩ i).since)]) bh _)
  rw [e0]
  refine EP bf hi Sz (of_decide_eq_false h5) ?_ (z bh _ bf (g.chg (fun j hj=>dH hj) (fun j hj=>dH hj) ?_ (.inr (of_decide_eq_false hl)) ⟨.comp,?_,?_,hl,h5,h6⟩) (one (fun j hj=>dH hj) (fun j hj=>dH hj) ?_))
  ·refine(?_:(up σ.tp i _ i).oQ=_);rw [bB];refine(?_:(σ.tp i).oQ=_);rw [h1]
  ·refine(?_:(up σ.tp i _ i).ins=_);rw [bB]
  ·refine(?_:(up σ.tp i _ i).st=_);rw [bB]
  ·refine(?_:(up σ.tp i _ i).wake=_);rw [bB]
  ·exact Fp hd (by refine(?_:dead (up σ.tp i _ i).st=true);rw [bB];rfl) (by rw [h2];decide)
 |lK m=>
  refine Te (h) fun h1 h2 h3 h4 h5 h6 h7=>?_
  haveI h1:σ.tp i=⟨.ready,none,none,some "late",(σ.tp i).ins⟩:=h1
  haveI h2:(σ.gs i).bc=2:=h2
  haveI h4:(σ.gs i).since+m=σ.now:=h4
  haveI hq:=PD h7
  refine o9 R hi hq fun aG aD=>?_
  haveI e1:up σ.gs i ⟨(σ.gs i).bc+1,(σ.gs i).since,(σ.gs i).jG⟩ i=⟨(σ.gs i).bc+1,(σ.gs i).since,(σ.gs i).jG⟩:=bB
  haveI uA:(up σ.gs i ⟨(σ.gs i).bc+1,(σ.gs i).since,(σ.gs i).jG⟩ i).bc=3:=by rw [e1,h2];rfl
  refine DW (σ:={σ with gs:=up σ.gs i ⟨(σ.gs i).bc+1,(σ.gs i).since,(σ.gs i).jG⟩}) aD hi uA (.inr (by refine(?_:(σ.tp i).oQ=_);rw [h1])) fun bh bf=>?_
  haveI e0:σ.now-(up σ.gs i ⟨(σ.gs i).bc+1,(σ.gs i).since,(σ.gs i).jG⟩ i).since=m:=by rw [e1];refine(?_:σ.now-(σ.gs i).since=m);lia
  refine(?_:Wp (fR [_,_,_,.int (σ.now-(up σ.gs i ⟨(σ.gs i).bc+1,(σ.gs i).since,(σ.gs i).jG⟩ i).since)]) bh _)
  rw [e0]
  haveI gl:Good c {σ with line:=lG i σ.line}:=⟨g.wf.To (.inl rfl) hq,⟨g.set.ik,g.set.jK⟩,g.lk⟩
  haveI Sy:i∉lG i σ.line:=fun h=>(gM.mp h).2 rfl
  refine ER bf hi h3 (of_decide_eq_false h6) ?_ fun dg dp=>z dg _ dp (gl.chg (i:=i) (fun j hj=>dH hj) (fun j hj=>dH hj) ?_ (.inr Sy) ⟨.comp,?_,?_,decide_eq_false Sy,h6,h7⟩) ⟨rfl,rfl,fun j hj=>dH hj,fun j hj _=>dH hj,?_⟩
  ·refine(?_:(up σ.tp i _ i).oQ=_);rw [bB];refine(?_:(σ.tp i).oQ=_);rw [h1]
  ·refine(?_:(up σ.tp i _ i).ins=_);rw [bB]
  ·refine(?_:(up σ.tp i _ i).st=_);rw [bB]
  ·refine(?_:(up σ.tp i _ i).wake=_);rw [bB]
  ·refine(?_:pm (up σ.tp i _ i) _<_)
   exact Fp hd (by refine(?_:dead (up σ.tp i _ i).st=true);rw [bB];rfl) (by rw [h2];decide)
end
section
variable {c:Cf}{σ aY:St}{H:Hp}{i:Nat}{k k' iS:Str}{tl:List Nat}{Q:V→Hp→Prop}
section
variable {src:V}{mc:V→V→M Bool}{mr:V→V→M V}{me:V→V→V→M V}{acc:VA}{n j:Nat}{a b:V}{Q:Unit→Hp→Prop}
theorem Q5(h:itemAt H src j=some none)(z:Q () H):Wp (i7 src (mF mc mr me acc) (n+1) j) H Q:=⟨(),H,by unfold i7;rw [h],z⟩
theorem Qe(h:itemAt H src j=some (some (.tup [a,b])))(z:Wp (mF mc mr me acc (.tup [a,b])) H fun _ H'=>Wp (i7 src (mF mc mr me acc) n (j+1)) H' Q):Wp (i7 src (mF mc mr me acc) (n+1) j) H Q:=
 eY z fun r H' e z=>eY z fun u iw e2 q=>ie u iw (by unfold i7;rw [h];dsimp only;rw [e];exact e2) q
theorem L2(h:itemAt H src j=some (some (.tup [a,b])))(z:Wp (mc a b) H fun r H'=>r=false∧Wp (i7 src (mF mc mr me acc) n (j+1)) H' Q):Wp (i7 src (mF mc mr me acc) (n+1) j) H Q:=
 Qe h (wp_bind (z.mono fun r H' z=>by rw [z.1];exact wp_pure z.2))
theorem L3(h:itemAt H src j=some (some (.tup [a,b])))(z:Wp (mc a b) H fun r H'=>r=true∧Wp (mr a b) H' fun s bh=>itemAt bh s 0≠none∧Wp (i7 s (vz (fun _=>pU true) (me a b) acc) 10000000 0) bh fun _ dg=>Wp (i7 src (mF mc mr me acc) n (j+1)) dg Q):Wp (i7 src (mF mc mr me acc) (n+1) j) H Q:=
 Qe h (wp_bind (z.mono fun r H' z=>by rw [z.1];exact wp_bind (z.2.mono fun s bh z=>wp_bind (pR z.1 z.2))))
end
theorem N4(hf:eP H)(h1:H.get r1=some (.list l1))(h2:H.get r2=some (.list l2))(n1:l1.length≤1000)(n2:l2.length≤1000)(hm:m1=true→m2=false)
  (c1:∀H',Wp (mc a1 (.ref r1)) H' fun r iw=>r=m1∧iw=H') (c2:∀H',Wp (mc a2 (.ref r2)) H' fun r iw=>r=m2∧iw=H')
  (z:∀(H':Hp) (x:VA),cZ (fun _=>False) H H'→H'.get x=some (.list (if m1=true then l1 else if m2=true then l2 else []))→Q (.ref x) H'):
  Wp (xK (.lst [.tup [a1,.ref r1],.tup [a2,.ref r2]]) mc (fun _ b=>pU b) (fun _ _ u=>pU u)) H Q:=by
 unfold xK
 refine Wp.b (pR (by rw [gp];simp) (Wp.b (jX (Wp.b (Aq (dM _) (hf _ (by refine(?_:9<100);exact af _ _) (az _)) (Wp.b ?_))))))
 have s0:cZ (fun _=>False) H (H.set ⟨9,H.next⟩ (.list [])):=gP (by exact af _ _)
 haveI ho:Old (H.set ⟨9,H.next⟩ (.list [])) ⟨9,H.next⟩:= .inr (aW _)
 have back:∀{H'},cZ (fun y=>y=⟨9,H.next⟩) (H.set ⟨9,H.next⟩ (.list [])) H'→cZ (fun _=>False) H H':=fun {H'} s=>⟨ai s0.next s.next,fun y _ ho=>by
  have:y≠⟨9,H.next⟩:=by
   rintro rfl
   rcases ho with h|h
   ·exact absurd h (by refine(?_:¬(100≤9));decide)
   ·exact dZ _ h
  refine cQ (s0.keep y id ho) fun a b=>?_
  refine cQ (s.keep y this (ho.on s0)) fun c d=>?_
  exact⟨c.trans a,d.trans b⟩,fun f=>s.fresh (s0.fresh f)⟩
 have inner:∀{r:VA} {l:List V} {Q:Unit→Hp→Prop} {aG:Hp},cZ (fun y=>y=⟨9,H.next⟩) (H.set ⟨9,H.next⟩ (.list [])) aG→aG.get ⟨9,H.next⟩=some (.list [])→H.get r=some (.list l)→l.length≤1000→(∀bh,cZ (fun y=>y=⟨9,H.next⟩) (H.set ⟨9,H.next⟩ (.list [])) bh→bh.get ⟨9,H.next⟩=some (.list l)→Q () bh)→Wp (i7 (.ref r) (vz (fun _=>pU true) (fun u=>pU u) ⟨9,H.next⟩) 10000000 0) aG Q:=fun {r l Q aG} s g hr hl z=>by
  exact HM (vs:=l) (bs:=fun _=>true) (es:=id) (kX:=aG) (by exact ai ‹_› (by decide)) (fun _=>True) (fun H' _ s' j=>c6 ((back (s.trans s')).old hf hr) j) (fun v _ H' _ _=>Wp.p ⟨rfl,trivial,.refl⟩) (fun v _ _ H' _ _=>Wp.p ⟨rfl,trivial,.refl⟩) (fun _ _ _=>trivial) (ho.on s) (fun H' _ s' g'=>z H' (s.trans s') (by rw [g',eR.mpr fun _ _=>rfl,qB])) trivial g
 haveI last:∀{n:Nat} {aG:Hp} {l:List V},l=(if m1=true then l1 else if m2=true then l2 else [])→cZ (fun y=>y=⟨9,H.next⟩) (H.set ⟨9,H.next⟩ (.list [])) aG→aG.get ⟨9,H.next⟩=some (.list l)→Wp (i7 (.lst [.tup [a1,.ref r1],.tup [a2,.ref r2]]) (mF mc (fun _ b=>pU b) (fun _ _ u=>pU u) ⟨9,H.next⟩) (n+1) 2) aG fun _ H'=>Wp (pU (.ref ⟨9,H.next⟩)) H' Q:=fun {n aG l} hl s g=>by
  subst hl
  exact Q5 (by rw [gp];rfl) (Wp.p (z _ _ (back s) g))
 refine(?_:Wp (i7 _ (mF _ _ _ _) (9999997+1+1+1) 0) _ _)
 haveI ii:∀{r:VA} {l:List V} {aG:Hp},cZ (fun _=>False) H aG→H.get r=some (.list l)→itemAt aG (.ref r) 0≠none:=fun s g=>by rw [c6 (s.old hf g)];simp
 induction m1 with
 |true=>
  refine L3 (by rw [gp];rfl) ((c1 _).mono fun r H' Xy=>cQ Xy fun e1 e2=>⟨e1,Wp.p ?_⟩)
  apply iH e2
  refine⟨ii (back .refl) h1,inner .refl au h1 n1 fun bh s2 g2=>?_⟩
  refine L2 (by rw [gp];rfl) ((c2 _).mono fun r H' z54=>cQ z54 fun e1 e2=>⟨e1.trans (hm rfl),?_⟩)
  apply iH e2
  exact last rfl s2 g2
 |false=>
  refine L2 (by rw [gp];rfl) ((c1 _).mono fun r H' z15=>cQ z15 fun e1 e2=>⟨e1,?_⟩)
  apply iH e2
  induction m2 with
  |true=>
   refine L3 (by rw [gp];rfl) ((c2 _).mono fun r H' z55=>cQ z55 fun e1 e2=>⟨e1,Wp.p ?_⟩)
   apply iH e2
   exact⟨ii (back .refl) h2,inner .refl au h2 n2 fun bh s2 g2=>last rfl s2 g2⟩
  |false=>
   refine L2 (by rw [gp];rfl) ((c2 _).mono fun r H' z79=>cQ z79 fun e1 e2=>⟨e1,?_⟩)
   apply iH e2
   exact last rfl .refl au
theorem Nj(R:Inv c σ H):∀j∈lv σ,j<c.n:=fun j hj=>R.c0.line.2 j (bH.mp hj).1
theorem RO(R:Inv c σ H):(lv σ).length≤1000:=ai (cX ..) (tV R)
theorem E6(R:Inv c σ H){b:Bool}(hl:l.length≤1000)(hn:∀j∈l,j<c.n)(hs:∀H',cZ (fun _=>False) H H'→∀j,itemAt H' src j=some (nU l)[j]?)(hm:∀j<c.n,∀H',Inv c σ H'→Wp (mc (iV j)) H' fun r iw=>r=(c.wr j==b)∧iw=H')
  (z:∀(H':Hp) (r:VA),cZ (fun _=>False) H H'→H'.get r=some (.list (nU (l.filter fun j=>c.wr j==b)))→Q (.ref r) H'):Wp (fW 9 src mc (fun u=>pU u)) H Q:=by
 refine gT (vs:=nU l) (by exact af _ _) (SM fun j=>c.wr j==b) id (fun _=>True) R.fr (by rw [aq];exact ai ‹_› (by decide)) trivial (fun H' _ s j=>hs H' s j) (fun _ _ _ _ _ _=>trivial) (fun v hv H' _ s=>?_) (fun v hv _ H' _ s=>Wp.p ⟨rfl,trivial,.refl⟩) fun H' r _ s tr lr _ gr=>z H' r s (by rw [gr,Mv])
 refine aS (aP.mp hv) fun j hj cj=>?_
 apply sb cj
 exact(hm j (hn j hj) H' (R.cu s)).mono fun r iw Xy=>cQ Xy fun e1 e2=>⟨e1,trivial,e2▸ .refl⟩
theorem Xu:∀{a:Bool},(a==true)=a:=by intro a;induction a<;>rfl
theorem Xs:∀{a:Bool},(a==false)= !a:=by intro a;induction a<;>rfl
theorem Qz(j:Nat)(hj:j<c.n)(H':Hp)(R:Inv c σ H'):Wp (testM .And [(((eF [.ref c.rm,iV j]).d fun v=>(bV v)).d fun c=>pU (!c))]) H' fun r iw=>r=(c.wr j==false)∧iw=H':=
 Wp.nM (Wp.b2 (rf R hj ⟨c.wr j,H',rfl,Wp.p ⟨Xs.symm,rfl⟩⟩))
theorem WS(j:Nat)(hj:j<c.n)(H':Hp)(R:Inv c σ H'):Wp (testM .And [((eF [.ref c.rm,iV j]).d fun v=>(bV v))]) H' fun r iw=>r=(c.wr j==true)∧iw=H':=
 Wp.nM (Wp.b (rf R hj ⟨c.wr j,H',rfl,Xu.symm,rfl⟩))
def QM(σ:St)(k:Str):V→V
 | .ref y=>iV (((σ.qg k).find? fun j=>decide (σ.cm j=y.n)).getD 0)
 |_=> .none
theorem N3(R:Inv c σ H)(hi:i∈σ.qg k):QM σ k (.ref (cA (σ.cm i)))=iV i:=by
 haveI hk:=R.Sa hi
 refine(?_:iV (((σ.qg k).find? fun j=>decide (σ.cm j=σ.cm i)).getD 0)=_)
 induction hf:(σ.qg k).find? fun j=>decide (σ.cm j=σ.cm i) with
 |none=>exact absurd (Ls.mp hf i hi) (by simp)
 |some j=>
  haveI h1:=List.find?_some hf
  haveI h2:=List.mem_of_find?_eq_some hf
  refine(ah ((R.Cs hk hk h2 hi (of_decide_eq_true h1)).1))▸?_;rfl
theorem RN(R:Inv c σ H)(z:∀(H':Hp) (r:VA),cZ (fun _=>False) H H'→H'.get r=some (.list (nU (σ.qg k)))→Q (.ref r) H'):
  Wp (((((Internal.itemF (.ref c.rm) .gX).d fun v=>(Internal.aE v .eO)).d fun v=>((tC v).d fun _=>((((df []).d fun v=>(pU [v])).d fun vs=>(pU (eM k::vs))).d fun vs=>(wQ v vs)))).d fun src=>(fW 9 src (fun mB=>testM .And []) (fun mB=>((Internal.aE mB .values).d fun v=>(fc v (.int 0))))))) H Q:=by
 refine eY (R.rm) fun ln wi a _=>?_
 refine aS (R.th) fun l Ge _=>?_
 refine aS (R.qr.look k) fun es e h=>?_
 refine Wp.b3 (Wp.itemF a rfl (Wp.aE Ge fU (Wp.b (Wp.Ma e (Wp.b3 (Wp.lst (by kernel_rfl) (Wp.p (Wp.p (Wp.lJ e ?_)))))))))
 haveI qe:σ.q k= []↔σ.qg k= []:=jb
 rcases h with⟨h1,h2⟩|⟨x,_,h2,h3,h4⟩
 ·refine h2.symm▸?_
  refine gT (vs:= []) (by exact af _ _) (fun _=>true) id (fun _=>True) R.fr (by simp) trivial (fun H' _ _ j=>gp j) (fun _ _ _ _ _ _=>trivial) (fun v hv=>by exact aj (by cases hv)) (fun v hv=>by exact aj (by cases hv)) fun H' r _ s tr lr _ gr=>z H' r s (by(refine gr.symm▸?_;refine(ah (qe.mp h1))▸?_);rfl)
 ·refine h2.symm▸?_
  refine gT (vs:=(σ.qg k).map fun i=>V.ref (cA (σ.cm i))) (by exact af _ _) (fun _=>true) (QM σ k) (fun _=>True) R.fr (by rw [aq];have:=yD R k;exact ai ‹_› (by decide)) trivial (fun H' _ s j=>c6 (s.old R.fr (by refine h4.symm▸?_;refine(?_:some (ib.list (gf V.ref (gf _ _)))=_);refine eW.symm▸?_;rfl)) j) (fun _ _ _ _ _ _=>trivial) (fun v hv H' _ s=>Wp.p ⟨rfl,trivial,.refl⟩) (fun v hv _ H' _ s=>?_) fun H' r _ s tr lr _ gr=>z H' r s ?_
  ·refine aS (aP.mp hv) fun i hi cj=>?_
   apply sb cj
   haveI hk:=R.Sa hi
   exact Wp.b (Wp.aE ((R.cu s).ca k hk i hi) yR ⟨iV i,H',rfl,(N3 R hi).symm,trivial,.refl⟩)
  ·(refine gr.symm▸?_;refine(ah (eR.mpr fun _ _=>rfl))▸?_;refine eW.symm▸?_)
   exact congrArg (fun l=>some (ib.list l)) (eS fun i hi=>N3 R hi)
theorem Wp.Ur{a b:V}{Q:V→Hp→Prop}(z:Q (.lst [.tup [a,.ref x],.tup [b,.ref y]]) H):Wp (((iE [a,.ref x]).d fun v=>(((iE [b,.ref y]).d fun v=>(pU [v])).d fun vs=>(pU (v::vs)))).d fun vs=>(df vs)) H Q:=
 Wp.b (Wp.b (Wp.tup (by kernel_rfl) (Wp.b (Wp.b (Wp.tup (by kernel_rfl) (Wp.p (Wp.p (Wp.lst (by kernel_rfl) z))))))))
noncomputable def oZ:List Str:= ["wait", "come", "read", "write"]
theorem Nz(R:Inv c σ H)(h:k∉c.ks):σ.qg k= []:=by
 induction hq:σ.qg k with
 |nil=>rfl
 |cons a l=>exact absurd (R.Sa (i:=a) (by refine hq.symm▸?_;simp)) h
theorem key_ne{mc:Bool}(h1:(small (.tuple [.str a,.none])&&small (.tuple [.str b,.none]))=true)(h2:PyData.eqv (.tuple [.str a,.none]) (.tuple [.str b,.none])=r):∀H',Wp (testM .And [(aX .Eq (eM a) (eM b))]) H' fun r' iw=>r'=r∧iw=H':=fun H'=>Wp.nM (nT h1 h2 ⟨rfl,rfl⟩)
theorem Ag{Q:Bool→Hp→Prop}(h:listOf H x=some ((l.map iO).map V.int))(z:Q (!decide (l= [])) H):Wp ((df []).d fun b=>(aX .NotEq x b)) H Q:=Wp.b (Wp.lst (by kernel_rfl) (Wp.neN (m:= []) h rfl z))
theorem EI{Q:Bool→Hp→Prop}(h:listOf H x=some ((l.map iO).map V.int))(z:Q (decide (l= [])) H):Wp ((df []).d fun b=>(aX .Eq x b)) H Q:=Wp.b (Wp.lst (by kernel_rfl) (Wp.Tq (m:= []) h rfl z))
theorem kept(g:Good c σ)(ok:c.Ok):(lv σ≠ []→σ.within≠ [])∧(c.iJ≠2→(lv σ).filter (fun j=>c.wr j==false)≠ []→mJ c σ=true∨(c.iJ=1∧(lv σ).filter (fun j=>c.wr j==true)≠ []))∧(c.iJ=2→((lv σ).take 1).filter (fun j=>c.wr j==false)≠ []→mJ c σ=true):=by
 haveI w:=g.wf
 haveI kw:kb "wait"=true:=by kernel_rfl
 haveI kc:kb "come"=false:=by kernel_rfl
 haveI kr:kb "read"=false:=by kernel_rfl
 haveI kt:kb "write"=true:=by kernel_rfl
 have od:c.iJ≠2→∀b,(lv σ).filter (fun j=>c.wr j==b)=σ.qg (Cg b):=fun hm b=>by rw [w.od hm b];simp
 have s:∀k∈c.ks,σ.qg k≠ []→zj c σ (kb k)=false:=fun k hk h=>(g.set.ik k hk).resolve_left h
 have e1:c.iJ=2→lv σ=σ.qg "wait"++σ.qg "come":=fun hm=>by rw [(w.o2 hm).1,oH]
 have m2:c.iJ=2→("wait":Str)∈c.ks∧("come":Str)∈c.ks:=fun hm=>by rw [Dw hm];simp
 have m1:c.iJ≠2→("read":Str)∈c.ks∧("write":Str)∈c.ks:=fun hm=>by rw [Qw hm];simp
 refine fM (fun hl hw=>?_) (fun hm hr=>?_) (fun hm hr=>?_)
 ·haveI ho:zj c σ true=true:=decide_eq_true hw
  haveI hh:mJ c σ=false:=by unfold mJ;(refine hw.symm▸?_;with_reducible rfl)
  by_cases hm:c.iJ=2
  ·have q1:σ.qg "wait"= []:=bS fun h=>by have:=s _ (m2 hm).1 h;(replace this:=(kw)▸this;replace this:=(ho)▸this);exact tf this
   have q2:σ.qg "come"= []:=bS fun h=>by
    have:=s _ (m2 hm).2 h
    replace this:=(kc)▸this
    unfold zj at this
    (replace this:=(if_neg aw)▸this;replace this:=(if_pos hm)▸this;replace this:=(hh)▸this;replace this:=(q1)▸this)
    exact absurd this (by decide)
   (replace hl:=(e1 hm)▸hl;replace hl:=(q1)▸hl;replace hl:=(q2)▸hl)
   exact hl rfl
  ·have q1:σ.qg "write"= []:=bS fun h=>by have:=s _ (m1 hm).2 h;(replace this:=(kt)▸this;replace this:=(ho)▸this);exact tf this
   have q2:σ.qg "read"= []:=bS fun h=>by
    have:=s _ (m1 hm).1 h
    replace this:=(kr)▸this
    unfold zj at this
    (replace this:=(if_neg aw)▸this;replace this:=(if_neg hm)▸this;replace this:=(hh)▸this;replace this:=(q1)▸this)
    simp at this
   induction hv:lv σ with
   |nil=>exact hl hv
   |cons x l=>
    have:x∈(lv σ).filter fun j=>c.wr j==c.wr x:=bH.mpr ⟨by refine hv.symm▸?_;simp,by simp⟩
    rw [od hm] at this
    induction hx:c.wr x with
    |true=>replace this:=(hx)▸this;replace this:=(show σ.qg (Cg true)= [] from q1)▸this;exact aj (by cases this)
    |false=>replace this:=(hx)▸this;replace this:=(show σ.qg (Cg false)= [] from q2)▸this;exact aj (by cases this)
 ·rw [od hm] at hr
  have:=s _ (m1 hm).1 hr
  replace this:=(kr)▸this
  unfold zj at this
  (replace this:=(if_neg aw)▸this;replace this:=(if_neg hm)▸this)
  induction hh:mJ c σ with
  |true=>exact .inl rfl
  |false=>
   replace this:=(hh)▸this
   rw [Bool.not_false,QO,Jx,decide_eq_false_iff_not,decide_eq_false_iff_not] at this
   exact .inr ⟨by have:=ok.iJ;lia,by rw [od hm];exact this.2⟩
 ·have q1:σ.qg "wait"= []:=bS fun h=>by
   induction hv:σ.qg "wait" with
   |nil=>exact h hv
   |cons x l=>
    (replace hr:=(e1 hm)▸hr;replace hr:=(hv)▸hr)
    have:=(w.o2 hm).2.2 x (by rw [hv];simp)
    exact hr (by simp [this])
  have q2:σ.qg "come"≠ []:=fun h=>hr (by rw [e1 hm,q1,h];rfl)
  have:=s _ (m2 hm).2 q2
  replace this:=(kc)▸this
  unfold zj at this
  (replace this:=(if_neg aw)▸this;replace this:=(if_pos hm)▸this;replace this:=(q1)▸this)
  simpa using this
theorem IH(g:Good c σ)(R:Inv c σ H)(z:∀H',Inv c σ H'→Q (.bool true) H'):Wp (jn [.ref c.rm]) H Q:=by
 refine Wp.f rfl ?_
 unfold tX
 refine Wp.b (J5 R fun aG Sf s1 g1 t1 lr1=>?_)
 have R1:=R.cu s1
 have ll:=RO R
 refine Wp.b (E6 R1 (l:=lv σ) (b:=false) ll (Nj R) (fun H' s j=>c6 (s.old R1.fr g1) j) Qz fun bh UC s2 g2=>?_)
 have R2:=R1.cu s2
 haveI g1:=s2.old R1.fr g1
 refine Wp.b (E6 R2 (l:=lv σ) (b:=true) ll (Nj R) (fun H' s j=>c6 (s.old R2.fr g1) j) WS fun dg PK s3 g3=>?_)
 haveI R3:=R2.cu s3
 haveI g1:=s3.old R2.fr g1
 haveI g2:=s3.old R2.fr g2
 haveI l2:(nU ((lv σ).filter fun j=>c.wr j==false)).length≤1000:=by rw [aq];exact ai (cX ..) ll
 haveI l3:(nU ((lv σ).filter fun j=>c.wr j==true)).length≤1000:=by rw [aq];exact ai (cX ..) ll
 refine Wp.b (Wp.Ur (Wp.b (Wp.lst (by kernel_rfl) ?_)))
 refine Wp.b (Wp.tup (by kernel_rfl) (Wp.cy ?_))
 refine ia (vs:=oZ.map eM) (by decide) (fun j st H'=>cZ (fun _=>False) dg H'∧st= [.lst (nU ((oZ.take j).flatMap σ.qg))]) (fun _ _ _ _ j=>item_tup j) ⟨.refl,rfl⟩ (fun j v st H' hv hI=>?_) fun st iZ hI=>?_
 ·obtain⟨s,rfl⟩:=hI
  replace hv:=(aC)▸hv
  refine aS (ba.mp hv) fun k hk cj=>?_
  apply sb cj
  haveI hm:k∈oZ:=aB hk
  haveI R':=R3.cu s
  refine Wp.b (RN R' fun iZ PL s4 g4=>?_)
  haveI R4:=R'.cu s4
  refine eY (R4.rm) fun ln wi a _=>?_
  haveI Xi:=s.trans s4
  haveI N1:∀{pW:Bool→Hp→Prop},(∀gZ,cZ (fun _=>False) iZ gZ→pW false gZ)→Wp (testM .And [((Internal.itemF (.ref c.rm) .fY).d fun a=>(aX .Lt a (.int 2))),((xK (.lst [.tup [eM "read",.ref UC],.tup [eM "write",.ref PK]]) (fun mC pM=>testM .And [(aX .Eq mC (eM k))]) (fun mC pM=>(pU pM)) (fun mC pM hZ=>(pU hZ))).d fun b=>(aX .NotEq (.ref PL) b))]) iZ pW:=fun {pW} z=>by
   by_cases TY:c.iJ=2
   ·refine Wp.jE (Wp.b (Wp.itemF a rfl ⟨decide (c.iJ<2),iZ,rfl,?_,z _ .refl⟩))
    rw [TY];rfl
   ·refine Wp.lz (Wp.b (Wp.itemF a rfl ⟨decide (c.iJ<2),iZ,rfl,?_,?_⟩))
    ·exact decide_eq_true (by have:=R.ok.iJ;lia)
    ·have fin:∀{m1 m2:Bool},(m1=true→m2=false)→(∀H',Wp (testM .And [(aX .Eq (eM "read") (eM k))]) H' fun r iw=>r=m1∧iw=H')→(∀H',Wp (testM .And [(aX .Eq (eM "write") (eM k))]) H' fun r iw=>r=m2∧iw=H')→σ.qg k=(if m1=true then(lv σ).filter (fun j=>c.wr j==false) else if m2=true then(lv σ).filter (fun j=>c.wr j==true) else [])→
       Wp ((xK (.lst [.tup [eM "read",.ref UC],.tup [eM "write",.ref PK]]) (fun mC pM=>testM .And [(aX .Eq mC (eM k))]) (fun mC pM=>(pU pM)) (fun mC pM hZ=>(pU hZ))).d fun b=>(aX .NotEq (.ref PL) b)) iZ pW:=fun {m1 m2} hx c1 c2 e=>by
      refine Wp.b (N4 R4.fr (Xi.old R3.fr g2) (Xi.old R3.fr g3) l2 l3 hx c1 c2 fun gZ x s5 g5=>?_)
      haveI g5:gZ.get x=some (.list (nU (σ.qg k))):=by
       rw [g5,e]
       induction m1<;>induction m2<;>rfl
      refine Wp.neN (lj (s5.old R4.fr g4)) (lj g5) ?_
      rw [decide_eq_true rfl]
      exact z gZ s5
     haveI od:=g.wf.od TY
     haveI yW:∀x:Str,x≠ "read"→x≠ "write"→σ.qg x= []:=fun x h1 h2=>Nz R (by rw [Qw TY];simp [h1,h2])
     unfold oZ at hm
     simp only [bF,jf,or_false] at hm
     rcases hm with rfl|rfl|rfl|rfl
     ·exact fin (m1:=false) (m2:=false) (fun h=>by exact ft h) (key_ne (mc:=true) (by kernel_rfl) (by kernel_rfl)) (key_ne (mc:=true) (by kernel_rfl) (by kernel_rfl)) (by rw [yW _ (by decide) (by decide)];rfl)
     ·exact fin (m1:=false) (m2:=false) (fun h=>by exact ft h) (key_ne (mc:=true) (by kernel_rfl) (by kernel_rfl)) (key_ne (mc:=true) (by kernel_rfl) (by kernel_rfl)) (by rw [yW _ (by decide) (by decide)];rfl)
     ·exact fin (m1:=true) (m2:=false) (fun _=>rfl) (key_ne (mc:=true) (by kernel_rfl) (by kernel_rfl)) (key_ne (mc:=true) (by kernel_rfl) (by kernel_rfl)) (by rw [if_pos rfl,od false];simp [Cg])
     ·exact fin (m1:=false) (m2:=true) (fun h=>by exact ft h) (key_ne (mc:=true) (by kernel_rfl) (by kernel_rfl)) (key_ne (mc:=true) (by kernel_rfl) (by kernel_rfl)) (by rw [if_neg aw,if_pos rfl,od true];simp [Cg])
  refine Wp.b (N1 fun gZ s5=>Wp.cy (Wp.p ?_))
  haveI tk:oZ.take (j+1)=oZ.take j++ [k]:=by rw [jO,hk];rfl
  refine Wp.b ⟨.lst (nU ((oZ.take (j+1)).flatMap σ.qg)),gZ,?_,Wp.p ⟨Xi.trans s5,rfl⟩⟩
  haveI lr:listOf gZ (.ref PL)=some (nU (σ.qg k)):=by
   refine(?_:(match gZ.get PL with|some (.list vs)=>some vs|_=>none)=_)
   (refine(ah (s5.old R4.fr g4))▸?_;with_reducible rfl)
  haveI lh:listOf gZ (.lst (nU ((oZ.take j).flatMap σ.qg)))=some (nU ((oZ.take j).flatMap σ.qg)):=rfl
  unfold joinM
  rw [lh,lr]
  refine(?_:(if(nU ((oZ.take j).flatMap σ.qg)).length+(nU (σ.qg k)).length≤1000000 then some (V.lst (nU ((oZ.take j).flatMap σ.qg)++nU (σ.qg k)),gZ) else none)=_)
  haveI fl:=AW (fun k=>yD R k) (oZ.take j)
  have:(oZ.take j).length≤4:=by rw [z8];exact Au ..
  have:=yD R k
  rw [if_pos (by rw [aq,aq];lia),tk,Km]
  refine(?_:some (V.lst (gf iV _++gf iV _),gZ)=some (V.lst (gf iV _),gZ))
  rw [dK];simp
 ·refine cQ (hI) fun s cj=>?_;subst cj
  haveI R4:=R3.cu s
  refine qj (R4.rm) fun ln wi a t1 t2 gl gw=>?_
  haveI g1:=s.old R3.fr g1
  haveI g2:=s.old R3.fr g2
  haveI g3:=s.old R3.fr g3
  refine fC (kept g R.ok) fun k1 k2 k3=>?_
  refine Wp.b2 (Wp.itemF a rfl (Wp.JO ?_))
  have fin:∀{gZ:Hp} {rr:VA} {RL:List Nat},cZ (fun _=>False) iZ gZ→gZ.get rr=some (.list (nU RL))→(RL≠ []→mJ c σ=true∨(c.iJ=1∧(lv σ).filter (fun j=>c.wr j==true)≠ []))→
    Wp ((testM .And [((df []).d fun b=>(aX .NotEq (.ref Sf) b)),((Internal.itemF (.ref c.rm) .within).d fun a=>((df []).d fun b=>(aX .Eq a b)))]).d fun c'=>(bif c' then(pU (.ret (.bool false))) else nX).cy (fun _=>((testM .And [((df []).d fun b=>(aX .NotEq (.ref rr) b)),(((eE [.ref c.rm]).d fun v=>(bV v)).d fun c=>pU (!c)),(testM .Or [((Internal.itemF (.ref c.rm) .fY).d fun a=>(aX .NotEq a (.int 1))),((df []).d fun b=>(aX .Eq (.ref PK) b))])]).d fun c'=>(bif c' then(pU (.ret (.bool false))) else nX).cy (fun _=>((Internal.itemF (.ref c.rm) .fX).d fun v=>(pU (Fl.ret v))))))) gZ fun r H'=>Q (match r with| .ret v=>v| .next _=> .none) H':=fun {gZ rr RL} s5 gr hk=>by
   haveI R5:=R4.cu s5
   refine qj (R5.rm) fun ln wi a t1 t2 gl gw=>?_
   haveI g1:=s5.old R4.fr g1
   have g3:=s5.old R4.fr g3
   haveI c1:∀{pW:Bool→Hp→Prop},pW false gZ→Wp (testM .And [((df []).d fun b=>(aX .NotEq (.ref Sf) b)),((Internal.itemF (.ref c.rm) .within).d fun a=>((df []).d fun b=>(aX .Eq a b)))]) gZ pW:=fun z=>by
    by_cases h:lv σ= []
    ·exact Wp.jE (Ag (lj g1) (by rw [decide_eq_true h];exact⟨rfl,z⟩))
    ·exact Wp.lz (Ag (lj g1) (by rw [decide_eq_false h];exact⟨rfl,Wp.b (Wp.itemF a rfl (EI (lj gw) (by rw [decide_eq_false (k1 h)];exact z)))⟩))
   haveI c2:∀{pW:Bool→Hp→Prop},pW false gZ→Wp (testM .And [((df []).d fun b=>(aX .NotEq (.ref rr) b)),(((eE [.ref c.rm]).d fun v=>(bV v)).d fun c=>pU (!c)),(testM .Or [((Internal.itemF (.ref c.rm) .fY).d fun a=>(aX .NotEq a (.int 1))),((df []).d fun b=>(aX .Eq (.ref PK) b))])]) gZ pW:=fun z=>by
    by_cases h:RL= []
    ·exact Wp.jE (Ag (lj gr) (by rw [decide_eq_true h];exact⟨rfl,z⟩))
    ·refine Wp.LU (Ag (lj gr) ?_)
     rw [decide_eq_false h]
     refine⟨rfl,?_⟩
     rcases hk h with hw|⟨hm,hw⟩
     ·exact Wp.jE (Wp.b2 (wW R5 ⟨mJ c σ,gZ,rfl,Wp.p ⟨by rw [hw];rfl,z⟩⟩))
     ·induction hh:mJ c σ with
      |true=>exact Wp.jE (Wp.b2 (wW R5 ⟨mJ c σ,gZ,rfl,Wp.p ⟨by rw [hh];rfl,z⟩⟩))
      |false=>
       refine Wp.LU (Wp.b2 (wW R5 ⟨mJ c σ,gZ,rfl,Wp.p ⟨by rw [hh];rfl,Wp.nM ?_⟩⟩))
       refine Wp.yA (Wp.b (Wp.itemF a rfl (Wp.Vh ⟨by rw [hm];rfl,EI (lj g3) ?_⟩)))
       rw [decide_eq_false hw];exact z
   exact Wp.b (c1 (Wp.cy (Wp.p (Wp.b (c2 (Wp.cy (Wp.p (Wp.b (Wp.itemF a rfl (Wp.p (z _ R5)))))))))))
  by_cases hm:c.iJ=2
  ·rw [Pz,decide_eq_true hm]
   refine Wp.cy (Wp.cT (Wp.b2 (Wp.take1 g1 ll ?_)))
   haveI YE:((lv σ).take 1).length≤1000:=by rw [z8];exact ai (Au _ _) ‹_›
   refine E6 R4 (l:=(lv σ).take 1) (b:=false) YE (fun j hj=>Nj R j (List.mem_of_mem_take hj)) (fun H' s j=>gp j) Qz fun gZ aa0 s5 g5=>?_
   haveI he:oZ.flatMap σ.qg=lv σ:=by
    refine cQ (g.wf.o2 hm) fun o1 _=>?_
    haveI h0:∀x:Str,x≠ "wait"→x≠ "come"→σ.qg x= []:=fun x h1 h2=>Nz R (by rw [Dw hm];simp [h1,h2])
    refine(?_:σ.qg "wait"++(σ.qg "come"++(σ.qg "read"++(σ.qg "write"++ [])))=_)
    rw [o1,h0 "read" (by decide) (by decide),h0 "write" (by decide) (by decide)];rfl
   refine Wp.b (Wp.neN (l:=oZ.flatMap σ.qg) (m:=lv σ) IQ (lj (s5.old R4.fr g1)) ?_)
   rw [decide_eq_true he]
   exact Wp.cy (Wp.p (Wp.p (fin s5 g5 fun h=> .inl (k3 hm h))))
  ·rw [Pz,decide_eq_false hm]
   exact Wp.cy (Wp.cF (Wp.p (fin .refl g2 (k2 hm))))
abbrev B5(c:Cf):List V:=(aR c.n).map fun i=>V.ref (tA i)
theorem uM(h:(B5 c)[j]? =some v):j<c.n∧v= .ref (tA j):=by
 rw [aC] at h
 refine aS (ba.mp h) fun i hi cj=>?_
 apply sb cj
 refine dh (aF.mp hi) fun h1 h2=>?_
 rw [bP] at h1
 rw [xC] at h2
 apply sb h2
 exact⟨h1,rfl⟩
theorem kR:(B5 c).length=c.n:=by rw [aq,bP]
theorem nK(R:Inv c σ H)(q:Q (.ref c.tl) H):Wp (Internal.aE (.ref ff) .tasks) H Q:=by
 refine eY (R.tk) fun u lo a _=>?_
 exact Wp.aE a B4 q
theorem nG(R:Inv c σ H)(hi:i<c.n){s:Str}(hs:small (.str s)=true)(e:((σ.tp i).st.s==s)=b){Q:Bool→Hp→Prop}(z:Q b H):Wp ((Internal.aE (.ref (tA i)) .state).d fun a=>(aX .Eq a (.str s))) H Q:=
 Wp.b (Wp.aE (R.ts i hi) ng (Wp.Oi (by rw [Ep.small,hs];rfl) e z))
theorem yI(R:Inv c σ H)(hi:i<c.n){s:Str}(hs:small (.str s)=true)(e:((σ.tp i).st.s==s)=b){Q:Bool→Hp→Prop}(z:Q (!b) H):Wp ((Internal.aE (.ref (tA i)) .state).d fun a=>(aX .NotEq a (.str s))) H Q:=
 Wp.b (Wp.aE (R.ts i hi) ng (Wp.b (Wp.Oi (by rw [Ep.small,hs];rfl) e (Wp.p z))))
noncomputable def ef:Ep→Bool
 | .ju=>true
 |_=>false
noncomputable def isDone:Ep→Bool
 | .done=>true
 |_=>false
noncomputable def isReady:Ep→Bool
 | .ready=>true
 |_=>false
noncomputable def isCall:Ep→Bool
 | .eC=>true
 |_=>false
theorem Kf(a:Ep):(a.s== "completed")=ef a:=by induction a<;>kernel_rfl
theorem Kg(a:Ep):(a.s== "done")=isDone a:=by induction a<;>kernel_rfl
theorem NO(a:Ep):(a.s== "ready")=isReady a:=by induction a<;>kernel_rfl
theorem FC(a:Ep):(a.s== "calling")=isCall a:=by induction a<;>kernel_rfl
theorem PS(a:Ep):(a.s== "leaving")=false:=by induction a<;>kernel_rfl
theorem NN(a:Ep):(a.s== "fresh")=false:=by induction a<;>kernel_rfl
theorem DB(R:Inv c σ H)(q:Q (.bool false) H):Wp (jk [.ref ff]) H Q:=by
 refine Wp.f rfl ?_
 unfold pH
 refine Wp.b (Wp.p (Wp.b (nK R (Wp.cy ?_))))
 refine ia (vs:=B5 c) (by refine kR.symm▸?_;have:=R.ok.n6;exact bN ‹_› (by decide)) (fun j st H'=>H'=H∧st= [.bool false]) (fun _ _ H' h j=>by refine h.1.symm▸?_;exact c6 R.st.tl j) ⟨rfl,rfl⟩ (fun j v st H' hv hI=>?_) fun st H' hI=>?_
 ·obtain⟨rfl,rfl⟩:=hI
  obtain⟨hj,rfl⟩:=uM hv
  exact Wp.b (Wp.jE (Wp.b (Wp.aE (R.ts j hj) B0 ⟨false,H',rfl,rfl,Wp.cy (Wp.p (Wp.p ⟨rfl,rfl⟩))⟩)))
 ·obtain⟨rfl,rfl⟩:=hI
  exact Wp.p q
def ic(σ:St)(j:Nat):St:={σ with tp:=fun i=>if i<j∧ef (σ.tp i).st=true then {σ.tp i with st:= .done} else σ.tp i}
theorem OM(R:Inv c σ H)(hi:i<c.n){p:TP}{Q:Unit→Hp→Prop}(q:∀H',Inv c {σ with tp:=up σ.tp i {σ.tp i with st:= .done}} H'→Q () H'):Wp (Internal.bb (.ref (tA i)) .state (.str "done")) H Q:=by
 refine Wp.bb (R.ts i hi) oN (by kernel_rfl) (q _ (FD R (dm rfl (.inl (by refine(?_:100≤102);exact af _ _))) au))
theorem KD:ic σ (j+1)=if ef (σ.tp j).st=true then {ic σ j with tp:=up (ic σ j).tp j {(ic σ j).tp j with st:= .done}} else ic σ j:=by
 haveI e:(ic σ (j+1)).tp=if ef (σ.tp j).st=true then up (ic σ j).tp j {(ic σ j).tp j with st:= .done} else(ic σ j).tp:=by
  funext i
  refine(?_:(if i<j+1∧ef (σ.tp i).st=true then {σ.tp i with st:= .done} else σ.tp i)=_)
  by_cases TN:i=j
  ·subst TN
   by_cases hc:ef (σ.tp i).st=true
   ·rw [if_pos ⟨aW _,hc⟩,if_pos hc,bB]
    refine(?_:_={(if i<i∧ef (σ.tp i).st=true then {σ.tp i with st:= .done} else σ.tp i:TP) with st:= .done})
    rw [if_neg fun h=>dZ _ h.1]
   ·rw [if_neg fun h=>hc h.2,if_neg hc]
    refine(?_:_=if i<i∧ef (σ.tp i).st=true then {σ.tp i with st:= .done} else σ.tp i)
    rw [if_neg fun h=>hc h.2]
  ·haveI h1:(if ef (σ.tp j).st=true then up (ic σ j).tp j {(ic σ j).tp j with st:= .done} else(ic σ j).tp) i=(ic σ j).tp i:=by
    by_cases hc:ef (σ.tp j).st=true
    ·rw [if_pos hc];exact dH TN
    ·rw [if_neg hc]
   rw [h1]
   refine(?_:_=if i<j∧ef (σ.tp i).st=true then {σ.tp i with st:= .done} else σ.tp i)
   have:i<j+1↔i<j:=by lia
   simp only [this]
 by_cases hc:ef (σ.tp j).st=true
 ·rw [if_pos hc] at e ⊢
  refine(?_:St.mk _ _ _ _ _ _ (ic σ (j+1)).tp _ _ _ _ _ _=_)
  refine e.symm▸?_;rfl
 ·rw [if_neg hc] at e ⊢
  refine(?_:St.mk _ _ _ _ _ _ (ic σ (j+1)).tp _ _ _ _ _ _=_)
  refine e.symm▸?_;rfl
theorem JH(h:j≤i):(ic σ j).tp i=σ.tp i:=if_neg fun x=>by lia
theorem uj(R:Inv c σ H)(q:∀H',Inv c (ic σ c.n) H'→Q (.bool ((aR c.n).any fun i=>ef (σ.tp i).st)) H'):Wp (lY [.ref ff]) H Q:=by
 refine Wp.f rfl ?_
 unfold vv
 refine Wp.b (Wp.p (Wp.b (nK R (Wp.cy ?_))))
 haveI R0:Inv c (ic σ 0) H:=by
  haveI e:ic σ 0=σ:=by
   have:(ic σ 0).tp=σ.tp:=funext fun i=>JH (dM _)
   refine(?_:St.mk _ _ _ _ _ _ (ic σ 0).tp _ _ _ _ _ _=_)
   (refine this.symm▸?_;with_reducible rfl)
  refine e.symm▸?_;exact R
 refine ia (vs:=B5 c) (by refine kR.symm▸?_;have:=R.ok.n6;omega) (fun j st H'=>j≤c.n∧Inv c (ic σ j) H'∧st= [.bool ((aR j).any fun i=>ef (σ.tp i).st)]) (fun _ _ H' h j=>c6 h.2.1.st.tl j) ⟨dM _,R0,rfl⟩ (fun j v st H' hv hI=>?_) fun st H' hI=>?_
 ·refine fC (hI) fun _ R' cj=>?_
  apply iH cj
  obtain⟨hj,rfl⟩:=uM hv
  haveI uA:((ic σ j).tp j).st=(σ.tp j).st:=by(refine(ah (JH (az _)))▸?_;with_reducible rfl)
  haveI ra:(aR (j+1)).any (fun i=>ef (σ.tp i).st)=((aR j).any (fun i=>ef (σ.tp i).st)||ef (σ.tp j).st):=by(refine Cd.symm▸?_;refine List.any_append.symm▸?_);simp
  haveI st:=KD (σ:=σ) (j:=j)
  refine Wp.b (Wp.jE (nG R' hj (by kernel_rfl) (PS _) ⟨rfl,Wp.cy (Wp.b ?_)⟩))
  induction hc:ef (σ.tp j).st with
  |false=>
   rw [hc,if_neg aw] at st
   refine Wp.jE (nG R' hj (by kernel_rfl) ((Kf _).trans (by refine uA.symm▸?_;exact hc)) ⟨rfl,Wp.cy (Wp.p (Wp.p (Wp.p ⟨hj,st▸R',?_⟩)))⟩)
   rw [ra,hc,Bool.or_false]
  |true=>
   rw [hc,if_pos rfl] at st
   refine Wp.lz (nG R' hj (by kernel_rfl) ((Kf _).trans (by refine uA.symm▸?_;exact hc)) ⟨rfl,?_⟩)
   refine Wp.b2 (Wp.aE (R'.ts j hj) r4 ?_)
   refine gT (vs:= []) (by exact af _ _) (fun _=>true) id (fun _=>True) R'.fr (by simp) trivial (fun iw _ _ j=>gp j) (fun _ _ _ _ _ _=>trivial) (fun v hv=>by exact aj (by cases hv)) (fun v hv=>by exact aj (by cases hv)) fun iw r _ s2 tr lr _ gr=>?_
   haveI Ko:=R'.cu s2
   refine Wp.b (Wp.lst (by kernel_rfl) (Wp.nil (by refine(?_:(match iw.get r with|some (.list vs)=>some vs|_=>none)=_);refine gr.symm▸?_;rfl) ?_))
   refine Wp.cy (Wp.b (OM (p:=σ.tp j) Ko hj fun dg R3=>Wp.b (Wp.p (Wp.p (Wp.p (Wp.p ⟨hj,st▸R3,?_⟩))))))
   rw [ra,hc,Bool.or_true]
 ·refine fC (hI) fun _ R' cj=>?_
  apply iH cj
  rw [kR] at R' ⊢
  exact Wp.p (q H' R')
theorem Mq(R:Inv c σ H)(q:∀(H':Hp) (r:VA),cZ (fun _=>False) H H'→H'.get r=some (.list [])→Q (.ref r) H'):Wp (mP [.ref ff]) H Q:=by
 refine eY (R.tk) fun u lo a _=>?_
 refine Wp.f rfl ?_
 unfold sx
 refine Wp.b4 (Wp.aE a Jo (Wp.aE R.st.li (u:= .bool false) rfl ⟨false,H,rfl,Wp.IY R.fr (by exact af _ _) (by kernel_rfl) (Wp.b ?_)⟩))
 have s0:cZ (fun _=>False) H (H.set ⟨1,H.next⟩ (.list [])):=gP (by exact af _ _)
 haveI ol:Old (H.set ⟨1,H.next⟩ (.list [])) ⟨1,H.next⟩:= .inr (aW _)
 have back:∀{H'},cZ (fun y=>y=⟨1,H.next⟩) (H.set ⟨1,H.next⟩ (.list [])) H'→cZ (fun _=>False) H H':=fun {H'} s=>⟨ai s0.next s.next,fun y _ ho=>by
  have:y≠⟨1,H.next⟩:=by
   rintro rfl
   rcases ho with h|h
   ·exact absurd h (by refine(?_:¬(100≤1));decide)
   ·exact dZ _ h
  refine cQ (s0.keep y id ho) fun a b=>?_
  refine cQ (s.keep y this (ho.on s0)) fun c d=>?_
  exact⟨c.trans a,d.trans b⟩,fun f=>s.fresh (s0.fresh f)⟩
 refine nK (R.cu s0) (Wp.cy ?_)
 refine ia (vs:=B5 c) (by refine kR.symm▸?_;have:=R.ok.n6;exact bN ‹_› (by decide)) (fun j st H'=>cZ (fun y=>y=⟨1,H.next⟩) (H.set ⟨1,H.next⟩ (.list [])) H'∧H'.get ⟨1,H.next⟩=some (.list [])) (fun _ _ H' h j=>c6 ((R.cu (back h.1)).st.tl) j) ⟨.refl,au⟩ (fun j v st H' hv hI=>?_) fun st H' hI=>?_
 ·refine cQ (hI) fun s gd=>?_
  refine cQ (uM hv) fun hj cj=>?_;subst cj
  haveI R':=R.cu (back s)
  refine Wp.b3 (Wp.jo gd (Wp.b3 (Wp.aE (R'.ts j hj) r4 ?_)))
  refine gT (vs:= []) (by exact af _ _) (fun _=>true) id (fun _=>True) R'.fr (by simp) trivial (fun iw _ _ j=>gp j) (fun _ _ _ _ _ _=>trivial) (fun v hv=>by exact aj (by cases hv)) (fun v hv=>by exact aj (by cases hv)) fun iw r _ s2 tr lr _ gr=>?_
  haveI VM:=s2.get id (ol.on s) gd
  exact Wp.p (Ej VM gr (dM _) (Wp.p (Wp.p ⟨(s.trans (s2.mono fun _ f=>f.elim)).trans (dm rfl ((ol.on s).on s2)),au⟩)))
 ·exact Wp.p (q H' _ (back hI.1) hI.2)
theorem BX(R:Inv c σ H)(q:∀H',cZ (fun _=>False) H H'→Q (.bool false) H'):Wp (iB [.ref ff]) H Q:=by
 refine Wp.f rfl ?_
 unfold oe
 refine Wp.b (Wp.p (Wp.b (Mq R fun aG r s g=>Wp.cy ?_)))
 refine ia (vs:= []) (by simp) (fun _ st H'=>H'=aG∧st= [.bool false]) (fun _ _ H' h j=>by refine h.1.symm▸?_;exact c6 g j) ⟨rfl,rfl⟩ (fun i v st H' hv=>by simp at hv) fun st H' h=>?_
 obtain⟨rfl,rfl⟩:=h
 exact Wp.p (q H' s)
noncomputable abbrev b4(t:Nat):Bool:=t==104
theorem AQ(hi:i<c.n):ef ((ic σ c.n).tp i).st=false:=by
 refine(?_:ef (if i<c.n∧ef (σ.tp i).st=true then {σ.tp i with st:= .done} else σ.tp i:TP).st=false)
 by_cases h:ef (σ.tp i).st=true
 ·rw [if_pos ⟨hi,h⟩];rfl
 ·rw [if_neg fun x=>h x.2];simpa using h
theorem OL:ic (ic σ c.n) c.n=ic σ c.n:=by
 have:(ic (ic σ c.n) c.n).tp=(ic σ c.n).tp:=funext fun i=>by
  refine(?_:(if i<c.n∧ef ((ic σ c.n).tp i).st=true then _ else(ic σ c.n).tp i)=_)
  refine if_neg fun h=>?_
  rw [AQ h.1] at h
  exact aw h.2
 refine(?_:St.mk _ _ _ _ _ _ (ic (ic σ c.n) c.n).tp _ _ _ _ _ _=_)
 (refine this.symm▸?_;with_reducible rfl)
theorem Ra:((aR c.n).any fun i=>ef ((ic σ c.n).tp i).st)=false:=by
 rw [yM]
 intro i hi h2
 rw [AQ (ei.mp hi)] at h2
 exact aw h2
theorem Ef(R:Inv c σ H)(q:∀H',Inv c (ic σ c.n) H'→Q .none H'):Wp (kT [.ref ff]) H Q:=by
 refine Wp.f rfl ?_
 unfold ud
 refine Wp.cy ?_
 refine pw (fun k st H'=>(k=1∧Inv c σ H')∨(k=0∧Inv c (ic σ c.n) H')) 1 (by exact af _ _) (.inl ⟨rfl,R⟩) fun k st aG hI=>?_
 haveI N1:∀{a9:St} {aG:Hp},Inv c a9 aG→∀{pW:Bool→Hp→Prop},(∀H',Inv c (ic a9 c.n) H'→pW ((aR c.n).any fun i=>ef (a9.tp i).st) H')→Wp (testM .Or [((jk [.ref ff]).d fun v=>(bV v)),((lY [.ref ff]).d fun v=>(bV v)),((iB [.ref ff]).d fun v=>(bV v))]) aG pW:=fun {a9 aG} aD {pW} z=>by
  refine Wp.Uy (Wp.b (DB aD ⟨false,aG,rfl,rfl,?_⟩))
  induction ha:(aR c.n).any fun i=>ef (a9.tp i).st with
  |true=>exact Wp.Ld (Wp.b (uj aD fun bh bf=>⟨_,bh,rfl,ha,ha▸z bh bf⟩))
  |false=>exact Wp.Uy (Wp.b (uj aD fun bh bf=>⟨_,bh,rfl,ha,Wp.nM (Wp.b (BX bf fun dg s3=>⟨false,dg,rfl,ha▸z dg (bf.cu s3)⟩))⟩))
 haveI body:∀{a9:St} {aG:Hp},Inv c a9 aG→∀{pW:Fl→Hp→Prop},(∀H',Inv c a9 H'→pW (.next []) H')→Wp ((((Internal.aE (.ref ff) .settled).d fun old=>((j4 .Add old (.int 1)).d fun u=>Internal.bb (.ref ff) .settled u)).d fun _=>nX)) aG pW:=fun {a9 aG} aD {pW} z=>by
  refine sN (aD.tk) fun u lo a t e=>?_
  refine Wp.b2 (Wp.aE a Jp (Wp.b ⟨.int (u+1),aG,rfl,Wp.bb a (FY:=pP (QH c a9 (u+1) lo)) rfl (by kernel_rfl) (Wp.p (z _ ?_))⟩))
  haveI s':fi b4 aG (aG.set ff (.inst 544 (pP (QH c a9 (u+1) lo)))):=dm rfl (.inl (by decide))
  exact {fr:=s'.fresh aD.fr,st:=aD.Un s' rfl rfl rfl rfl,tk:=⟨u+1,lo,au,t,s'.get aD.fr t rfl e⟩,ck:=aD.Uh s' rfl,th:=aD.Uo s' rfl rfl,rm:=aD.Ul s' rfl rfl rfl,gu:=aD.Uj s' rfl,ts:=aD.Up s' rfl,qe:=aD.Uk s' rfl,qr:=aD.SI s' rfl rfl,ca:=aD.SH s' rfl,cn:=aD.Ui s' rfl,sl:=aD.Um s' rfl,ce:=aD.Ug s' rfl,kl:=aD.Vg s' rfl,ok:=aD.ok,c0:=⟨aD.c0.q,aD.c0.line,aD.c0.within,aD.c0.steps⟩}
 rcases hI with⟨rfl,aD⟩|⟨rfl,aD⟩
 ·refine N1 aD fun bh bf=>?_
  induction ha:(aR c.n).any fun i=>ef (σ.tp i).st with
  |true=>exact MP (body bf fun dg dp=>⟨0,by exact az _,.inr ⟨rfl,dp⟩⟩)
  |false=>exact MN (Wp.p (q bh bf))
 ·refine N1 aD fun bh bf=>?_
  refine Ra.symm▸?_
  exact MN (Wp.p (q bh (OL▸bf)))
structure Cn(c:Cf)(σ:St):Prop where
 wf:Wf c σ []
 lk:σ.lk=none
 jK:∀k∈c.ks,∀i∈σ.qg k,(c.pat i).cond=false
 set:σ.dN=0→Aa c σ
 lb:σ.dN≤6
theorem Cn.dn(h:Cn c σ):Cn c (ic σ c.n):=by
 haveI w:=h.wf
 refine⟨⟨fun j hj=>?_,fun j hj=>?_,w.od,w.o2,w.wit,w.sW,w.tq⟩,h.lk,h.jK,fun e=>⟨(h.set e).ik,(h.set e).jK⟩,h.lb⟩
 ·refine dh (w.ph j hj) fun p x=>?_
  by_cases hc:ef (σ.tp j).st=true
  ·have hs:(σ.tp j).st= .ju:=by induction e:(σ.tp j).st<;>rw [e] at hc<;>first|rfl|exact ft hc
   haveI e1:(ic σ c.n).tp j={σ.tp j with st:= .done}:=if_pos ⟨hj,hc⟩
   have nV:∀{a1 a2 a3 a4 a5},σ.tp j=⟨a1,a2,a3,a4,a5⟩→a1= .ju:=fun h=>by replace hs:=(h)▸hs;exact hs
   induction p with
   |comp=>exact⟨.done,by refine(?_:((ic σ c.n).tp j).st=_);(refine e1.symm▸?_;with_reducible rfl),by refine(?_:((ic σ c.n).tp j).wake=_);refine e1.symm▸?_;exact x.2.1,x.2.2.1,x.2.2.2.1,x.2.2.2.2⟩
   |done=>exact absurd (hs.symm.trans x.1) (by intro h;exact aj (by cases h))
   |new=>cases nV x.1
   |rest _=>cases nV x.1
   |lq=>cases nV x.1
   |wait=>cases nV x.1
   |HT=>cases nV x.1
   |turned=>cases nV x.1
   |lK _=>cases nV x.1
   |gO _=>cases nV x.1
   |lu=>cases nV x.1
   |left=>cases nV x.1
  ·exact mK p (xo x (if_neg fun h=>hc h.2) rfl rfl Iff.rfl Iff.rfl (fun _ _=>Iff.rfl) Iff.rfl rfl)
 ·refine(?_:((if j<c.n∧ef (σ.tp j).st=true then {σ.tp j with st:= .done} else σ.tp j:TP)).ins=_)
  split
  ·exact w.ins j hj
  ·exact w.ins j hj
structure H7(c:Cf)(σ aY:St):Prop where
 gs:aY.gs=σ.gs
 now:aY.now=σ.now
 steps:aY.steps=σ.steps
 dead:∀i<c.n,Internal.dead (aY.tp i).st=Internal.dead (σ.tp i).st
 rd:∀i<c.n,isReady (σ.tp i).st=true→isReady (aY.tp i).st=true
 cp:∀i<c.n,ef (σ.tp i).st=false→ef (aY.tp i).st=false
theorem H7.refl:H7 c σ σ:=⟨rfl,rfl,rfl,fun _ _=>rfl,fun _ _ h=>h,fun _ _ h=>h⟩
theorem H7.trans(a:H7 c σ aY)(b:H7 c aY pS):H7 c σ pS:=⟨b.gs.trans a.gs,b.now.trans a.now,b.steps.trans a.steps,fun i h=>(b.dead i h).trans (a.dead i h),fun i h x=>b.rd i h (a.rd i h x),fun i h x=>b.cp i h (a.cp i h x)⟩
theorem H7.dn:H7 c σ (ic σ c.n):=by
 have e:∀i<c.n,(ic σ c.n).tp i=if ef (σ.tp i).st=true then {σ.tp i with st:= .done} else σ.tp i:=fun i h=>by
  refine(?_:(if i<c.n∧ef (σ.tp i).st=true then {σ.tp i with st:= .done} else σ.tp i:TP)=_)
  simp only [h,true_and]
 refine⟨rfl,rfl,rfl,fun i h=>?_,fun i h x=>?_,fun i h _=>AQ h⟩
 ·rw [e i h]
  by_cases hc:ef (σ.tp i).st=true
  ·rw [if_pos hc]
   induction hs:(σ.tp i).st<;>rw [hs] at hc<;>first|rfl|exact ft hc
  ·rw [if_neg hc]
 ·rw [e i h,if_neg fun hc=>by induction hs:(σ.tp i).st<;>rw [hs] at hc x<;>first|(cases x;done)|(cases hc;done)]
  exact x
theorem Keeps.sch(K:Keeps c σ aY tl [])(w:Wf c σ tl)(F:Cm c σ):H7 c σ aY:=by
 have q:∀i,(aY.tp i)=σ.tp i∨((σ.tp i).st= .eC∧((aY.tp i).st= .eC∨(aY.tp i).st= .ready)):=fun i=>by
  by_cases h:∃k∈c.ks,i∈σ.qg k
  ·refine aS (h) fun k hk hi=>?_
   exact .inr ⟨w.calls F hk hi,K.qs k hk i hi⟩
  ·exact .inl (K.tp i fun k hk hi=>h ⟨k,hk,hi⟩)
 refine⟨K.gs,K.now,K.steps,fun i _=>?_,fun i _ x=>?_,fun i _ x=>?_⟩
 ·rcases q i with e|⟨e,e'|e'⟩
  ·(refine e.symm▸?_;with_reducible rfl)
  ·(refine e.symm▸?_;refine e'.symm▸?_;with_reducible rfl)
  ·(refine e.symm▸?_;refine e'.symm▸?_);rfl
 ·rcases q i with e|⟨e,_⟩
  ·refine e.symm▸?_;exact x
  ·replace x:=(e)▸x;exact ft x
 ·rcases q i with e|⟨e,e'|e'⟩
  ·refine e.symm▸?_;exact x
  ·refine e'.symm▸?_;rfl
  ·refine e'.symm▸?_;rfl
noncomputable def rH(w:Option Int)(t:Int):Bool:=match w with
 |none=>false
 |some w=>decide (w≤t)
theorem D1(MB:H.get sV=some (.inst 88 (HS n)))(q:Q (.bool (rH w n)) H):Wp (qE [.ref sV,uf w]) H Q:=by
 refine Wp.f rfl ?_
 unfold GZ
 induction w with
 |none=>exact Wp.b3 (Wp.jH (Wp.p (Wp.b ⟨false,H,rfl,Wp.p (Wp.p q)⟩)))
 |some w=>
  refine Wp.b3 (Wp.jH (Wp.p (Wp.b ⟨true,H,rfl,?_⟩)))
  refine(?_:Wp ((Internal.aE (.ref sV) .now).d fun b=>((aX .LtE (.int w) b).d fun c=>pU (V.bool c))) H _)
  exact Wp.b (Wp.aE MB AA (Wp.b ⟨decide (w≤n),H,rfl,Wp.p (Wp.p q)⟩))
theorem AB(R:Inv c σ H)(q:Q (.ref sV) H):Wp (Internal.aE (.ref ff) .lB) H Q:=by
 refine eY (R.tk) fun u lo a _=>?_
 exact Wp.aE a ur q
theorem Wf.PE(w:Wf c σ tl)(hi:i<c.n)(hc:isCall (σ.tp i).st=true):rH (σ.tp i).wake σ.now=false:=by
 refine dh (w.ph i hi) fun p x=>?_
 have hs:(σ.tp i).st= .eC:=by induction e:(σ.tp i).st<;>rw [e] at hc<;>first|rfl|exact ft hc
 have nV:∀{a1 a2 a3 a4 a5},σ.tp i=⟨a1,a2,a3,a4,a5⟩→a1= .eC:=fun h=>by rw [h] at hs;exact hs
 induction p with
 |comp=>exact absurd (hs.symm.trans x.1) (by intro h;exact aj (by cases h))
 |done=>exact absurd (hs.symm.trans x.1) (by intro h;exact aj (by cases h))
 |new=>cases nV x.1
 |rest _=>cases nV x.1
 |lq=>cases nV x.1
 |HT=>cases nV x.1
 |turned=>cases nV x.1
 |lK _=>cases nV x.1
 |gO _=>cases nV x.1
 |lu=>cases nV x.1
 |left=>cases nV x.1
 |wait=>
  refine Rb (x) fun h1 _ h3 _ _ _ h7 _=>?_
  haveI h1:σ.tp i=⟨_,(c.pat i).CH (σ.gs i).since,_,_,_⟩:=h1
  haveI h3:(σ.gs i).jG=tK (c.pat i) (σ.gs i).since:=h3
  haveI h7:isLive (σ.gs i) σ.now=true:=h7
  unfold isLive at h7
  rw [h3] at h7
  rw [h1]
  induction hp:c.pat i with
  |none=>rfl
  |sW=>rfl
  |num k=>
   rw [hp] at h7
   haveI h7:σ.now<(σ.gs i).since+k:=of_decide_eq_true h7
   exact decide_eq_false (by lia)
theorem Gy(w:Wf c σ tl)(R:Inv c σ H)(q:∀H',cZ (fun _=>False) H H'→Q (.bool false) H'):Wp (tB [.ref ff]) H Q:=by
 refine Wp.f rfl ?_
 unfold BI
 refine Wp.b2 (nK R ?_)
 refine gT (vs:=B5 c) (by exact af _ _) (fun _=>false) id (fun _=>True) R.fr (by refine kR.symm▸?_;have:=R.ok.n6;exact ai ‹_› (by decide)) trivial (fun H' _ s j=>c6 (R.cu s).st.tl j) (fun _ _ _ _ _ _=>trivial) (fun v hv H' _ s=>?_) (fun v hv hb=>by exact ft hb) fun H' r _ s tr lr _ gr=>?_
 ·refine dh (aQ.mp hv) fun j Wd=>?_
  refine cQ (uM Wd) fun hj cj=>?_;subst cj
  have R':=R.cu s
  refine Wp.nM ?_
  induction hc:isCall (σ.tp j).st with
  |false=>exact Wp.jE (nG R' hj (by kernel_rfl) ((FC _).trans hc) ⟨rfl,rfl,trivial,.refl⟩)
  |true=>
   refine Wp.lz (nG R' hj (by kernel_rfl) ((FC _).trans hc) ⟨rfl,?_⟩)
   refine Wp.b3 (AB R' (Wp.b2 (Wp.aE (R'.ts j hj) yJ (Wp.p (Wp.p ?_)))))
   exact D1 (w:=(σ.tp j).wake) R'.ck ⟨false,H',by refine(ah (w.PE hj hc))▸?_;rfl,rfl,trivial,.refl⟩
 ·replace gr:=(hJ.mpr fun _ _=>aw)▸gr
  refine Wp.b (Wp.p (Wp.cy ?_))
  refine ia (vs:= []) (by simp) (fun _ st bh=>bh=H') (fun _ _ bh h j=>by refine h.symm▸?_;exact c6 gr j) rfl (fun i v st H' hv=>by simp at hv) fun st bh h=>?_
  subst h
  refine Wp.b2 (Wp.lst (by kernel_rfl) (Wp.b (Wp.YK (l:= []) (by refine(?_:(match bh.get r with|some (.list vs)=>some vs|_=>none)=_);refine gr.symm▸?_;rfl) (Wp.p (Wp.p (q bh s))))))
theorem Sb(m:Nat):(fu m nZ).map V.ref=fu m (V.ref nZ):=List.map_replicate ..
theorem Dz(h:Cn c σ)(R:Inv c σ H)(q:∀H' aY,Inv c aY H'→Good c aY→aY.dN=0→H7 c σ aY→Q (.bool (!decide (σ.dN=0))) H'):Wp (qc [.ref ff]) H Q:=by
 refine sN (R.tk) fun u lo a t e=>?_
 refine Wp.f rfl ?_
 unfold xk
 refine Wp.b (Wp.aE a Kh (Wp.b2 (Wp.IY R.fr (by exact af _ _) (by kernel_rfl) ?_)))
 haveI s0:cZ (fun _=>False) H (H.set ⟨14,H.next⟩ (.list [])):=gP (by exact af _ _)
 haveI R0:=R.cu s0
 haveI a0:=s0.old R.fr a
 haveI e0:=s0.old R.fr e
 refine Wp.bb a0 (FY:=pP (QH c {σ with dN:=0} u ⟨14,H.next⟩)) rfl (by kernel_rfl) ?_
 haveI s':fi b4 (H.set ⟨14,H.next⟩ (.list [])) ((H.set ⟨14,H.next⟩ (.list [])).set ff (.inst 544 (pP (QH c {σ with dN:=0} u ⟨14,H.next⟩)))):=dm rfl (.inl (by decide))
 have R1:Inv c {σ with dN:=0,kl:=(lo,σ.dN)::σ.kl} ((H.set ⟨14,H.next⟩ (.list [])).set ff (.inst 544 (pP (QH c {σ with dN:=0} u ⟨14,H.next⟩)))):=
  {fr:=s'.fresh R0.fr,st:=R0.Un s' rfl rfl rfl rfl,tk:=⟨u,⟨14,H.next⟩,au,rfl,s'.get R0.fr rfl rfl au⟩,ck:=R0.Uh s' rfl,th:=R0.Uo s' rfl rfl,rm:=R0.Ul s' rfl rfl rfl,gu:=R0.Uj s' rfl,ts:=R0.Up s' rfl,qe:=R0.Uk s' rfl,qr:=R0.SI s' rfl rfl,ca:=R0.SH s' rfl,cn:=R0.Ui s' rfl,sl:=R0.Um s' rfl,ce:=R0.Ug s' rfl,kl:=fun p hp=>(bF.mp hp).elim (fun x=>by subst x;exact⟨t,s'.get R0.fr t rfl e0⟩) (R0.Vg s' rfl p),ok:=R0.ok,c0:=⟨R0.c0.q,R0.c0.line,R0.c0.within,R0.c0.steps⟩}
 generalize ((H.set ⟨14,H.next⟩ (.list [])).set ff (.inst 544 (pP (QH c {σ with dN:=0} u ⟨14,H.next⟩))))=aG at R1
 have serve:∀{a9:St} {aG:Hp},Inv c a9 aG→∀{Q:V→Hp→Prop},Q (.iC 1 [c.xr]) aG→Wp (Internal.aE (.ref ff) .serve) aG Q:=fun {a9 aG} R {Q} z=>by
  refine eY (R.tk) fun u lo a _=>?_
  exact Wp.aE a NY z
 refine Wp.b2 (serve R1 (Wp.is (Wp.cy (Wp.p (Wp.b (Wp.p (Wp.cy ?_)))))))
 haveI W1:Wf c {σ with dN:=0,kl:=(lo,σ.dN)::σ.kl} []:=⟨h.wf.ph,h.wf.ins,h.wf.od,h.wf.o2,h.wf.wit,h.wf.sW,h.wf.tq⟩
 haveI gl:∀{a9:St} {aG:Hp},Inv c a9 aG→(lo,σ.dN)∈a9.kl→aG.get lo=some (.list (fu σ.dN (.ref nZ))):=fun R hm=>(R.kl _ hm).2
 by_cases hz:∃n,σ.dN=n
 ·refine dh (hz) fun n hn=>?_
  refine ia (vs:=fu n (.ref nZ)) ?_ (fun j st H'=>∃aY,Inv c aY H'∧Wf c aY []∧(∀k∈c.ks,∀i∈aY.qg k,(c.pat i).cond=false)∧aY.lk=none∧aY.dN=0∧H7 c σ aY∧(lo,σ.dN)∈aY.kl∧(j≠0∨σ.dN=0→Aa c aY)) (fun _ _ H' ⟨aY,R',_,_,_,_,_,hk,_⟩ j=>c6 (hn▸gl R' hk) j) ⟨_,R1,W1,h.jK,h.lk,rfl,⟨rfl,rfl,rfl,fun _ _=>rfl,fun _ _ x=>x,fun _ _ x=>x⟩,by simp,fun x=>⟨(h.set (x.resolve_left fun y=>y rfl)).ik,(h.set (x.resolve_left fun y=>y rfl)).jK⟩⟩ (fun j v st bh hv hI=>?_) fun st bh hI=>?_
  ·refine uv.symm▸?_;have:=h.lb;lia
  ·refine Tf (hI) fun pS bf OE j3 tm Q0 eh QT QQ=>?_
   obtain⟨hv⟩:v= .ref nZ:=by
    have:=aB hv
    exact(List.mem_replicate.mp this).2
   refine Wp.b3 (serve bf (Wp.b ⟨(),bh,rfl,?_⟩))
   refine FO (Cb (by simp) (Wp.f rfl ?_))
   refine(?_:Wp (ua c.xr (.ref nZ)) bh _)
   unfold ua
   refine Wp.b4 (ko bf.st.xr (Wp.p ?_))
   refine FF bf OE fun dg zt Sl dp Vv fw xF=>Wp.p (Wp.p ?_)
   have t0:Sl= []:=by
    rcases xF.tl with e|⟨j,e,hc,k,hk,hj⟩
    ·exact e
    ·rw [j3 k hk j hj] at hc;exact ft hc
   subst t0
   exact Wp.p (Wp.p ⟨zt,dp,Vv,fw.jK,xF.lk.trans tm,xF.dN.trans Q0,eh.trans (xF.sch OE bf.c0),xF.kl▸QT,fun _=>fw⟩)
  ·refine Tf (hI) fun pS bf OE j3 tm Q0 eh QT QQ=>?_
   rw [uv] at QQ
   haveI set:=QQ (by by_cases h0:σ.dN=0;exact .inr h0;exact .inl (by lia))
   haveI g:=gl bf QT
   haveI s3:cZ (fun _=>False) bh (bh.set ⟨14,bh.next⟩ (.list [])):=gP (by exact af _ _)
   refine Wp.b2 (Wp.IY bf.fr (by exact af _ _) (by kernel_rfl) (Wp.b (Wp.Uu (l:=fu σ.dN nZ) ?_ au (Wp.p (Wp.p ?_)))))
   ·refine(?_:(match(bh.set ⟨14,bh.next⟩ (.list [])).get lo with|some (.list vs)=>some vs|_=>none)=_)
    rw [s3.old bf.fr g,Sb]
   ·haveI e:(!(fu σ.dN nZ).isEmpty)= !decide (σ.dN=0):=by induction σ.dN<;>rfl
    refine e.symm▸?_
    exact q _ pS (bf.cu s3) ⟨OE,set,tm⟩ Q0 eh
 ·exact absurd ⟨_,rfl⟩ hz
noncomputable def YU(f:Nat→Bool):V→Bool
 | .ref x=>f (x.n-1)
 |_=>false
def SN(c:Cf)(σ:St):List Nat:=(aR c.n).filter fun i=>isReady (σ.tp i).st
theorem Ap{v:V}(h:v∈B5 c):∃j,j<c.n∧v= .ref (tA j):=by
 refine dh (aQ.mp h) fun j Wd=>?_
 exact⟨j,uM Wd⟩
theorem NC(R:Inv c σ H)(q:∀(H':Hp) (r:VA),cZ (fun _=>False) H H'→H'.get r=some (.list ((SN c σ).map fun i=>V.ref (tA i)))→r.t=9→Q (.ref r) H'):Wp (oX [.ref ff]) H Q:=by
 refine Wp.f rfl ?_
 unfold vq
 refine Wp.b2 (nK R ?_)
 refine gT (vs:=B5 c) (by exact af _ _) (YU fun i=>isReady (σ.tp i).st) id (fun _=>True) R.fr (by refine kR.symm▸?_;have:=R.ok.n6;exact ai ‹_› (by decide)) trivial (fun H' _ s j=>c6 (R.cu s).st.tl j) (fun _ _ _ _ _ _=>trivial) (fun v hv H' _ s=>?_) (fun v hv _ H' _ s=>Wp.p ⟨rfl,trivial,.refl⟩) fun H' r _ s tr lr _ gr=>Wp.p (q H' r s ?_ tr)
 ·refine aS (Ap hv) fun j hj cj=>?_
  apply iH cj
  exact Wp.nM (nG (R.cu s) hj (by kernel_rfl) (NO _) ⟨rfl,trivial,.refl⟩)
 ·rw [gr,qB,jD];rfl
theorem Js(R:Inv c σ H)(q:∀(H':Hp) (r:VA) (l:List Nat),cZ (fun _=>False) H H'→H'.get r=some (.list (nU l))→(l= []↔∀i<c.n,isDone (σ.tp i).st=true)→Q (.ref r) H'):Wp (mQ [.ref ff]) H Q:=by
 refine Wp.f rfl ?_
 unfold sz
 refine Wp.b2 (nK R ?_)
 refine gT (vs:=B5 c) (by exact af _ _) (YU fun i=> !isDone (σ.tp i).st) (fun v=>match v with| .ref x=> .int x.n|_=> .none) (fun _=>True) R.fr (by refine kR.symm▸?_;have:=R.ok.n6;omega) trivial (fun H' _ s j=>c6 (R.cu s).st.tl j) (fun _ _ _ _ _ _=>trivial) (fun v hv H' _ s=>?_) (fun v hv _ H' _ s=>?_) fun H' r _ s tr lr _ gr=>Wp.p (q H' r (((aR c.n).filter fun i=> !isDone (σ.tp i).st).map fun i=>i+1) s ?_ ?_)
 ·refine aS (Ap hv) fun j hj cj=>?_
  apply iH cj
  refine Wp.nM ?_
  refine(?_:Wp _ H' fun b iw=>b= !isDone (σ.tp j).st∧_)
  induction hd:isDone (σ.tp j).st with
  |true=>exact Wp.jE (yI (R.cu s) hj (by kernel_rfl) ((Kg _).trans hd) ⟨rfl,rfl,trivial,.refl⟩)
  |false=>exact Wp.lz (yI (R.cu s) hj (by kernel_rfl) ((Kg _).trans hd) ⟨rfl,yI (R.cu s) hj (by kernel_rfl) (NN _) ⟨rfl,trivial,.refl⟩⟩)
 ·refine aS (Ap hv) fun j hj cj=>?_
  apply iH cj
  exact Wp.aE ((R.cu s).ts j hj) lI ⟨rfl,trivial,.refl⟩
 ·(refine gr.symm▸?_;refine jD.symm▸?_;refine eW.symm▸?_)
  refine(?_:some (ib.list (gf _ _))=some (ib.list (gf iV (gf _ _))))
  refine eW.symm▸?_;rfl
 ·rw [jb,hJ]
  constructor
  ·intro h i hi
   have:=h i (ei.mpr hi)
   induction hd:isDone (σ.tp i).st with
   |true=>rfl
   |false=>rw [hd] at this;exact absurd rfl this
  ·intro h i hi
   rw [h i (ei.mp hi)]
   exact aw
theorem Wp.Qu{u:V}(e:qL vs j=some u)(z:Q u H):Wp (fc (.lst vs) (.int j)) H Q:=by
 refine ie u H ?_ z
 refine(?_:(match qL vs j with|some u=>some (u,H)|none=>none)=_)
 (refine e.symm▸?_;with_reducible rfl)
theorem Wp.len{vs:List V}(h:listOf H v=some vs)(hl:vs.length≤4000000)(z:Q (.int vs.length) H):Wp (E9 [v]) H Q:=by
 refine ie (.int vs.length) H ?_ z
 refine(?_:(match listOf H v with|some us=>if us.length≤4000000 then some (V.int us.length,H) else none|none=>none)=_)
 refine h.symm▸?_
 exact if_pos hl
theorem A6{vs:List V}(hv:vs≠ [])(hl:vs.length≤4000000)(a:Int):∃(n:Nat) (u:V),a.fmod vs.length=(n:Int)∧vs[n]? =some u∧qL vs (a.fmod vs.length)=some u:=by
 haveI hp:(0:Int)<vs.length:=by have:=wo.mpr hv;exact sY.mpr ‹_›
 haveI h0:0≤a.fmod vs.length:=HX a hp
 haveI h1:a.fmod vs.length<vs.length:=LB a hp
 refine dh (sC h0) fun n hn=>?_
 rw [hn] at h1 ⊢
 haveI Iz:n<vs.length:=by exact sY.mp ‹_›
 exact zF n (vs[n]) rfl (bj Iz) (wZ (bj Iz) (by exact aT ‹_› ‹_›))
theorem IX{n:Nat}(hn:n≠0)(z:Q (.int (a.fmod n)) H):Wp (j4 .Mod (.int a) (.int n)) H Q:=by
 refine ie (.int (a.fmod n)) H ?_ z
 refine(?_:(if(n:Int)=0 then fL else pU (V.int (a.fmod n))) H=_)
 rw [if_neg (by lia)];rfl
noncomputable abbrev Zc(t:Nat):Bool:=t==17
theorem Kz(R:Inv c σ H)(hs:σ.steps<1000){l:List Nat}(hl:l≠ [])(h6:l.length≤1000)(hn:∀i∈l,i<c.n)(tr:r.t=9)(gr:H.get r=some (.list (l.map fun i=>V.ref (tA i))))(q:∀H' i,i∈l→Inv c {σ with steps:=σ.steps+1} H'→Q (.ref (tA i)) H'):
  Wp (nR [.ref ff,.ref r]) H Q:=by
 refine eY (R.tk) fun u lo a _=>?_
 refine aS (R.sl) fun ls U7 Z6=>?_
 refine Wp.f rfl ?_
 unfold tZ
 refine Wp.b2 (Wp.aE a Ln (Wp.b ⟨(),H,rfl,?_⟩))
 refine FO (Cb (by simpa using R.ok.xx) (Wp.f rfl ?_))
 refine(?_:Wp (rS c.xw c.xs (.ref r)) H _)
 unfold rS
 haveI cs:∀{Q:V→Hp→Prop},Q (.ref c.sl) H→Wp (d8 c.xs) H Q:=fun z=>ko R.st.xs z
 haveI cw:∀{Q:V→Hp→Prop},Q (.lst (c.r6.map V.int)) H→Wp (d8 c.xw) H Q:=fun z=>ko R.st.xw z
 haveI lsl:listOf H (.ref c.sl)=some ls:=by refine(?_:(match H.get c.sl with|some (.list vs)=>some vs|_=>none)=_);(refine U7.symm▸?_;with_reducible rfl)
 haveI lr:listOf H (.ref r)=some (l.map fun i=>V.ref (tA i)):=by refine(?_:(match H.get r with|some (.list vs)=>some vs|_=>none)=_);(refine gr.symm▸?_;with_reducible rfl)
 have UL:c.r6.map V.int≠ []:=fun e=>R.ok.r6 (jb.mp e)
 have wl:(c.r6.map V.int).length≤1000:=by rw [aq];exact R.ok.wl
 refine sN (A6 UL (by exact ai ‹_› (by decide)) (ls.length:Int)) fun n1 u1 e1 e2 e3=>?_
 obtain⟨w,hw,rfl⟩:∃w,w∈c.r6∧V.int w=u1:=aP.mp (aB e2)
 haveI YX:(l.map fun i=>V.ref (tA i))≠ []:=fun e=>hl (jb.mp e)
 have rl:(l.map fun i=>V.ref (tA i)).length≤1000:=by rw [aq];exact h6
 refine sN (A6 YX (by exact ai ‹_› (by decide)) w) fun n2 u2 f1 f2 f3=>?_
 obtain⟨i,hi,rfl⟩:∃i,i∈l∧V.ref (tA i)=u2:=aP.mp (aB f2)
 haveI hw0:(c.r6.map V.int).length≠0:=by have:=wo.mpr UL;exact mO ‹_›
 haveI Wz:(l.map fun i=>V.ref (tA i)).length≠0:=by have:=wo.mpr YX;exact mO ‹_›
 repeat (with_reducible refine Wp.b ?_)
 refine cs (Wp.b (Wp.jo U7 ?_))
 repeat (with_reducible refine Wp.b ?_)
 refine cw ?_
 repeat (with_reducible refine Wp.b ?_)
 refine cs (Wp.p (Wp.len lsl (by lia) ?_))
 repeat (with_reducible refine Wp.b ?_)
 refine cw (Wp.p (Wp.len (vs:=c.r6.map V.int) rfl (by exact ai ‹_› (by decide)) (IX hw0 ?_)))
 refine Wp.Qu e3 (Wp.b (Wp.len lr (by exact ai ‹_› (by decide)) (IX Wz ?_)))
 refine Wp.p (Wp.append U7 (by lia) (Wp.p ?_))
 have s':fi Zc H (H.set c.sl (.list (ls++ [.int (w.fmod ((l.map fun i=>V.ref (tA i)).length:Nat))]))):=dm (by refine R.ok.sl.symm▸?_;rfl) (R.fr.old U7)
 have R1:Inv c {σ with steps:=σ.steps+1} (H.set c.sl (.list (ls++ [.int (w.fmod ((l.map fun i=>V.ref (tA i)).length:Nat))]))):=
  {sl:=⟨_,au,by rw [ij,Z6];rfl⟩,c0:=⟨R.c0.q,R.c0.line,R.c0.within,hs⟩}
 haveI VN:=s'.get R.fr tr rfl gr
 haveI XT:(H.set c.sl (.list (ls++ [.int (w.fmod ((l.map fun i=>V.ref (tA i)).length:Nat))]))).get c.sl=some (.list (ls++ [.int (w.fmod ((l.map fun i=>V.ref (tA i)).length:Nat))])):=au
 generalize (H.set c.sl (.list (ls++ [.int (w.fmod ((l.map fun i=>V.ref (tA i)).length:Nat))])))=aG at R1 VN XT
 refine Wp.b3 (ko R1.st.xs (Wp.J4 XT (u:= .int (w.fmod ((l.map fun i=>V.ref (tA i)).length:Nat))) ?_ (Wp.J4 VN f3 (Wp.p ?_))))
 ·unfold qL
  rw [if_neg (by decide),if_pos ⟨by decide,by rw [ij,H0];lia⟩]
  have:(-1+((ls++ [V.int (w.fmod ((l.map fun i=>V.ref (tA i)).length:Nat))]).length:Int)).toNat=ls.length:=by rw [ij,H0];lia
  rw [this];simp
 ·refine Wp.b (Wp.p (Wp.cy ?_))
  refine ia (vs:=l.map fun i=>V.ref (tA i)) (by exact bN ‹_› (by decide)) (fun j st H'=>H'=aG∧∀x∈l.take j,x≠i) (fun _ _ H' h j=>by rw [h.1];exact c6 VN j) ⟨rfl,by simp⟩ (fun j v st H' hv hI=>?_) fun st H' hI=>?_
  ·obtain⟨rfl,hx⟩:=hI
   replace hv:=(aC)▸hv
   refine aS (ba.mp hv) fun x Yx cj=>?_
   apply sb cj
   haveI Yy:=aB Yx
   refine Wp.b2 (Wp.aE (R1.ts x (hn x Yy)) lI (Wp.b (Wp.aE (R1.ts i (hn i hi)) lI (Wp.JO ?_))))
   by_cases Yw:x=i
   ·apply sb Yw
    rw [beq_self_eq_true]
    exact Wp.cy (Wp.p (q _ x Yy R1))
   ·have:(((x+1:Nat):Int)==((i+1:Nat):Int))=false:=by
     have:=Ah (x+1) (i+1)
     replace this:=(decide_eq_true (show x+1≠i+1 by lia))▸this
     simpa using this
    rw [this]
    refine Wp.cy (Wp.p (Wp.p ⟨rfl,fun y hy=>?_⟩))
    (replace hy:=(jO)▸hy;replace hy:=(Yx)▸hy)
    rcases eH.mp hy with h|h
    ·exact hx y h
    ·haveI h:y∈ [x]:=h
     rw [aA.mp h];exact Yw
  ·rw [aq,nO] at hI
   exact absurd rfl (hI.2 i hi)
variable {t:Int}
noncomputable def DG(ws:List (Option Int))(m:Option Int):Prop:=(m=none→∀w∈ws,w=none)∧∀t,m=some t→some t∈ws∧∀w,some w∈ws→t≤w
theorem Fg(h:H.get x=some (.list (ws.map uf)))(hl:ws.length≤1000)(q:∀m,DG ws m→Q (uf m) H):Wp (rz [.ref x]) H Q:=by
 refine Wp.f rfl ?_
 unfold ze
 refine Wp.b (Wp.p (Wp.b (Wp.p (Wp.cy ?_))))
 refine ia (vs:=ws.map uf) (by rw [aq];exact bN ‹_› (by decide)) (fun j st H'=>H'=H∧∃m,st= [uf m]∧DG (ws.take j) m) (fun _ _ H' h' j=>by refine h'.1.symm▸?_;exact c6 h j) ⟨rfl,none,rfl,fun _ _ hw=>(by simp at hw),fun _ hw=>(by exact nn hw)⟩ (fun j v st H' hv hI=>?_) fun st H' hI=>?_
 ·obtain⟨rfl,m,rfl,hm⟩:=hI
  replace hv:=(aC)▸hv
  refine aS (ba.mp hv) fun w hw cj=>?_
  apply sb cj
  have tk:ws.take (j+1)=ws.take j++ [w]:=by(refine jO.symm▸?_;refine hw.symm▸?_);rfl
  have mem:∀a:Option Int,a∈ws.take (j+1)↔a∈ws.take j∨a=w:=fun a=>by rw [tk];simp
  have same:DG (ws.take (j+1)) m→Wp (((bif false then((pU (uf w)).d fun mX=>(pU (Fl.next [mX]))) else(pU (Fl.next [uf m]))).cy (fun vs=>match vs with| [kd]=>(pU (Fl.next [kd]))|_=>fL))) H' fun r iw=>match r with| .ret u=>Wp (pU (Fl.ret u)) iw fun r H'=>Q (match r with| .ret v=>v| .next _=> .none) H'| .next uk=>iw=H'∧∃m,uk= [uf m]∧DG (ws.take (j+1)) m:=fun hm=>Wp.cy (Wp.cF (Wp.p (Wp.p ⟨rfl,m,rfl,hm⟩)))
  have new:DG (ws.take (j+1)) w→Wp (((bif true then((pU (uf w)).d fun mX=>(pU (Fl.next [mX]))) else(pU (Fl.next [uf m]))).cy (fun vs=>match vs with| [kd]=>(pU (Fl.next [kd]))|_=>fL))) H' fun r iw=>match r with| .ret u=>Wp (pU (Fl.ret u)) iw fun r H'=>Q (match r with| .ret v=>v| .next _=> .none) H'| .next uk=>iw=H'∧∃m,uk= [uf m]∧DG (ws.take (j+1)) m:=fun hm=>Wp.cy (Wp.cT (Wp.b (Wp.p (Wp.p (Wp.p ⟨rfl,w,rfl,hm⟩)))))
  induction w with
  |none=>
   refine Wp.b (Wp.jE (Wp.jH ⟨rfl,?_⟩))
   refine(same ⟨fun e a ha=>?_,fun t e=>⟨(mem _).mpr (.inl (hm.2 t e).1),fun a ha=>?_⟩⟩).mono fun r iw z=>?_
   ·rcases(mem a).mp ha with h|h
    ·exact hm.1 e a h
    ·exact h
   ·rcases(mem _).mp ha with h|h
    ·exact(hm.2 t e).2 a h
    ·exact G2 h
   ·induction r with
    |ret u=>refine eY (z) fun _ _ e z=>?_;cases e;exact z
    |next uk=>exact z
  |some w=>
   induction m with
   |none=>
    refine Wp.b (Wp.lz (Wp.jH ⟨rfl,Wp.Ld (Wp.is ⟨rfl,?_⟩)⟩))
    refine(new ⟨fun e=>(by exact G2 e),fun t e=>⟨(mem _).mpr (.inr e.symm),fun a ha=>?_⟩⟩).mono fun r iw z=>?_
    ·apply so e
     rcases(mem _).mp ha with h|h
     ·cases hm.1 rfl _ h
     ·apply so h;omega
    ·induction r with
     |ret u=>refine eY (z) fun _ _ e z=>?_;cases e;exact z
     |next uk=>exact z
   |some s=>
    refine Wp.b (Wp.lz (Wp.jH ⟨rfl,Wp.yA (Wp.is ⟨rfl,⟨decide (w<s),H',rfl,?_⟩⟩)⟩))
    by_cases Yu:w<s
    ·rw [decide_eq_true Yu]
     refine(new ⟨fun e=>(by exact G2 e),fun t e=>⟨(mem _).mpr (.inr e.symm),fun a ha=>?_⟩⟩).mono fun r iw z=>?_
     ·apply so e
      rcases(mem _).mp ha with h|h
      ·have:=(hm.2 s rfl).2 a h;omega
      ·apply so h;omega
     ·cases r with
      |ret u=>refine eY (z) fun _ _ e z=>?_;cases e;exact z
      |next uk=>exact z
    ·rw [decide_eq_false Yu]
     refine(same ⟨fun e=>(by exact G2 e),fun t e=>⟨(mem _).mpr (.inl (hm.2 t e).1),fun a ha=>?_⟩⟩).mono fun r iw z=>?_
     ·apply so e
      rcases(mem _).mp ha with h|h
      ·exact(hm.2 s rfl).2 a h
      ·cases h;omega
     ·cases r with
      |ret u=>refine eY (z) fun _ _ e z=>?_;cases e;exact z
      |next uk=>exact z
 ·obtain⟨rfl,m,rfl,hm⟩:=hI
  rw [aq,nO] at hm
  exact Wp.p (q m hm)
noncomputable abbrev VD(t:Nat):Bool:=t==105
theorem PB(R:Inv c σ H)(ht:σ.now<t)(q:∀H',Inv c {σ with now:=t} H'→Q .none H'):Wp (qb [.ref sV,.int t]) H Q:=by
 refine Wp.f rfl ?_
 unfold xj
 refine Wp.b4 (Wp.aE R.ck AA (Wp.p ⟨.int (if t>σ.now then t else σ.now),H,rfl,?_⟩))
 refine(ah (if_pos ht))▸?_
 refine Wp.bb R.ck (FY:=HS t) rfl (by kernel_rfl) (Wp.p (q _ ?_))
 haveI s':fi VD H (H.set sV (.inst 88 (HS t))):=dm rfl (.inl (by decide))
 exact {ck:=au}
noncomputable abbrev Zb(t:Nat):Bool:=t==14
theorem Fi(R:Inv c σ H)(hi:i<c.n)(hs:(σ.tp i).st= .eC)(hc:(σ.tp i).call=some (σ.cm i))(hk:k∈c.ks)(hq:i∈σ.qg k)(hl:σ.dN≤1000)(h0:σ.kl= [])(q:∀H',Inv c {σ with dN:=σ.dN+1} H'→Q .none H'):Wp (j8 [.ref ff,.ref (tA i)]) H Q:=by
 refine sN (R.tk) fun u lo a t e=>?_
 refine Wp.f rfl ?_
 unfold uc
 refine Wp.b (nG R hi (by kernel_rfl) (b:=true) (by refine hs.symm▸?_;kernel_rfl) (Wp.cy (Wp.cT (Wp.b3 (Wp.aE a Kh (Wp.b (Wp.jo e (Wp.b3 (Wp.aE (R.ts i hi) Eh ?_)))))))))
 refine(?_:Wp (Internal.aE (RX (σ.tp i).call) .target) H _)
 refine hc.symm▸?_
 refine Wp.aE (R.ca k hk i hq) tv (Wp.p (Wp.append e (by refine uv.symm▸?_;exact ai ‹_› (by decide)) (Wp.p (Wp.p (Wp.p (q _ ?_))))))
 haveI s':fi Zb H (H.set lo (.list (fu σ.dN (.ref nZ)++ [.ref nZ]))):=dm (by refine t.symm▸?_;rfl) (R.fr.old e)
 exact {tk:=⟨u,lo,s'.get R.fr rfl rfl a,t,au.trans (by refine List.replicate_succ'.symm▸?_;rfl)⟩,kl:=fun p hp=>(by replace hp:=(show({σ with dN:=σ.dN+1}:St).kl= [] from h0)▸hp;exact aj (by cases hp))}
theorem I1(R:Inv c σ H)(hi:i<c.n)(hs:isCall (σ.tp i).st=false)(q:Q .none H):Wp (j8 [.ref ff,.ref (tA i)]) H Q:=by
 refine Wp.f rfl ?_
 unfold uc
 exact Wp.b (nG R hi (by kernel_rfl) ((FC _).trans hs) (Wp.cy (Wp.cF (Wp.p (Wp.p q)))))
theorem Wf.QL(w:Wf c σ tl)(hi:i<c.n)(hd:(σ.tp i).wake≠none):(σ.tp i).st= .delayed∨((σ.tp i).st= .eC∧(σ.tp i).call=some (σ.cm i)∧∃k∈c.ks,i∈σ.qg k):=by
 refine dh (w.ph i hi) fun p x=>?_
 have nV:∀{a1 a3 a4 a5},σ.tp i=⟨a1,none,a3,a4,a5⟩→False:=fun h=>hd (by(refine h.symm▸?_;with_reducible rfl))
 have Sh:∀{a1 a2 a3 a4 a5},σ.tp i=⟨a1,a2,a3,a4,a5⟩→(σ.tp i).st=a1∧(σ.tp i).call=a3:=fun h=>by refine h.symm▸?_;exact⟨rfl,rfl⟩
 induction p with
 |comp=>exact absurd x.2.1 hd
 |done=>exact absurd x.2.1 hd
 |new=>exact(nV x.1).elim
 |rest _=>exact .inl (Sh x.1).1
 |lq=>exact(nV x.1).elim
 |wait=>exact .inr ⟨(Sh x.1).1,(Sh x.1).2,oz.mp x.2.2.2.2.2.1⟩
 |HT=>exact(nV x.1).elim
 |turned=>exact(nV x.1).elim
 |lK _=>exact(nV x.1).elim
 |gO _=>exact .inl (Sh x.1).1
 |lu=>exact(nV x.1).elim
 |left=>exact(nV x.1).elim
def xH(p:TP):TP:=if isCall p.st=true then {st:= .ready,wake:=none,call:=none,oQ:=some "late",ins:=p.ins} else {p with st:= .ready,wake:=none,oQ:=none}
structure S5(c:Cf)(σ:St)(t:Int)(j:Nat)(aY:St):Prop where
 now:aY.now=t
 gs:aY.gs=σ.gs
 line:aY.line=σ.line
 within:aY.within=σ.within
 lk:aY.lk=σ.lk
 cm:aY.cm=σ.cm
 steps:aY.steps=σ.steps
 kl:aY.kl= []
 tp:∀i,aY.tp i=if i<j∧rH (σ.tp i).wake t=true then xH (σ.tp i) else σ.tp i
 qg:∀k,aY.qg k=(σ.qg k).filter fun i=> !(decide (i<j)&&rH (σ.tp i).wake t)
 lb:aY.dN≤j
 dN:aY.dN=0→∀i<j,rH (σ.tp i).wake t=true→isCall (σ.tp i).st=false
theorem Nu(w:Wf c σ [])(Sx:σ.kl= [])(hl:σ.dN=0)(R:Inv c {σ with now:=t} H){Q:Fl→Hp→Prop}(q:∀H' aY,Inv c aY H'→S5 c σ t c.n aY→Q (.next []) H'):
  Wp ((Internal.aE (.ref ff) .tasks).d fun src=>(forL src (fun kh _=>(((((Internal.aE (.ref ff) .lB).d fun v=>(((Internal.aE kh .wake).d fun v=>(pU [v])).d fun vs=>(pU (v::vs)))).d fun vs=>(qE vs)).d fun v=>(bV v)).d fun c=>(bif c then(((j8 [.ref ff,kh]).d fun _=>pU ()).d fun _=>(((gU [kh]).d fun _=>pU ()).d fun _=>nX)) else nX).cy (fun _=>nX))) []).cy (fun _=>nX)) H Q:=by
 refine Wp.b (nK R (Wp.cy ?_))
 haveI n6:=R.ok.n6
 haveI F:Cm c σ:=⟨R.c0.q,R.c0.line,R.c0.within,R.c0.steps⟩
 haveI P0:S5 c σ t 0 {σ with now:=t}:=⟨rfl,rfl,rfl,rfl,rfl,rfl,rfl,Sx,fun i=>(if_neg fun h=>oP _ h.1).symm,fun k=>(eR.mpr fun i _=>by simp).symm,by refine hl.symm▸?_;exact az _,fun _ i hi=>absurd hi (oP _)⟩
 refine ia (vs:=B5 c) (by refine kR.symm▸?_;exact bN ‹_› (by decide)) (fun j st H'=>j≤c.n∧st= []∧∃aY,Inv c aY H'∧S5 c σ t j aY) (fun _ _ _ ⟨_,_,_,R',_⟩ j=>c6 R'.st.tl j) ⟨dM _,rfl,_,R,P0⟩ (fun j v st H' hv hI=>?_) fun st H' hI=>?_
 ·obtain⟨_,rfl,aY,R',P⟩:=hI
  refine cQ (uM hv) fun hj cj=>?_;subst cj
  have tj:aY.tp j=σ.tp j:=by rw [P.tp j];exact if_neg fun h=>dZ _ h.1
  refine Wp.b4 (AB R' (Wp.b2 (Wp.aE (R'.ts j hj) yJ (Wp.p (Wp.p ?_)))))
  refine D1 (w:=(aY.tp j).wake) R'.ck ⟨_,H',rfl,?_⟩
  (refine P.now.symm▸?_;refine tj.symm▸?_)
  have lt:∀i,i≠j→(i<j+1↔i<j):=fun i h=>by lia
  have Ot:∀{f:Nat→TP},(∀i,i≠j→f i=aY.tp i)→∀i,i≠j→f i=if i<j+1∧rH (σ.tp i).wake t=true then xH (σ.tp i) else σ.tp i:=fun hf i h=>by
   rw [hf i h,P.tp i];simp only [lt i h]
  induction hd:rH (σ.tp j).wake t with
  |false=>
   refine Wp.cy (Wp.cF (Wp.p (Wp.p ⟨hj,rfl,aY,R',P.now,P.gs,P.line,P.within,P.lk,P.cm,P.steps,P.kl,fun i=>?_,fun k=>?_,zv P.lb,fun h i hi TG=>?_⟩)))
   ·by_cases h:i=j
    ·apply iH h;rw [tj,if_neg fun h=>by rw [hd] at h;cases h.2]
    ·exact Ot (fun _ _=>rfl) i h
   ·refine(ah (P.qg k))▸?_
    refine cW fun i _=>?_
    by_cases h:i=j
    ·apply iH h;refine hd.symm▸?_;simp
    ·simp only [lt i h]
   ·by_cases h':i=j
    ·subst h';rw [hd] at TG;exact ft TG
    ·exact P.dN h i (by lia) TG
  |true=>
   have Y5:∀{f:Nat→TP},f j=xH (σ.tp j)→(∀i,i≠j→f i=aY.tp i)→∀i,f i=if i<j+1∧rH (σ.tp i).wake t=true then xH (σ.tp i) else σ.tp i:=fun h1 h2 i=>by
    by_cases h:i=j
    ·apply iH h;rw [h1,if_pos ⟨aW _,hd⟩]
    ·exact Ot h2 i h
   refine Wp.cy (Wp.cT (Wp.b (Wp.b ?_)))
   rcases w.QL hj (fun h=>by rw [h] at hd;exact ft hd) with hs|⟨hs,DX,k,hk,hq⟩
   ·have Wl:isCall (σ.tp j).st=false:=by refine hs.symm▸?_;rfl
    refine I1 R' hj (by refine tj.symm▸?_;exact Wl) (Wp.p (Wp.b2 (Jm R' hj (by refine tj.symm▸?_;exact hs) fun bh bf=>Wp.p (Wp.p (Wp.p ⟨hj,rfl,_,bf,P.now,P.gs,P.line,P.within,P.lk,P.cm,P.steps,P.kl,Y5 ?_ (fun i h=>dH h),fun k=>?_,zv P.lb,fun h i hi TG=>?_⟩)))))
    ·refine(?_:up aY.tp j _ j=_)
     refine bB.symm▸?_
     unfold xH
     (refine Wl.symm▸?_;refine(ah (if_neg aw))▸?_)
     refine(?_:TP.mk _ _ (aY.tp j).call _ (aY.tp j).ins=_)
     (refine tj.symm▸?_;with_reducible rfl)
    ·refine(?_:aY.qg k=_)
     refine(ah (P.qg k))▸?_
     refine cW fun i hi=>?_
     by_cases h:i=j
     ·subst h
      have:(σ.tp i).st= .eC:=w.calls F (R.Sa (σ:={σ with now:=t}) hi) hi
      rw [hs] at this;exact aj (by cases this)
     ·simp only [lt i h]
    ·by_cases h':i=j
     ·apply iH h';exact Wl
     ·exact P.dN h i (by lia) TG
   ·haveI ZZ:isCall (σ.tp j).st=true:=by refine hs.symm▸?_;rfl
    have su:j∈aY.qg k:=by refine(ah (P.qg k))▸?_;exact bH.mpr ⟨hq,by simp⟩
    refine Fi R' hj (by refine tj.symm▸?_;exact hs) (by(refine tj.symm▸?_;refine P.cm.symm▸?_);exact DX) hk su (by have:=P.lb;lia) P.kl fun bh bf=>Wp.p (Wp.b2 (FH bf hk su (by refine(?_:(aY.tp j).st=_);refine tj.symm▸?_;exact hs) (by refine(?_:(aY.tp j).call=some (aY.cm j));(refine tj.symm▸?_;refine P.cm.symm▸?_);exact DX) fun dg dp=>Wp.p (Wp.p (Wp.p ⟨hj,rfl,_,dp,P.now,P.gs,P.line,P.within,P.lk,P.cm,P.steps,P.kl,Y5 ?_ (fun i h=>dH h),fun k'=>?_,Nat.succ_le_succ P.lb,fun h=>(by exact aj (by cases h))⟩))))
    ·refine(?_:up aY.tp j _ j=_)
     refine bB.symm▸?_
     unfold xH
     (refine ZZ.symm▸?_;refine(ah (if_pos rfl))▸?_)
     refine(?_:TP.mk _ _ _ _ (aY.tp j).ins=_)
     (refine tj.symm▸?_;with_reducible rfl)
    ·refine(?_:(if k'=k then lG j (aY.qg k) else aY.qg k')=_)
     by_cases ET:k'=k
     ·apply sb ET
      (refine(ah (if_pos rfl))▸?_;refine(ah (P.qg k'))▸?_)
      refine(?_:((σ.qg k').filter _).filter _=_)
      refine js.symm▸?_
      refine cW fun i _=>?_
      by_cases h:i=j
      ·apply iH h;refine hd.symm▸?_;simp
      ·simp only [lt i h];simp [h]
     ·(refine(ah (if_neg ET))▸?_;refine(ah (P.qg k'))▸?_)
      refine cW fun i hi=>?_
      by_cases h:i=j
      ·subst h
       exact absurd (R.Cs (σ:={σ with now:=t}) (R.Sa (σ:={σ with now:=t}) hi) hk hi hq rfl).2 ET
      ·simp only [lt i h]
 ·obtain⟨_,rfl,aY,R',P⟩:=hI
  rw [kR] at P
  exact Wp.p (q H' aY R' P)
abbrev qh(σ:St)(t:Int)(i:Nat):Bool:=rH (σ.tp i).wake t
theorem yL(h:ok (c.pat i) (view c σ [] i) .wait)(hc:(c.pat i).cond=false):isLive (σ.gs i) t= !qh σ t i:=by
 refine ou (h) fun h1 _ h3 _=>?_
 haveI h1:σ.tp i=⟨_,(c.pat i).CH (σ.gs i).since,_,_,_⟩:=h1
 haveI h3:(σ.gs i).jG=tK (c.pat i) (σ.gs i).since:=h3
 unfold isLive qh
 (refine h3.symm▸?_;refine h1.symm▸?_)
 induction hp:c.pat i with
 |none=>rfl
 |sW=>replace hc:=(hp)▸hc;exact tf hc
 |num k=>
  refine(?_:decide (t<(σ.gs i).since+k)= !decide ((σ.gs i).since+k≤t))
  by_cases h:t<(σ.gs i).since+k
  ·rw [decide_eq_true h,decide_eq_false (by lia)];rfl
  ·rw [decide_eq_false h,decide_eq_true (by lia)];rfl
theorem Wf.ahead(w:Wf c σ [])(jK:∀k∈c.ks,∀i∈σ.qg k,(c.pat i).cond=false)(hi:i<c.n)(hu:(σ.tp i).wake=some u):σ.now<u:=by
 refine dh (w.ph i hi) fun p x=>?_
 haveI nV:∀{a1 a3 a4 a5},σ.tp i=⟨a1,none,a3,a4,a5⟩→False:=fun h=>by rw [h] at hu;exact nn hu
 haveI Sh:∀{a1 a2 a3 a4 a5},σ.tp i=⟨a1,a2,a3,a4,a5⟩→a2=some u:=fun h=>by rw [h] at hu;exact hu
 induction p with
 |comp=>have:=x.2.1;rw [show(view c σ [] i).tp.wake=(σ.tp i).wake from rfl,hu] at this;exact G2 this
 |done=>have:=x.2.1;rw [show(view c σ [] i).tp.wake=(σ.tp i).wake from rfl,hu] at this;exact G2 this
 |new=>exact(nV x.1).elim
 |rest w=>obtain h:=Sh x.1;apply so h;exact x.2.2.2.2.2.2
 |lq=>exact(nV x.1).elim
 |wait=>
  haveI hq:=oz.mp x.2.2.2.2.2.1
  refine aS (hq) fun k hk hq=>?_
  haveI h:=yL (t:=σ.now) x (jK k hk i hq)
  haveI h7:isLive (σ.gs i) σ.now=true:=x.2.2.2.2.2.2.1
  rw [h7] at h
  unfold qh at h
  rw [hu] at h
  have:decide (u≤σ.now)=false:=by simpa [rH] using h.symm
  lia
 |HT=>exact(nV x.1).elim
 |turned=>exact(nV x.1).elim
 |lK _=>exact(nV x.1).elim
 |gO w=>obtain h:=Sh x.1;apply so h;exact x.2.2.2.2.2
 |lu=>exact(nV x.1).elim
 |left=>exact(nV x.1).elim
theorem Good.NL(g:Good c σ)(ok:c.Ok)(F:Cm c σ)(hr:∀i<c.n,isReady (σ.tp i).st=false)(VY:∀i<c.n,ef (σ.tp i).st=false)(hi:i<c.n)(hd:isDone (σ.tp i).st=false):∃j,j<c.n∧(σ.tp j).wake≠none:=by
 have st:∀{j:Nat},j<c.n→∀{a1 a2 a3 a4 a5},σ.tp j=⟨a1,a2,a3,a4,a5⟩→a1= .ready→False:=fun hj _ _ _ _ _ h e=>by
  have:=hr _ hj
  (replace this:=(h)▸this;replace this:=(e)▸this);exact tf this
 have inner:∀j,j<c.n→j∈σ.within→(σ.tp j).wake≠none:=fun j hj hw=>by
  haveI hw:(view c σ [] j).zH=true:=decide_eq_true hw
  refine dh (g.wf.ph j hj) fun p x=>?_
  induction p with
  |new=>replace hw:=(x.2.2.2.2.1)▸hw;exact ft hw
  |rest _=>replace hw:=(x.2.2.2.2.1)▸hw;exact ft hw
  |lq=>replace hw:=(x.2.2.2.2.1)▸hw;exact ft hw
  |wait=>replace hw:=(x.2.2.2.2.1)▸hw;exact ft hw
  |HT=>exact(st hj x.1 rfl).elim
  |turned=>replace hw:=(x.2.2.2.2.1)▸hw;exact ft hw
  |lK _=>replace hw:=(x.2.2.2.2.2.1)▸hw;exact ft hw
  |gO w=>exact fun e=>by haveI h:σ.tp j=⟨_,some w,_,_,_⟩:=x.1;replace e:=(h)▸e;exact G2 e
  |lu=>exact(st hj x.1 rfl).elim
  |left=>replace hw:=(x.2.2.2.1)▸hw;exact ft hw
  |comp=>replace hw:=(x.2.2.2.1)▸hw;exact ft hw
  |done=>replace hw:=(x.2.2.2.1)▸hw;exact ft hw
 refine dh (g.wf.ph i hi) fun p x=>?_
 induction p with
 |new=>exact(st hi x.1 rfl).elim
 |rest w=>exact dG i hi (fun e=>by haveI h:σ.tp i=⟨_,some w,_,_,_⟩:=x.1;replace e:=(h)▸e;exact G2 e)
 |lq=>exact(st hi x.1 rfl).elim
 |wait=>
  haveI hl:i∈lv σ:=bH.mpr ⟨of_decide_eq_true x.2.2.2.1,x.2.2.2.2.2.2.1⟩
  haveI hw:=(kept g ok).1 (xD hl)
  induction hx:σ.within with
  |nil=>exact absurd hx hw
  |cons j l=>
   haveI hj:j∈σ.within:=by refine hx.symm▸?_;simp
   exact dG j (F.within.2 j hj) (inner j (F.within.2 j hj) hj)
 |HT=>exact(st hi x.1 rfl).elim
 |turned=>exact(st hi x.1 rfl).elim
 |lK _=>exact(st hi x.1 rfl).elim
 |gO w=>exact dG i hi (fun e=>by haveI h:σ.tp i=⟨_,some w,_,_,_⟩:=x.1;replace e:=(h)▸e;exact G2 e)
 |lu=>exact(st hi x.1 rfl).elim
 |left=>exact(st hi x.1 rfl).elim
 |comp=>
  have:=VY i hi
  rw [show(σ.tp i).st= .ju from x.1] at this;exact tf this
 |done=>rw [show(σ.tp i).st= .done from x.1] at hd;exact tf hd
theorem S5.half(P:S5 c σ t c.n aY)(g:Good c σ)(F:Cm c σ)(n6:c.n≤6)(hr:∀i<c.n,isReady (σ.tp i).st=false)(Wk:∀i<c.n,∀w,(σ.tp i).wake=some w→t≤w):Cn c aY:=by
 have w:=g.wf
 have st:∀{j:Nat},j<c.n→∀{a1 a2 a3 a4 a5},σ.tp j=⟨a1,a2,a3,a4,a5⟩→a1= .ready→False:=fun hj _ _ _ _ _ h e=>by
  have:=hr _ hj
  rw [h,e] at this;exact tf this
 have qg:∀k,aY.qg k=(σ.qg k).filter fun i=> !qh σ t i:=fun k=>by
  refine(ah (P.qg k))▸?_
  refine cW fun i hi=>?_
  rw [decide_eq_true ((F.q k).2 i hi),QO]
 have YQ:∀k∈c.ks,∀i∈aY.qg k,i∈σ.qg k∧qh σ t i=false:=fun k _ i hi=>by
  rw [qg k] at hi
  refine cQ (bH.mp hi) fun h1 h2=>?_
  exact⟨h1,by simpa using h2⟩
 have Xn:∀i<c.n,qh σ t i=true→aY.tp i=xH (σ.tp i):=fun i hi hd=>by refine(ah (P.tp i))▸?_;exact if_pos ⟨hi,hd⟩
 have Ot:∀i,qh σ t i=false→aY.tp i=σ.tp i:=fun i hd=>by
  refine(ah (P.tp i))▸?_
  refine if_neg fun h=>?_
  have:=h.2
  rw [show rH (σ.tp i).wake t=qh σ t i from rfl,hd] at this
  exact ft this
 have yZ:∀i,(view c aY [] i).yZ=((view c σ [] i).yZ&& !qh σ t i):=fun i=>by
  refine(?_:(decide (i∈aY.qg _)||decide (i∈aY.qg _))=((decide (i∈σ.qg _)||decide (i∈σ.qg _))&&_))
  rw [qg,qg]
  simp only [bH]
  cases qh σ t i<;>simp
 have yY:∀i,(view c aY [] i).yY=(view c σ [] i).yY:=fun i=>by refine(?_:decide (i∈aY.line)=decide (i∈σ.line));(refine P.line.symm▸?_;with_reducible rfl)
 have zH:∀i,(view c aY [] i).zH=(view c σ [] i).zH:=fun i=>by refine(?_:decide (i∈aY.within)=decide (i∈σ.within));(refine P.within.symm▸?_;with_reducible rfl)
 have gs:∀i,(view c aY [] i).gs=(view c σ [] i).gs:=fun i=>by refine(?_:aY.gs i=σ.gs i);(refine P.gs.symm▸?_;with_reducible rfl)
 have nw:∀i,(view c aY [] i).now=t:=fun i=>P.now
 haveI Zn:∀i<c.n,∀u,(σ.tp i).wake=some u→qh σ t i=true→u=t:=fun i hi u hu hd=>by
  haveI h1:=Wk i hi u hu
  unfold qh at hd
  replace hd:=(hu)▸hd
  haveI h2:u≤t:=of_decide_eq_true hd
  lia
 have ins:∀i,(aY.tp i).ins=(σ.tp i).ins:=fun i=>by
  refine(ah (P.tp i))▸?_
  split
  ·unfold xH
   split<;>rfl
  ·rfl
 haveI inl:∀i<c.n,(view c σ [] i).yY=true→ok (c.pat i) (view c σ [] i) .wait∧(c.pat i).cond=false:=fun i hi hl=>by
  refine dh (w.ph i hi) fun p x=>?_
  induction p with
  |wait=>
   refine aS (oz.mp x.2.2.2.2.2.1) fun k hk hq=>?_
   exact⟨x,g.set.jK k hk i hq⟩
  |new=>exact(st hi x.1 rfl).elim
  |rest _=>rw [x.2.2.2.1] at hl;exact ft hl
  |lq=>exact(st hi x.1 rfl).elim
  |HT=>exact(st hi x.1 rfl).elim
  |turned=>exact(st hi x.1 rfl).elim
  |lK _=>exact(st hi x.1 rfl).elim
  |gO _=>rw [x.2.2.1] at hl;exact ft hl
  |lu=>exact(st hi x.1 rfl).elim
  |left=>exact(st hi x.1 rfl).elim
  |comp=>rw [x.2.2.1] at hl;exact ft hl
  |done=>rw [x.2.2.1] at hl;exact ft hl
 have L:lv aY=(lv σ).filter fun i=> !qh σ t i:=by
  refine(?_:aY.line.filter _=(σ.line.filter _).filter _)
  (refine P.line.symm▸?_;refine js.symm▸?_)
  refine cW fun i hi=>?_
  haveI GF:=F.line.2 i hi
  refine cQ (inl i GF (decide_eq_true hi)) fun x hc=>?_
  rw [oA,oA,P.gs,P.now,yL x hc,show isLive (σ.gs i) σ.now=true from x.2.2.2.2.2.2.1,Bool.and_true]
 refine⟨⟨fun i hi=>?_,fun i hi=>?_,fun hm b=>?_,fun hm=>?_,fun i hi hw=>?_,fun k hk i hi hc=>?_,fun i hi=>by exact aj (by cases hi)⟩,P.lk.trans g.lk,fun k hk i hi=>g.set.jK k hk i (YQ k hk i hi).1,fun h0=>?_,ai P.lb n6⟩
 ·refine dh (w.ph i hi) fun p x=>?_
  induction p with
  |new=>exact(st hi x.1 rfl).elim
  |lq=>exact(st hi x.1 rfl).elim
  |HT=>exact(st hi x.1 rfl).elim
  |turned=>exact(st hi x.1 rfl).elim
  |lK _=>exact(st hi x.1 rfl).elim
  |lu=>exact(st hi x.1 rfl).elim
  |left=>exact(st hi x.1 rfl).elim
  |comp=>
   haveI hd:qh σ t i=false:=by refine(?_:rH (σ.tp i).wake t=false);refine(ah (show(σ.tp i).wake=none from x.2.1))▸?_;rfl
   refine⟨.comp,?_,?_,by rw [yY];exact x.2.2.1,by rw [zH];exact x.2.2.2.1,by rw [yZ,x.2.2.2.2];rfl⟩
   ·refine(?_:(aY.tp i).st=_);refine(ah (Ot i hd))▸?_;exact x.1
   ·refine(?_:(aY.tp i).wake=_);refine(ah (Ot i hd))▸?_;exact x.2.1
  |done=>
   haveI hd:qh σ t i=false:=by refine(?_:rH (σ.tp i).wake t=false);refine(ah (show(σ.tp i).wake=none from x.2.1))▸?_;rfl
   refine⟨.done,?_,?_,by rw [yY];exact x.2.2.1,by rw [zH];exact x.2.2.2.1,by rw [yZ,x.2.2.2.2];rfl⟩
   ·refine(?_:(aY.tp i).st=_);refine(ah (Ot i hd))▸?_;exact x.1
   ·refine(?_:(aY.tp i).wake=_);refine(ah (Ot i hd))▸?_;exact x.2.1
  |rest u=>
   haveI h1:σ.tp i=⟨.delayed,some u,none,none,(σ.tp i).ins⟩:=x.1
   haveI hq:(view c aY [] i).yZ=false:=by rw [yZ,x.2.2.2.2.2.1];rfl
   induction hd:qh σ t i with
   |true=>
    refine⟨.lq,?_,by rw [gs];exact x.2.1,by rw [gs];exact x.2.2.1,by rw [yY];exact x.2.2.2.1,by rw [zH];exact x.2.2.2.2.1,hq⟩
    refine(?_:aY.tp i=⟨_,_,_,_,(aY.tp i).ins⟩)
    rw [ins,Xn i hi hd,h1];rfl
   |false=>
    refine⟨.rest u,?_,by rw [gs];exact x.2.1,by rw [gs];exact x.2.2.1,by rw [yY];exact x.2.2.2.1,by rw [zH];exact x.2.2.2.2.1,hq,?_⟩
    ·refine(?_:aY.tp i=⟨_,_,_,_,(aY.tp i).ins⟩)
     refine(ah (Ot i hd))▸?_;exact h1
    ·rw [nw]
     have:rH (σ.tp i).wake t=false:=hd
     rw [h1] at this
     have:=of_decide_eq_false this
     lia
  |gO u=>
   haveI h1:σ.tp i=⟨.delayed,some u,none,none,(σ.tp i).ins⟩:=x.1
   haveI hq:(view c aY [] i).yZ=false:=by rw [yZ,x.2.2.2.2.1];rfl
   induction hd:qh σ t i with
   |true=>
    refine⟨.lu,?_,by rw [gs];exact x.2.1,by rw [yY];exact x.2.2.1,by rw [zH];exact x.2.2.2.1,hq⟩
    refine(?_:aY.tp i=⟨_,_,_,_,(aY.tp i).ins⟩)
    rw [ins,Xn i hi hd,h1];rfl
   |false=>
    refine⟨.gO u,?_,by rw [gs];exact x.2.1,by rw [yY];exact x.2.2.1,by rw [zH];exact x.2.2.2.1,hq,?_⟩
    ·refine(?_:aY.tp i=⟨_,_,_,_,(aY.tp i).ins⟩)
     refine(ah (Ot i hd))▸?_;exact h1
    ·rw [nw]
     have:rH (σ.tp i).wake t=false:=hd
     rw [h1] at this
     have:=of_decide_eq_false this
     lia
  |wait=>
   refine aS (oz.mp x.2.2.2.2.2.1) fun k hk hqk=>?_
   haveI hc:=g.set.jK k hk i hqk
   haveI h1:σ.tp i=⟨.eC,(c.pat i).CH (σ.gs i).since,some (σ.cm i),none,(σ.tp i).ins⟩:=x.1
   haveI h3:(σ.gs i).jG=tK (c.pat i) (σ.gs i).since:=x.2.2.1
   induction hd:qh σ t i with
   |true=>
    induction hp:c.pat i with
    |none=>
     have:rH (σ.tp i).wake t=true:=hd
     rw [h1,hp] at this;exact ft this
    |sW=>replace hc:=(hp)▸hc;exact tf hc
    |num m=>
     haveI hu:(σ.tp i).wake=some ((σ.gs i).since+m):=by(refine h1.symm▸?_;refine hp.symm▸?_);rfl
     haveI he:=Zn i hi _ hu hd
     refine⟨.lK m,?_,by rw [gs];exact x.2.1,rfl,by rw [gs,nw];exact he,?_,by rw [zH];exact x.2.2.2.2.1,by rw [yZ,hd];simp⟩
     ·refine(?_:aY.tp i=⟨_,_,_,_,(aY.tp i).ins⟩)
      rw [ins,Xn i hi hd,h1];rfl
     ·rw [gs,nw]
      refine(?_:(σ.gs i).jG=some t)
      (refine h3.symm▸?_;refine hp.symm▸?_;refine(he)▸?_);rfl
   |false=>
    refine⟨.wait,?_,by rw [gs];exact x.2.1,by rw [gs];exact x.2.2.1,by rw [yY];exact x.2.2.2.1,by rw [zH];exact x.2.2.2.2.1,by rw [yZ,x.2.2.2.2.2.1,hd];rfl,?_,fun h=>by rw [hc] at h;exact ft h⟩
    ·refine(?_:aY.tp i=⟨_,(c.pat i).CH (aY.gs i).since,some (aY.cm i),_,(aY.tp i).ins⟩)
     (refine(ah (Ot i hd))▸?_;refine P.gs.symm▸?_;refine P.cm.symm▸?_);exact h1
    ·rw [gs,nw]
     refine(?_:isLive (σ.gs i) t=true)
     (refine(ah (yL x hc))▸?_;refine hd.symm▸?_);rfl
 ·rw [ins,P.lk];exact w.ins i hi
 ·haveI e:((lv σ).filter fun i=> !qh σ t i).filter (fun i=>c.wr i==b)=((lv σ).filter fun i=>c.wr i==b).filter fun i=> !qh σ t i:=
   (js ..).trans ((cW fun i _=>QN ..).trans (js ..).symm)
  rw [L,e,w.od hm b,qg]
  simp
 ·refine fC (w.o2 hm) fun o1 o2 o3=>?_
  rw [L,o1,qg,qg]
  refine fM (by simp) (ai (cX ..) o2) (fun i hi=>o3 i (bH.mp hi).1)
 ·rw [P.within] at hi ⊢;exact w.wit i hi hw
 ·have:=g.set.jK k hk i (YQ k hk i hi).1
  rw [this] at hc;exact ft hc
 ·haveI e:∀k∈c.ks,aY.qg k=σ.qg k:=fun k hk=>by
   refine(ah (qg k))▸?_
   refine eR.mpr fun i hi=>?_
   haveI GF:=(F.q k).2 i hi
   induction hd:qh σ t i with
   |false=>rfl
   |true=>
    haveI h1:=P.dN h0 i GF hd
    rw [w.calls F hk hi] at h1;exact tf h1
  haveI eo:∀b,zj c aY b=zj c σ b:=fun b=>by
   unfold zj mJ
   refine P.within.symm▸?_
   by_cases hm:c.iJ=2
   ·rw [e "wait" (by rw [Dw hm];simp),if_pos hm,if_pos hm]
   ·rw [e "write" (by rw [Qw hm];simp),if_neg hm,if_neg hm]
  exact⟨fun k hk=>by rw [e k hk,eo];exact g.set.ik k hk,fun k hk i hi=>g.set.jK k hk i (e k hk▸hi)⟩
structure Rel(c:Cf)(σ aY:St):Prop where
 gs:aY.gs=σ.gs
 steps:aY.steps=σ.steps
 dead:∀i<c.n,Internal.dead (aY.tp i).st=Internal.dead (σ.tp i).st
theorem Rel.trans(a:Rel c σ aY)(b:Rel c aY pS):Rel c σ pS:=⟨b.gs.trans a.gs,b.steps.trans a.steps,fun i h=>(b.dead i h).trans (a.dead i h)⟩
theorem H7.rel(s:H7 c σ aY):Rel c σ aY:=⟨s.gs,s.steps,s.dead⟩
theorem Good.half(g:Good c σ)(h:σ.dN≤6):Cn c σ:=⟨g.wf,g.lk,g.set.jK,fun _=>g.set,h⟩
theorem PG(g:Good c σ)(hl:σ.dN=0)(R:Inv c σ H)(hr:∀i<c.n,isReady (σ.tp i).st=false)(VY:∀i<c.n,ef (σ.tp i).st=false)(hd:∃i,i<c.n∧isDone (σ.tp i).st=false)
  (q:∀H' aY,Inv c aY H'→Cn c aY→Rel c σ aY→(∃i,i<c.n∧isReady (aY.tp i).st=true)→Q .none H'):Wp (rA [.ref ff]) H Q:=by
 haveI iS:fi (fun _=>false) H H:= .refl
 have R₀:Inv c {σ with kl:= []} H:={fr:=iS.fresh R.fr,st:=R.Un iS rfl rfl rfl rfl,tk:=R.WV iS rfl rfl,ck:=R.Uh iS rfl,th:=R.Uo iS rfl rfl,rm:=R.Ul iS rfl rfl rfl,gu:=R.Uj iS rfl,ts:=R.Up iS rfl,qe:=R.Uk iS rfl,qr:=R.SI iS rfl rfl,ca:=R.SH iS rfl,cn:=R.Ui iS rfl,sl:=R.Um iS rfl,ce:=R.Ug iS rfl,kl:=fun p hp=>(by exact aj (by cases hp)),ok:=R.ok,c0:=⟨R.c0.q,R.c0.line,R.c0.within,R.c0.steps⟩}
 have Tv:Good c {σ with kl:= []}:=⟨⟨g.wf.ph,g.wf.ins,g.wf.od,g.wf.o2,g.wf.wit,g.wf.sW,g.wf.tq⟩,⟨g.set.ik,g.set.jK⟩,g.lk⟩
 refine aS (hd) fun pC TQ TH=>?_
 refine aS (g.NL R.ok R.c0 hr VY TQ TH) fun j hj hw=>?_
 refine Wp.f rfl ?_
 unfold zf
 refine Wp.b4 (nK R₀ ?_)
 refine gT (vs:=B5 c) (by exact af _ _) (fun _=>true) (fun v=>match v with| .ref x=>uf (σ.tp (x.n-1)).wake|_=> .none) (fun _=>True) R.fr (by refine kR.symm▸?_;have:=R.ok.n6;exact ai ‹_› (by decide)) trivial (fun H' _ s j=>c6 (R.cu s).st.tl j) (fun _ _ _ _ _ _=>trivial) (fun v hv H' _ s=>Wp.p ⟨rfl,trivial,.refl⟩) (fun v hv _ H' _ s=>?_) fun aG r _ s tr lr _ gr=>Wp.p ?_
 ·refine aS (Ap hv) fun j hj cj=>?_
  apply iH cj
  exact Wp.aE ((R.cu s).ts j hj) yJ ⟨rfl,trivial,.refl⟩
 haveI gr:aG.get r=some (.list (((aR c.n).map fun i=>(σ.tp i).wake).map uf)):=by
  rw [gr,eR.mpr fun _ _=>rfl,eW,eW];rfl
 haveI aD:=R₀.cu s
 refine Fg gr (by rw [aq,bP];have:=R.ok.n6;exact ai ‹_› (by decide)) fun m hm=>?_
 haveI mem:∀i,i<c.n→(σ.tp i).wake∈(aR c.n).map fun i=>(σ.tp i).wake:=fun i hi=>aP.mpr ⟨i,ei.mpr hi,rfl⟩
 induction m with
 |none=>exact absurd (hm.1 rfl _ (mem j hj)) hw
 |some t=>
  refine cQ (hm.2 t rfl) fun h1 h2=>?_
  refine aS (aP.mp h1) fun i hi hit=>?_
  haveI hi:=ei.mp hi
  haveI Iz:σ.now<t:=g.wf.ahead g.set.jK hi hit
  refine Wp.b (Wp.is (Wp.cy (Wp.p (Wp.b4 (AB aD (Wp.p (PB aD Iz fun bh bf=>Wp.p ?_)))))))
  refine Nu (σ:={σ with kl:= []}) Tv.wf rfl hl bf fun dg aY dp P=>?_
  haveI hf:=P.half Tv ⟨R.c0.q,R.c0.line,R.c0.within,R.c0.steps⟩ R.ok.n6 hr fun i hi w hw=>h2 w (hw▸mem i hi)
  refine q dg aY dp hf ⟨P.gs,P.steps,fun i hi=>?_⟩ ⟨i,hi,?_⟩
  ·rw [P.tp i]
   refine(?_:dead (if i<c.n∧rH (σ.tp i).wake t=true then xH (σ.tp i) else σ.tp i:TP).st=dead (σ.tp i).st)
   by_cases h:i<c.n∧rH (σ.tp i).wake t=true
   ·rw [if_pos h]
    have:dead (xH (σ.tp i)).st=false:=by unfold xH;split<;>rfl
    refine this.symm▸?_
    rcases g.wf.QL hi (fun e=>by rw [e] at h;exact ft h.2) with e|⟨e,_⟩<;>(refine e.symm▸?_;rfl)
   ·rw [if_neg h]
  ·rw [P.tp i]
   refine(?_:isReady (if i<c.n∧rH (σ.tp i).wake t=true then xH (σ.tp i) else σ.tp i:TP).st=true)
   rw [if_pos ⟨hi,by rw [hit];exact decide_eq_true (Int.le_refl t)⟩]
   unfold xH;split<;>rfl
theorem PJ(g:Cn c σ)(R:Inv c σ H)(hs:σ.steps<1000)
  (Jw:∀H' aY i,i<c.n→Inv c aY H'→Good c aY→aY.dN=0→(aY.tp i).st= .ready→aY.gs=σ.gs→aY.steps=σ.steps+1→(∀i<c.n,dead (aY.tp i).st=dead (σ.tp i).st)→Q (.ref (tA i)) H')
  (Jv:∀H' aY,Inv c aY H'→Good c aY→(∀i<c.n,isDone (aY.tp i).st=true)→Q .none H'):Wp (jj [.ref ff]) H Q:=by
 refine Wp.f rfl ?_
 unfold zg
 refine Wp.cy ?_
 refine pw (fun k _ H'=>k≤1∧∃aY,Inv c aY H'∧Cn c aY∧Rel c σ aY∧(k=0→∃i,i<c.n∧isReady (aY.tp i).st=true)) 1 (by exact af _ _) ⟨az _,σ,R,g,⟨rfl,rfl,fun _ _=>rfl⟩,fun h=>by exact aj (by cases h)⟩ ?_
 rintro k st aG ⟨U4,a9,aD,Mz,QU,Sx⟩
 refine ie true aG rfl (MP ?_)
 refine Wp.b2 (Ef aD fun bh bf=>Wp.p ?_)
 haveI xW:=Mz.dn
 haveI tm:H7 c a9 (ic a9 c.n):= .dn
 refine Wp.cy ?_
 refine pw (fun k _ H'=>∃aY,Inv c aY H'∧Cn c aY∧H7 c a9 aY∧(∀i<c.n,ef (aY.tp i).st=false)∧k=if aY.dN=0 then 0 else 1) (if(ic a9 c.n).dN=0 then 0 else 1) (by split<;>omega) ⟨_,bf,xW,tm,fun i h=>AQ h,rfl⟩ ?_
 rintro m Y4 dg ⟨zt,dp,O4,OB,Us,rfl⟩
 refine Wp.Uy (Wp.b (Gy O4.wf dp fun iZ s4=>⟨false,iZ,rfl,rfl,Wp.nM (Wp.b ?_)⟩))
 refine Dz O4 (dp.cu s4) fun gZ rh xG xX Py Er=>⟨_,gZ,rfl,?_⟩
 haveI Ut:∀i<c.n,ef (rh.tp i).st=false:=fun i h=>Er.cp i h (Us i h)
 haveI Eo:=OB.trans Er
 by_cases h0:zt.dN=0
 ·refine(ah (decide_eq_true h0))▸?_
  refine MN ?_
  refine Wp.b (NC xG fun zx r s6 gr tr=>?_)
  haveI LR:=xG.cu s6
  haveI rl:(SN c rh).length≤6:=ai (cX ..) (by refine bP.symm▸?_;exact R.ok.n6)
  haveI steps:rh.steps=σ.steps:=(QU.trans Eo.rel).steps
  refine Wp.b (Wp.NZ gr (by rw [aq];exact ai ‹_› (by decide)) ?_)
  by_cases hr:SN c rh= []
  ·refine hr.symm▸?_
   refine Wp.cy (Wp.cF (Wp.p (Wp.b2 (Js LR fun sL aa1 l s7 g7 hl=>?_))))
   haveI OD:=LR.cu s7
   haveI nr:∀i<c.n,isReady (rh.tp i).st=false:=fun i hi=>by
    have:=hJ.mp hr i (ei.mpr hi)
    simpa using this
   refine EI (lj g7) ?_
   by_cases U6:l= []
   ·refine(ah (decide_eq_true U6))▸?_
    exact Wp.cy (Wp.cT (Wp.p (Jv sL rh OD xX (hl.mp U6))))
   ·refine(ah (decide_eq_false U6))▸?_
    haveI hd:∃i,i<c.n∧isDone (rh.tp i).st=false:=bS fun h=>U6 (hl.mpr fun i hi=>by
     induction hx:isDone (rh.tp i).st with
     |true=>rfl
     |false=>exact absurd ⟨i,hi,hx⟩ h)
    refine Wp.cy (Wp.cF (Wp.p (Wp.b2 (PG xX Py OD nr Ut hd fun F7 UQ Vu VP Vs hx=>Wp.p (Wp.p ⟨0,?_,by exact dM _,UQ,Vu,VP,QU.trans (Eo.rel.trans Vs),fun _=>hx⟩)))))
    refine Nat.pos_of_ne_zero fun h=>?_
    refine aS (Sx h) fun i hi hx=>?_
    have:=Eo.rd i hi hx
    rw [nr i hi] at this;exact ft this
  ·haveI e:(!((SN c rh).map fun i=>V.ref (tA i)).isEmpty)=true:=by
    induction hx:SN c rh with
    |nil=>exact absurd hx hr
    |cons a l=>rfl
   refine e.symm▸?_
   haveI hn:∀i∈SN c rh,i<c.n:=fun i hi=>ei.mp (bH.mp hi).1
   refine Wp.cy (Wp.cT (Wp.b (Kz LR (by refine steps.symm▸?_;exact hs) hr (by exact ai ‹_› (by decide)) hn tr gr fun sL i hi OD=>Wp.p ?_)))
   ·haveI WB:(rh.tp i).st= .ready:=by
     have:=(bH.mp hi).2
     induction hx:(rh.tp i).st<;>rw [hx] at this<;>first|rfl|exact ft this
    haveI L:=QU.trans Eo.rel
    exact Jw sL _ i (hn i hi) OD ⟨⟨xX.wf.ph,xX.wf.ins,xX.wf.od,xX.wf.o2,xX.wf.wit,xX.wf.sW,xX.wf.tq⟩,⟨xX.set.ik,xX.set.jK⟩,xX.lk⟩ Py WB L.gs (congrArg (· +1) L.steps) L.dead
 ·refine(ah (decide_eq_false h0))▸?_
  refine MP (Wp.b2 (Ef xG fun zx LR=>Wp.p (Wp.p ?_)))
  refine⟨0,by refine(ah (if_neg h0))▸?_;exact az _,_,LR,(xX.half (by refine Py.symm▸?_;exact dM _)).dn,Eo.trans .dn,fun i h=>AQ h,?_⟩
  exact(if_pos Py).symm
def mu(c:Cf)(σ:St):Nat:=((aR c.n).map fun i=>pm (σ.tp i) (σ.gs i)).sum
theorem NS:∀{l:List Nat} {f g:Nat→Nat},(∀j∈l,f j≤g j)→(l.map f).sum≤(l.map g).sum
 | [],_,_,_=>az _
 |a::l,f,g,h=>by
  rw [bw,bw,ri,ri]
  have:=h a (by simp)
  have:=NS (l:=l) (f:=f) (g:=g) fun j hj=>h j (by simp [hj])
  lia
theorem NT:∀{l:List Nat} {f g:Nat→Nat} {i:Nat},i∈l→(∀j∈l,f j≤g j)→f i<g i→(l.map f).sum<(l.map g).sum
 | [],_,_,_,h,_,_=>by cases h
 |a::l,f,g,i,hm,h,hi=>by
  rw [bw,bw,ri,ri]
  have h1:=h a (by simp)
  haveI h2:=NS (l:=l) (f:=f) (g:=g) fun j hj=>h j (by simp [hj])
  rcases bF.mp hm with e|hm
  ·apply sb e;lia
  ·have:=NT (l:=l) (f:=f) (g:=g) hm (fun j hj=>h j (by simp [hj])) hi
   lia
theorem PC(N:OC c σ aY i)(w:Wf c σ [])(F:Cm c σ)(hi:i<c.n):mu c aY<mu c σ:=by
 refine NT (ei.mpr hi) (fun j hj=>?_) N.pm
 by_cases h:j=i
 ·apply iH h;exact cY N.pm
 ·refine(ah (N.gs j h))▸?_
  by_cases hq:∃k∈c.ks,j∈σ.qg k
  ·refine aS (hq) fun k hk hj=>?_
   have:=w.calls F hk hj
   haveI e:pm (σ.tp j) (σ.gs j)=(6-(σ.gs j).bc).toNat:=by unfold pm;refine this.symm▸?_;exact if_neg aw
   refine e.symm▸?_;exact QC
  ·refine(ah (N.tp j h fun k hk hj=>hq ⟨k,hk,hj⟩))▸?_;exact az _
theorem Ka(h1:aY.gs=σ.gs)(h2:∀i<c.n,dead (aY.tp i).st=dead (σ.tp i).st):mu c aY=mu c σ:=by
 unfold mu
 congr 1
 refine eS fun i hi=>?_
 unfold pm
 (refine h1.symm▸?_;refine(ah (h2 i (ei.mp hi)))▸?_;with_reducible rfl)
theorem Good.ended(g:Good c σ)(F:Cm c σ)(h:∀i<c.n,isDone (σ.tp i).st=true):σ.line= []∧σ.within= []∧∀k∈c.ks,σ.qg k= []:=by
 have one:∀i<c.n,(view c σ [] i).yY=false∧(view c σ [] i).zH=false∧(view c σ [] i).yZ=false:=fun i hi=>by
  haveI hd:=h i hi
  have nV:∀{a1 a2 a3 a4 a5},σ.tp i=⟨a1,a2,a3,a4,a5⟩→isDone a1=true:=fun h=>by rw [h] at hd;exact hd
  refine dh (g.wf.ph i hi) fun p x=>?_
  induction p with
  |done=>exact fM x.2.2.1 x.2.2.2.1 x.2.2.2.2
  |comp=>rw [show(σ.tp i).st= .ju from x.1] at hd;exact ft hd
  |new=>cases nV x.1
  |rest _=>cases nV x.1
  |lq=>cases nV x.1
  |wait=>cases nV x.1
  |HT=>cases nV x.1
  |turned=>cases nV x.1
  |lK _=>cases nV x.1
  |gO _=>cases nV x.1
  |lu=>cases nV x.1
  |left=>cases nV x.1
 haveI nil:∀l:List Nat,(∀i∈l,False)→l= []:=fun l h=>by induction l with
  |nil=>rfl
  |cons a l=>exact(h a (by simp)).elim
 refine fM (nil _ fun i hi=>?_) (nil _ fun i hi=>?_) (fun k hk=>nil _ fun i hi=>?_)
 ·exact of_decide_eq_false (one i (F.line.2 i hi)).1 hi
 ·exact of_decide_eq_false (one i (F.within.2 i hi)).2.1 hi
 ·exact PD (one i ((F.q k).2 i hi)).2.2 k hk hi
end
section
variable {c:Cf}{σ aY:St}{H:Hp}{i:Nat}{k k' iS:Str}{tl:List Nat}
def IM(bp ed:V)(dE:VA):M Fl:=
 (((jj [bp]).d fun mZ=>((qy (fun vs=>match vs with| [eL]=>(aX .IsNot eL .none)|_=>fL) (fun vs=>match vs with| [eL]=>((testM .Or [(((((d8 dE).d fun v=>(pU [v])).d fun vs=>(jn vs)).d fun v=>(bV v)).d fun c=>pU (!c)),(((((d8 dE).d fun v=>(((((aE eL .number).d fun a=>(j4 .Sub a (.int 1))).d fun v=>(pU [v])).d fun vs=>(pU (eL::vs))).d fun vs=>(pU (v::vs)))).d fun vs=>(j5 vs)).d fun v=>(bV v)).d fun c=>pU (!c))]).d fun c=>(bif c then(pU (.ret (.bool false))) else nX).cy (fun _=>((jj [bp]).d fun qW=>(pU (.next [qW])))))|_=>fL) [mZ]).cy (fun vs=>match vs with| [eL]=>nX|_=>fL))).cy (fun _=>((mL .And [((d8 dE).d fun v=>(itemF v .fX)),(((d8 dE).d fun v=>(itemF v .within)).d fun a=>((df []).d fun b=>((aX .Eq a b).d fun c=>pU (.bool c)))),(((d8 dE).d fun v=>(itemF v .line)).d fun a=>((df []).d fun b=>((aX .Eq a b).d fun c=>pU (.bool c)))),((aE ed .eO).d fun a=>(((dB 3).d fun x=>u5 x (.aU [])).d fun b=>((Mr a b).d fun c=>pU (.bool c))))]).d fun v=>(pU (.ret v)))))
theorem I6(R:Inv c σ H)(h:∀k∈c.ks,σ.qg k= []):H.get c.qd=some (.cI []):=by
 refine xS (R.qr) fun es e n1 n2 h1 h2=>?_
 induction es with
 |nil=>exact e
 |cons p es=>
  refine ou (h1 p (by simp)) fun x1 _ x3 _=>?_
  exact absurd (jb.mpr (h _ x1)) x3
theorem Sd(g:Good c σ)(R:Inv c σ H)(hl:σ.dN=0)(hs:σ.steps+mu c σ≤100)(q:∀H',Q (.ret (.bool true)) H'):Wp (IM (.ref ff) (.ref nZ) c.xr) H Q:=by
 unfold IM
 haveI fin:∀{H':Hp} {aY:St},Inv c aY H'→Good c aY→(∀i<c.n,isDone (aY.tp i).st=true)→Wp ((mL .And [((d8 c.xr).d fun v=>(Internal.itemF v .fX)),(((d8 c.xr).d fun v=>(Internal.itemF v .within)).d fun a=>((df []).d fun b=>((aX .Eq a b).d fun c=>pU (.bool c)))),(((d8 c.xr).d fun v=>(Internal.itemF v .line)).d fun a=>((df []).d fun b=>((aX .Eq a b).d fun c=>pU (.bool c)))),((Internal.aE (.ref nZ) .eO).d fun a=>(((dB 3).d fun x=>u5 x (.aU [])).d fun b=>((Mr a b).d fun c=>pU (.bool c))))]).d fun v=>(pU (.ret v))) H' Q:=fun {H' aY} R' g' hd=>by
  refine fC (g'.ended R'.c0 hd) fun e1 e2 e3=>?_
  refine qj (R'.rm) fun ln wi a t1 t2 gl gw=>?_
  refine aS (R'.th) fun l Ge _=>?_
  replace gl:=(e1)▸gl
  replace gw:=(e2)▸gw
  haveI Ie:=R'.st.xr
  refine Wp.b3 (ko Ie (Wp.itemF a rfl (Wp.b ⟨true,H',rfl,?_⟩)))
  refine Wp.b3 (ko Ie (Wp.itemF a rfl (Wp.b (Wp.lst (by kernel_rfl) (Wp.b (Wp.Tq (l:= []) (m:= []) (lj gw) rfl (Wp.p (Wp.b ⟨true,H',rfl,?_⟩))))))))
  refine Wp.b3 (ko Ie (Wp.itemF a rfl (Wp.b (Wp.lst (by kernel_rfl) (Wp.b (Wp.Tq (l:= []) (m:= []) (lj gl) rfl (Wp.p (Wp.b ⟨true,H',rfl,?_⟩))))))))
  haveI nn:H'.get ⟨3,H'.next⟩=none:=R'.fr _ (by refine(?_:3<100);exact af _ _) (az _)
  haveI qe:=I6 R' e3
  haveI s:cZ (fun _=>False) H' (H'.set ⟨3,H'.next⟩ (.aU [])):=gP (by exact af _ _)
  refine Wp.b (Wp.aE Ge fU (Wp.b2 (jX (r7 nn (Wp.b ⟨true,H'.set ⟨3,H'.next⟩ (.aU []),?_,Wp.p (Wp.p (q _))⟩)))))
  haveI i1:SG (H'.set ⟨3,H'.next⟩ (.aU [])) (.ref c.qd)=true:=by
   refine(?_:(match(H'.set ⟨3,H'.next⟩ (.aU [])).get c.qd with|some (.cI [])=>true|some (.aU [])=>true|_=>false)=true)
   (refine(ah (s.old R'.fr qe))▸?_;with_reducible rfl)
  haveI i2:SG (H'.set ⟨3,H'.next⟩ (.aU [])) (.ref ⟨3,H'.next⟩)=true:=by
   refine(?_:(match(H'.set ⟨3,H'.next⟩ (.aU [])).get ⟨3,H'.next⟩ with|some (.cI [])=>true|some (.aU [])=>true|_=>false)=true)
   (refine au.symm▸?_;with_reducible rfl)
  show(if _ then _ else _)=_
  (refine i1.symm▸?_;refine i2.symm▸?_);rfl
 haveI pick:∀{H':Hp} {a9:St},Inv c a9 H'→Good c a9→a9.dN=0→a9.steps+mu c a9≤100→Wp (jj [.ref ff]) H' fun v iw=>∃aY,Inv c aY iw∧Good c aY∧((∃i,i<c.n∧v= .ref (tA i)∧(aY.tp i).st= .ready∧aY.dN=0∧aY.steps+mu c aY≤101∧mu c aY=mu c a9)∨(v= .none∧∀i<c.n,isDone (aY.tp i).st=true)):=fun {H' a9} aD Mz fb JX=>
  PJ (Mz.half (by lia)) aD (by exact bN (ai (fV _ _) ‹_›) (by decide)) (fun bh pS i hi bf xW WZ hr e1 e2 e3=>⟨pS,bf,xW,.inl ⟨i,hi,rfl,hr,WZ,by(refine(ah (Ka e1 e3))▸?_;refine e2.symm▸?_);lia,Ka e1 e3⟩⟩) fun bh pS bf xW hd=>⟨pS,bf,xW,.inr ⟨rfl,hd⟩⟩
 refine Wp.cy (Wp.b ((pick R g hl hs).mono fun v aG Xz=>j9 Xz fun a9 aD Mz hv=>Wp.cy ?_))
 haveI m36:mu c σ≤100:=by exact ai (af _ _) ‹_›
 refine pw (fun k st H'=>∃v aY,st= [v]∧Inv c aY H'∧Good c aY∧((∃i,i<c.n∧v= .ref (tA i)∧(aY.tp i).st= .ready∧aY.dN=0∧aY.steps+mu c aY≤101∧k=mu c aY+1)∨(v= .none∧(∀i<c.n,isDone (aY.tp i).st=true)∧k=0))) (match v with| .none=>0|_=>mu c σ+1) (by split<;>omega) ⟨v,a9,rfl,aD,Mz,?_⟩ ?_
 ·rcases hv with⟨i,hi,rfl,hr,h0,h1,h2⟩|⟨rfl,hd⟩
  ·exact .inl ⟨i,hi,rfl,hr,h0,h1,by refine(?_:mu c σ+1=_);(refine h2.symm▸?_;with_reducible rfl)⟩
  ·exact .inr ⟨rfl,hd,rfl⟩
 rintro k st bh ⟨v,pS,rfl,bf,xW,hv⟩
 rcases hv with⟨i,hi,rfl,hr,h0,h1,rfl⟩|⟨rfl,hd,rfl⟩
 ·refine Wp.jH (MP ?_)
  haveI N1:∀{pW:Bool→Hp→Prop},(∀H' aY,Inv c aY H'→Good c aY→OC c pS aY i→pW false H')→Wp (testM .Or [(((((d8 c.xr).d fun v=>(pU [v])).d fun vs=>(jn vs)).d fun v=>(bV v)).d fun c=>pU (!c)),(((((d8 c.xr).d fun v=>(((((Internal.aE (.ref (tA i)) .number).d fun a=>(j4 .Sub a (.int 1))).d fun v=>(pU [v])).d fun vs=>(pU ((.ref (tA i))::vs))).d fun vs=>(pU (v::vs)))).d fun vs=>(j5 vs)).d fun v=>(bV v)).d fun c=>pU (!c))]) bh pW:=fun z=>by
   refine Wp.yA (Wp.b4 (ko bf.st.xr (Wp.p (IH xW bf fun dg dp=>⟨true,dg,rfl,Wp.p ⟨rfl,?_⟩⟩))))
   refine Wp.b4 (ko dp.st.xr (Wp.b4 (Wp.aE (dp.ts i hi) lI ⟨.int i,dg,?_,Wp.p (Wp.p (Wp.p ?_))⟩)))
   ·refine(?_:some (V.int (((i+1:Nat):Int)-1),dg)=_)
    (refine(ah (show((i+1:Nat):Int)-1=(i:Int) by lia))▸?_;with_reducible rfl)
   ·exact O3 xW dp hi hr fun iZ pT mI O5 Vt=>⟨true,iZ,rfl,Wp.p (z iZ pT mI O5 Vt)⟩
  refine Wp.b (N1 fun dg zt dp O4 QW=>Wp.cy (Wp.cF (Wp.p ?_)))
  haveI hm:=PC QW xW.wf bf.c0 hi
  refine Wp.b ((pick dp O4 (QW.dN.trans h0) (by refine QW.steps.symm▸?_;lia)).mono fun v iZ z6=>j9 z6 fun pT mI O5 hv=>Wp.p ?_)
  rcases hv with⟨j,hj,rfl,Wy,Tw,Zu,XU⟩|⟨rfl,hd⟩
  ·exact⟨mu c pT+1,by lia,_,pT,rfl,mI,O5,.inl ⟨j,hj,rfl,Wy,Tw,Zu,rfl⟩⟩
  ·exact⟨0,by exact sZ _,_,pT,rfl,mI,O5,.inr ⟨rfl,hd,rfl⟩⟩
 ·exact Wp.jH (MN (Wp.p (fin bf xW hd)))
end
section
variable {H:Hp}{Q:V→Hp→Prop}
theorem Wp.MR(e:qL vs j=some u)(z:Q u H):Wp (fc (.tup vs) (.int j)) H Q:=by
 refine ie u H ?_ z
 refine(?_:(match qL vs j with|some u=>some (u,H)|none=>none)=_)
 (refine e.symm▸?_;with_reducible rfl)
theorem Wp.Xa(h:H.get x=some (.list ls))(hl:ls.length≤1000000)(e:ls.getLast? =some u)(z:Q u (H.set x (.list ls.dropLast))):Wp (I4 (.ref x) []) H Q:=Sn h hl e z
noncomputable def xA:List V:= [(.int 2),(.int 2),(.int 0),(.int 0),(.int 0),(.int 2),(.int 1),(.int 0),(.int 3),(.int 0),(.int 0),(.int 0),(.int 0),(.int 1),(.int 0),(.int 0),(.int 2),(.int 2),(.int 1),(.int 1),(.int 1),(.int 0),(.int 0),(.int 0),(.int 0),(.int 0)]
theorem Jr:∀u∈xA,∃w,u=V.int w:=by
 intro u hu
 unfold xA at hu
 simp only [bF,jf,or_false] at hu
 rcases hu with h|h|h|h|h|h|h|h|h|h|h|h|h|h|h|h|h|h|h|h|h|h|h|h|h|h<;>exact⟨_,h⟩
theorem q9{ss:List Int}{a:Nat}(hn:n≠0)(hs:ss.length≤1000)(ha:a≤1000)(h:H.get x=some (.list [.int ((a:Int)-1)]))(ho:Old H x)
  (q:∀(v:Nat) H',v<n→cZ (fun y=>y=x) H H'→H'.get x=some (.list [.int (((a+1:Nat):Int)-1)])→Q (.int v) H'):Wp (eG [.lst (ss.map V.int),.ref x,.int n]) H Q:=by
 refine Wp.f rfl ?_
 unfold xe
 refine Wp.b3 (Wp.jo h (Wp.Xa h (by simp) rfl ⟨.int ((a:Int)-1+1),_,rfl,?_⟩))
 refine(ah (show(a:Int)-1+1=(a:Int) by lia))▸?_
 refine Wp.b3 (Wp.jo au (Wp.append au (by simp) (Wp.p ?_)))
 haveI s:cZ (fun y=>y=x) H ((H.set x (.list [])).set x (.list ([]++ [.int a]))):= .fO rfl ho (.fO rfl ho .refl)
 haveI g:((H.set x (.list [])).set x (.list ([]++ [.int a]))).get x=some (.list [.int (((a+1:Nat):Int)-1)]):=by
  refine(ah (show((a+1:Nat):Int)-1=(a:Int) by lia))▸?_;exact au
 have fin:∀(w:Int),Wp (j4 .Mod (.int w) (.int n)) ((H.set x (.list [])).set x (.list ([]++ [.int a]))) fun v H'=>Wp (pU (Fl.ret v)) H' fun r iw=>Q (match r with| .ret v=>v| .next _=> .none) iw:=fun w=>by
  refine IX hn (Wp.p ?_)
  haveI hp:(0:Int)<(n:Int):=by lia
  refine dh (sC (HX w hp)) fun m hm=>?_
  haveI h1:=LB w hp
  rw [hm] at h1 ⊢
  exact q m _ (by exact sY.mp ‹_›) s g
 refine Wp.b4 (Wp.len (vs:=ss.map V.int) rfl (by rw [aq];exact ai ‹_› (by decide)) ⟨decide ((a:Int)<((ss.map V.int).length:Nat)),_,rfl,?_⟩)
 rw [aq]
 by_cases Iz:a<ss.length
 ·rw [decide_eq_true (by exact sY.mpr ‹_›)]
  refine Wp.cT (Wp.Qu (u:= .int ss[a]) (wZ ?_ (by exact bN ‹_› (by decide))) (fin _))
  (refine(ah (aC))▸?_;refine(ah (bj Iz))▸?_);rfl
 ·rw [decide_eq_false (by lia)]
  obtain⟨m,u,e1,e2,e3⟩:=A6 (vs:=xA) (by unfold xA;simp) (by decide) (a:Int)
  refine dh (Jr u (aB e2)) fun w cj=>?_
  subst cj
  refine Wp.cF (Wp.b ⟨.int ((a:Int).fmod 26),_,rfl,?_⟩)
  exact Wp.MR (vs:=xA) e3 (fin w)
structure GC where
 wr:Bool
 rest:Int
 pat:Co
 gO:Int
 ad:VA
noncomputable def GC.L(g:GC):List (Fd×V):= [(.cJ,.bool g.wr),(.rest,.int g.rest),(.bZ,g.pat.v),(.gO,.int g.gO),(.bc,.int 0),(.since,.int 0),(.jG,.none)]
structure Oz(gs:List GC)(H:Hp):Prop where
 ob:∀g∈gs,g.ad.t=3∧H.get g.ad=some (.aU g.L)∧g.pat.ok∧0≤g.rest∧1≤g.gO
 nd:(gs.map (·.ad)).Nodup
noncomputable def kQ(n:Nat):Co:=match n with
 |2=> .sW
 |3=> .num 1
 |4=> .num 2
 |5=> .num 3
 |_=> .none
theorem Nv(n:Nat):(kQ n).ok:=by
 unfold kQ
 split<;>first|trivial|(show(1:Int)≤_;decide)
theorem PH{n:Nat}(h:n<6):qL [.none,.none,.str "else",.int 1,.int 2,.int 3] (n:Int)=some (kQ n).v:=by
 refine wZ ?_ (by exact aT ‹_› (by decide))
 match n,h with
 |0,_=>rfl
 |1,_=>rfl
 |2,_=>rfl
 |3,_=>rfl
 |4,_=>rfl
 |5,_=>rfl
theorem NA{Q:Fl→Hp→Prop}{st:List V}(hn:n≤1000)(I:Nat→List V→Hp→Prop)(h0:I 0 st H)(pF:∀i st H,i<n→I i st H→Wp (mb (.int i) st) H fun r H'=>match r with| .ret u=>Q (.ret u) H'| .next uk=>I (i+1) uk H')(vM:∀st H,I n st H→Q (.next st) H):Wp (yE (.int n) mb st) H Q:=by
 refine eY (FP (item:=fun _ i=>some (if i<n then some (.int i) else none)) (mb:=mb) (Q:=Q) (vs:=(aR n).map fun i:Nat=>V.int (i:Int)) I (fun i st H hI=>?_) (fun i v st H hv hI=>?_) (fun st H hI=>vM st H (by rwa [aq,bP] at hI)) 10000000 0 st H (by rw [aq,bP];exact bN ‹_› (by decide)) (dM _) h0) fun r H' e z=>ie r H' ?_ z
 ·rw [aC]
  by_cases h:i<n
  ·rw [if_pos h,oO h];rfl
  ·rw [if_neg h,iI.mpr (by rw [bP];exact Ow ‹_›)];rfl
 ·rw [aC] at hv
  refine aS (ba.mp hv) fun j hj q=>?_
  have hi:=(aF.mp hj).1
  rw [bP] at hi
  rw [oO hi] at hj
  rw [←q,←Option.some.inj hj]
  exact pF i st H hi hI
 ·refine(?_:(if 0≤(n:Int)∧(n:Int)≤1000000 then sP (fun _ i=>some (if i<(n:Int).toNat then some (.int i) else none)) mb 10000000 0 st H else none)=_)
  rw [if_pos ⟨by exact pV _,by lia⟩,jZ]
  exact e
end
section
variable {H:Hp}{Q:Fl→Hp→Prop}
def Iw(bX bY bg:V):M Fl:=
 (((pn [(.cJ,((eG [bX,bY,(.int 2)]).d fun a=>((aX .Eq a (.int 1)).d fun c=>pU (.bool c)))),(.rest,(eG [bX,bY,(.int 3)]))]).d fun fs=>(dB 3).d fun x=>u5 x (.aU (i8 [] fs))).d fun dT=>((((iE [.none,.none,(.str "else"),(.int 1),(.int 2),(.int 3)]).d fun v=>((eG [bX,bY,(.int 6)]).d fun k=>(fc v k))).d fun u=>(b0 dT .bZ u)).d fun _=>((((eG [bX,bY,(.int 3)]).d fun b=>(j4 .Add (.int 1) b)).d fun u=>(b0 dT .gO u)).d fun _=>((((tC dT).d fun _=>((((pn [(.bc,(pU (.int 0))),(.since,(pU (.int 0))),(.jG,(pU .none))]).d fun fs=>(dB 3).d fun x=>u5 x (.aU (i8 [] fs))).d fun v=>(pU [v])).d fun vs=>(uO dT vs))).d fun _=>pU ()).d fun _=>((((jo bg).d fun _=>(fQ bg [dT])).d fun _=>pU ()).d fun _=>nX)))))
theorem NQ{x:VA}{H':Hp}{o:ib}{X:VA→Prop}(ht:x.t<100)(hn:H.next≤x.n)(s0:cZ X H (H.set x o))(s:cZ (fun y=>X y∨y=x) (H.set x o) H'):cZ X H H':=⟨ai s0.next s.next,fun y hy ho=>by
  have:y≠x:=by
   rintro rfl
   rcases ho with h|h
   ·lia
   ·lia
  refine cQ (s0.keep y hy ho) fun a b=>?_
  refine cQ (s.keep y (fun h=>h.elim hy this) (ho.on s0)) fun c d=>?_
  exact⟨c.trans a,d.trans b⟩,fun f=>s.fresh (s0.fresh f)⟩
theorem Wp.ps{f:Fd}{m:M V}{ps:List (Fd×M V)}{Q:List (Fd×V)→Hp→Prop}(h:Wp m H fun v H'=>Wp (pn ps) H' fun vs iw=>Q ((f,v)::vs) iw):Wp (pn ((f,m)::ps)) H Q:=Wp.b (h.mono fun v H' z=>Wp.b (z.mono fun vs iw z=>Wp.p z))
theorem Wp.p0{Q:List (Fd×V)→Hp→Prop}(h:Q [] H):Wp (pn []) H Q:=Wp.p h
theorem Sp{x y:VA}{fs gs:List (Fd×V)}{Q:V→Hp→Prop}(qH:x≠y)(h1:H.get x=some (.aU fs))(h2:H.get y=some (.aU gs))(hl:pB (fs.length+gs.length) 1000000=true)(z:Q .none (H.set x (.aU (i8 fs gs)))):Wp (uO (.ref x) [.ref y]) H Q:=by
 refine ie .none _ ?_ z
 show(if x=y then none else(match H.get x,H.get y with
  |some (.aU fs),some (.aU gs)=>if fs.length+gs.length≤1000000 then some (V.none,H.set x (.aU (i8 fs gs))) else none
  |_,_=>none))=_
 rw [if_neg qH,h1,h2]
 exact if_pos (bG hl)
theorem My{x y:VA}{ss:List Int}{a:Nat}{gs:List GC}(hs:ss.length≤1000)(ha:a+4≤1000)(tx:x.t=1)(ty:y.t=16)(hf:eP H)(hx:H.get x=some (.list [.int ((a:Int)-1)]))(hy:H.get y=some (.list (gs.map fun g=>V.ref g.ad)))(hg:Oz gs H)(hl:gs.length≤1000)
  (q:∀g H',cZ (fun z=>z=x∨z=y) H H'→H'.get x=some (.list [.int (((a+4:Nat):Int)-1)])→H'.get y=some (.list ((gs++ [g]).map fun g=>V.ref g.ad))→Oz (gs++ [g]) H'→Q (.next []) H'):Wp (Iw (.lst (ss.map V.int)) (.ref x) (.ref y)) H Q:=by
 have ox:=hf.old hx
 unfold Iw
 repeat (with_reducible refine Wp.b ?_)
 refine Wp.ps (Wp.b (q9 (n:=2) (by decide) hs (by exact ai (fV _ _) ‹_›) hx ox fun v1 aG h1 s1 g1=>?_))
 refine Wp.b (Wp.JO (Wp.p (Wp.ps ?_)))
 refine q9 (n:=3) (by decide) hs (by exact bN (fV _ _) ‹_›) g1 (ox.on s1) fun v2 bh h2 s2 g2=>?_
 haveI PM:=s1.trans s2
 have Ry:=PM.fresh hf
 refine Wp.p0 (Wp.b (jX (r7 (Ry _ (by refine(?_:3<100);exact af _ _) (az _)) ?_)))
 haveI tn:∀{z:VA} {n:Nat},z.t≠3→z≠⟨3,n⟩:=fun h e=>h (by(refine e.symm▸?_;with_reducible rfl))
 have nx:x≠⟨3,bh.next⟩:=tn (by refine tx.symm▸?_;decide)
 have ny:y≠⟨3,bh.next⟩:=tn (by refine ty.symm▸?_;decide)
 have SK:x≠y:=fun e=>by(replace tx:=(e)▸tx;replace tx:=(ty)▸tx);cases tx
 generalize V6:(⟨3,bh.next⟩:VA)=ga at nx ny
 have Xl:ga.t=3:=by(refine(V6)▸?_;with_reducible rfl)
 have W0:ga.n=bh.next:=by(refine(V6)▸?_;with_reducible rfl)
 have Vi:Old (bh.set ga (.aU [(.cJ,.bool ((v1:Int)==1)),(.rest,.int v2)])) ga:= .inr (by refine W0.symm▸?_;exact aW _)
 have s3:cZ (fun z=>z=x) bh (bh.set ga (.aU [(.cJ,.bool ((v1:Int)==1)),(.rest,.int v2)])):=V6▸gP (by exact af _ _)
 haveI g3:(bh.set ga (.aU [(.cJ,.bool ((v1:Int)==1)),(.rest,.int v2)])).get x=_:=aZ nx g2
 refine(?_:Wp _ (bh.set ga (.aU [(.cJ,.bool ((v1:Int)==1)),(.rest,.int v2)])) _)
 generalize XZ:(bh.set ga (.aU [(.cJ,.bool ((v1:Int)==1)),(.rest,.int v2)]))=dg at Vi s3 g3
 haveI e3:dg.get ga=some (.aU [(.cJ,.bool ((v1:Int)==1)),(.rest,.int v2)]):=by refine(XZ)▸?_;exact au
 haveI Y0:=PM.trans s3
 repeat (with_reducible refine Wp.b ?_)
 refine Wp.tup (by kernel_rfl) (Wp.b ?_)
 refine q9 (n:=6) (by decide) hs (by lia) g3 (ox.on Y0) fun v3 iZ h3 s4 g4=>?_
 haveI YO:ga≠x:=bM nx
 haveI e4:=s4.get YO Vi e3
 refine Wp.MR (PH h3) (Wp.b0 e4 (FY:= [(.cJ,.bool ((v1:Int)==1)),(.rest,.int v2),(.bZ,(kQ v3).v)]) rfl (by kernel_rfl) ?_)
 haveI o4:=Vi.on s4
 haveI s5:cZ (fun z=>z=x∨z=ga) iZ (iZ.set ga (.aU [(.cJ,.bool ((v1:Int)==1)),(.rest,.int v2),(.bZ,(kQ v3).v)])):=dm (.inr rfl) o4
 haveI g5:(iZ.set ga (.aU [(.cJ,.bool ((v1:Int)==1)),(.rest,.int v2),(.bZ,(kQ v3).v)])).get x=_:=aZ nx g4
 haveI o5:Old (iZ.set ga (.aU [(.cJ,.bool ((v1:Int)==1)),(.rest,.int v2),(.bZ,(kQ v3).v)])) ga:=o4.on s5
 haveI e5:(iZ.set ga (.aU [(.cJ,.bool ((v1:Int)==1)),(.rest,.int v2),(.bZ,(kQ v3).v)])).get ga=some (.aU [(.cJ,.bool ((v1:Int)==1)),(.rest,.int v2),(.bZ,(kQ v3).v)]):=au
 generalize (iZ.set ga (.aU [(.cJ,.bool ((v1:Int)==1)),(.rest,.int v2),(.bZ,(kQ v3).v)]))=gZ at s5 g5 o5 e5
 repeat (with_reducible refine Wp.b ?_)
 haveI Y1:cZ (fun z=>z=x∨z=ga) dg gZ:=(s4.mono fun _ e=> .inl e).trans s5
 refine q9 (n:=3) (by decide) hs (by exact cY ‹_›) g5 (((ox.on Y0).on Y1)) fun v4 zx h4 s6 g6=>?_
 haveI e6:=s6.get YO o5 e5
 haveI o6:=o5.on s6
 refine ie (.int (1+v4)) zx rfl (Wp.b0 e6 (FY:= [(.cJ,.bool ((v1:Int)==1)),(.rest,.int v2),(.bZ,(kQ v3).v),(.gO,.int (1+v4))]) rfl (by kernel_rfl) ?_)
 haveI s7:cZ (fun z=>z=x∨z=ga) zx (zx.set ga (.aU [(.cJ,.bool ((v1:Int)==1)),(.rest,.int v2),(.bZ,(kQ v3).v),(.gO,.int (1+v4))])):=dm (.inr rfl) o6
 haveI g7:(zx.set ga (.aU [(.cJ,.bool ((v1:Int)==1)),(.rest,.int v2),(.bZ,(kQ v3).v),(.gO,.int (1+v4))])).get x=_:=aZ nx g6
 haveI o7:Old (zx.set ga (.aU [(.cJ,.bool ((v1:Int)==1)),(.rest,.int v2),(.bZ,(kQ v3).v),(.gO,.int (1+v4))])) ga:=o6.on s7
 haveI e7:(zx.set ga (.aU [(.cJ,.bool ((v1:Int)==1)),(.rest,.int v2),(.bZ,(kQ v3).v),(.gO,.int (1+v4))])).get ga=some (.aU [(.cJ,.bool ((v1:Int)==1)),(.rest,.int v2),(.bZ,(kQ v3).v),(.gO,.int (1+v4))]):=au
 generalize (zx.set ga (.aU [(.cJ,.bool ((v1:Int)==1)),(.rest,.int v2),(.bZ,(kQ v3).v),(.gO,.int (1+v4))]))=sL at s7 g7 o7 e7
 haveI Vj:cZ (fun z=>z=x∨z=ga) dg sL:=(Y1.trans (s6.mono fun _ e=> .inl e)).trans s7
 haveI ZV:eP sL:=Vj.fresh (s3.fresh Ry)
 haveI n7:(⟨3,sL.next⟩:VA)≠ga:=fun e=>by
  haveI h1:sL.next=ga.n:=by(refine(e)▸?_;with_reducible rfl)
  rcases o7 with h|h
  ·replace h:=(Xl)▸h;lia
  ·lia
 haveI UT:Wp (tC (.ref ga)) sL fun _ H'=>H'=sL:=⟨(),sL,by refine(?_:(match sL.get ga with|some (.aU _)=>some ((),sL)|some (.cI _)=>some ((),sL)|some (.et _)=>some ((),sL)|_=>none)=_);(refine e7.symm▸?_;with_reducible rfl),rfl⟩
 repeat (with_reducible refine Wp.b ?_)
 refine UT.mono fun _ H' e=>?_
 subst e
 repeat (with_reducible refine Wp.b ?_)
 refine Wp.ps (Wp.p (Wp.ps (Wp.p (Wp.ps (Wp.p (Wp.p0 (Wp.b (jX (r7 (ZV _ (by refine(?_:3<100);exact af _ _) (az _)) (Wp.p ?_))))))))))
 haveI s8:cZ (fun z=>z=x∨z=ga) H' (H'.set ⟨3,H'.next⟩ (.aU (i8 [] [(.bc,.int 0),(.since,.int 0),(.jG,.none)]))):=gP (by exact af _ _)
 haveI e8:(H'.set ⟨3,H'.next⟩ (.aU (i8 [] [(.bc,.int 0),(.since,.int 0),(.jG,.none)]))).get ga=_:=aZ (bM n7) e7
 haveI g8:(H'.set ⟨3,H'.next⟩ (.aU (i8 [] [(.bc,.int 0),(.since,.int 0),(.jG,.none)]))).get x=_:=aZ (tn (by refine tx.symm▸?_;decide)) g7
 haveI o8:=o7.on s8
 refine Sp (bM n7) e8 au (by kernel_rfl) ?_
 haveI g:GC:=⟨(v1:Int)==1,v2,kQ v3,1+v4,ga⟩
 haveI oy:=hf.old hy
 haveI y2:bh.get y=some (.list (gs.map fun g=>V.ref g.ad)):=PM.get (bM SK) oy hy
 haveI y3:dg.get y=some (.list (gs.map fun g=>V.ref g.ad)):=s3.get (bM SK) (oy.on PM) y2
 haveI Ux:¬(y=x∨y=ga):=fun h=>h.elim (bM SK) ny
 haveI y8:=s8.get Ux (((oy.on PM).on s3).on Vj) (Vj.get Ux ((oy.on PM).on s3) y3)
 generalize (H'.set ⟨3,H'.next⟩ (.aU (i8 [] [(.bc,.int 0),(.since,.int 0),(.jG,.none)])))=F7 at s8 e8 g8 o8 y8
 refine Wp.p (Wp.b3 (Wp.jo (aZ ny y8) (Wp.append (aZ ny y8) (by rw [aq];exact ai ‹_› (by decide)) (Wp.p (Wp.p ?_)))))
 haveI sr:cZ (fun z=>(z=x∨z=y)∨z=ga) dg ((F7.set ga (.aU (i8 [(.cJ,.bool ((v1:Int)==1)),(.rest,.int v2),(.bZ,(kQ v3).v),(.gO,.int (1+v4))] (i8 [] [(.bc,.int 0),(.since,.int 0),(.jG,.none)])))).set y (.list ((gs.map fun g=>V.ref g.ad)++ [.ref ga]))):=by
  haveI a:cZ (fun z=>(z=x∨z=y)∨z=ga) dg F7:=(Vj.trans s8).mono fun z h=>h.elim (fun e=> .inl (.inl e)) .inr
  exact cZ.fO (.inl (.inr rfl)) ((oy.on PM).on s3) (cZ.fO (.inr rfl) Vi a)
 have st:cZ (fun z=>z=x∨z=y) H ((F7.set ga (.aU (i8 [(.cJ,.bool ((v1:Int)==1)),(.rest,.int v2),(.bZ,(kQ v3).v),(.gO,.int (1+v4))] (i8 [] [(.bc,.int 0),(.since,.int 0),(.jG,.none)])))).set y (.list ((gs.map fun g=>V.ref g.ad)++ [.ref ga]))):=by
  subst XZ
  exact(PM.mono fun _ e=> .inl e).trans (NQ (by refine Xl.symm▸?_;exact af _ _) (by refine W0.symm▸?_;exact az _) (s3.mono fun _ e=> .inl e) sr)
 refine q ⟨(v1:Int)==1,v2,kQ v3,1+v4,ga⟩ _ st (aZ SK (aZ nx g8)) (by refine dK.symm▸?_;exact au) ⟨fun g V5=>?_,?_⟩
 ·rcases eH.mp V5 with h|h
  ·refine fC (hg.ob g h) fun a1 a2 a3=>?_
   refine fM a1 (st.get (fun e=>?_) (hf.old a2) a2) a3
   rcases e with e|e
   ·(replace a1:=(e)▸a1;replace a1:=(tx)▸a1);cases a1
   ·(replace a1:=(e)▸a1;replace a1:=(ty)▸a1);cases a1
  ·refine(ah (aA.mp h))▸?_
   exact ID Xl (aZ (bM ny) (au.trans (by kernel_rfl))) (Nv v3) (pV _) (by refine(?_:(1:Int)≤1+v4);lia)
 ·rw [dK,fq]
  refine fM hg.nd (by simp) (fun z hz z' Vc e=>?_)
  haveI Vc:z'=ga:=aA.mp Vc
  refine aS (aP.mp hz) fun g ZW cj=>?_
  subst cj
  refine fC (hg.ob g ZW) fun a1 a2 a3=>?_
  rcases hf.old a2 with h|h
  ·replace h:=(a1)▸h;lia
  ·(replace h:=(e)▸h;replace h:=(Vc)▸h;replace h:=(W0)▸h)
   have:=PM.next
   lia
end
section
variable {H:Hp}{Q:V→Hp→Prop}
theorem Wp.sA{f:Fd}{Q:Unit→Hp→Prop}(hx:100≤x.t)(h:H.get x=some (.inst c fs))(e':jB fs f u=FY)(e:pB fs.length 500=true)(q:∀H',cZ (fun y=>y=x) H H'→H'.get x=some (.inst c FY)→Q () H'):Wp (Internal.bb (.ref x) f u) H Q:=
 Wp.bb h e' e (q _ (dm rfl (.inl hx)) au)
theorem Wp.nL(hf:eP H)(ht:tg<100)(e:pB vs.length 1000000=true)(q:∀(H':Hp) (x:VA),x.t=tg→H.next≤x.n→x.n<H'.next→cZ (fun _=>False) H H'→H'.get x=some (.list vs)→Q (.ref x) H'):Wp ((dB tg).d fun x=>lL x vs) H Q:=
 Wp.IY hf ht e (q _ ⟨tg,H.next⟩ rfl (az _) (aW _) (gP ht) au)
theorem Wp.nH(hf:eP H)(ht:tg<100)(q:∀(H':Hp) (x:VA),x.t=tg→H.next≤x.n→x.n<H'.next→cZ (fun _=>False) H H'→H'.get x=some o→Q (.ref x) H'):Wp ((dB tg).d fun x=>u5 x o) H Q:=
 Wp.b (jX (r7 (hf _ ht (az _)) (q _ ⟨tg,H.next⟩ rfl (az _) (aW _) (gP ht) au)))
theorem Wp.mk(hx:nm vs=x)(ht:100≤x.t)(h:H.get x=none)(q:∀H',cZ (fun y=>y=x) H H'→H'.get x=some (.inst C [])→Wp (m (.ref x::vs)) H' fun u iw=>u= .none∧Q (.ref x) iw):Wp (my C nm m vs) H Q:=by
 refine Kl ?_
 refine hx.symm▸?_
 exact r7 h (q _ (dm rfl (.inl ht)) au)
theorem cZ.none(s:cZ X H H')(hx:¬X y)(ht:100≤y.t)(h:H.get y=none):H'.get y=none:=(s.keep y hx (.inl ht)).1.trans h
noncomputable abbrev HU:VA:=⟨107,0⟩
noncomputable def Uq:List (Fd×V):= [(.width,.int 32),(.steps,.int 1000000),(.depth,.int 50),(.members,.int 10000),(.text,.int 100000),(.tasks,.int 50),(.heap,.int 1000000)]
theorem K7(h:H.get HU=none)(q:∀H',cZ (fun y=>y=HU) H H'→H'.get HU=some (.inst 386 Uq)→Q (.ref HU) H'):Wp (my 386 yy lO []) H Q:=by
 refine Wp.mk (x:=HU) rfl (by decide) h fun kX s0 g0=>?_
 unfold lO
 dsimp only
 refine Wp.f rfl ?_
 refine(?_:Wp (qp _ _ _ _ _ _ _ _) _ _)
 unfold qp
 refine Wp.b (Wp.sA (by decide) g0 rfl (by kernel_rfl) fun aG s1 g1=>Wp.b (Wp.sA (by decide) g1 rfl (by kernel_rfl) fun bh s2 g2=>Wp.b (Wp.sA (by decide) g2 rfl (by kernel_rfl) fun dg s3 g3=>Wp.b (Wp.sA (by decide) g3 rfl (by kernel_rfl) fun iZ s4 g4=>?_))))
 refine Wp.b (Wp.sA (by decide) g4 rfl (by kernel_rfl) fun gZ s5 g5=>Wp.b (Wp.sA (by decide) g5 rfl (by kernel_rfl) fun zx s6 g6=>Wp.b (Wp.sA (by decide) g6 rfl (by kernel_rfl) fun sL s7 g7=>Wp.p ⟨rfl,q _ (((((((s0.trans s1).trans s2).trans s3).trans s4).trans s5).trans s6).trans s7) (g7.trans (by kernel_rfl))⟩)))
theorem Mb(h:H.get sV=none)(q:∀H',cZ (fun y=>y=sV) H H'→H'.get sV=some (.inst 88 (HS 0))→Q (.ref sV) H'):Wp (my 88 BL pX []) H Q:=by
 refine Wp.mk (x:=sV) rfl (by decide) h fun kX s0 g0=>?_
 refine Wp.f rfl ?_
 unfold xc
 exact Wp.b (Wp.sA (by decide) g0 rfl (by kernel_rfl) fun aG s1 g1=>Wp.p ⟨rfl,q _ (s0.trans s1) (g1.trans (by kernel_rfl))⟩)
noncomputable def RP(dl:VA):List (Fd×V):= [(.number,.int 0),(.owner,.none),(.mT,.ref dl),(.nB,.bool false)]
theorem Lb(hf:eP H)(h:H.get Af=none)(q:∀(H':Hp) (dl:VA),cZ (fun y=>y=Af) H H'→H'.get Af=some (.inst 407 (RP dl))→H'.get dl=some (.list [])→dl.t=15→H.next≤dl.n→Q (.ref Af) H'):Wp (my 407 yz oV [.int 0,.none]) H Q:=by
 refine Wp.mk (x:=Af) rfl (by decide) h fun kX s0 g0=>?_
 refine Wp.f rfl ?_
 unfold vh
 refine Wp.b (Wp.sA (by decide) g0 rfl (by kernel_rfl) fun aG s1 g1=>Wp.b (Wp.sA (by decide) g1 rfl (by kernel_rfl) fun bh s2 g2=>Wp.b (Wp.b ?_)))
 have Kc:=(s0.trans s1).trans s2
 refine Wp.nL (Kc.fresh hf) (by exact af _ _) (by kernel_rfl) fun dg dl t1 t2 t3 s3 g3=>?_
 haveI Zo:=s3.old (Kc.fresh hf) g2
 haveI nd:dl≠Af:=fun e=>by replace t1:=(e)▸t1;cases t1
 refine Wp.sA (by decide) Zo rfl (by kernel_rfl) fun iZ s4 g4=>Wp.b (Wp.sA (by decide) g4 rfl (by kernel_rfl) fun gZ s5 g5=>Wp.p ⟨rfl,q gZ dl ((Kc.trans (s3.mono fun _ f=>f.elim)).trans (s4.trans s5)) (g5.trans (by kernel_rfl)) ?_ t1 (ai Kc.next t2)⟩)
 exact(s4.trans s5).get nd (.inr t3) g3
theorem Jl(hf:eP H)(h:H.get ff=none)(hc:H.get sV=none)(hl:H.get Af=none)(q:∀(H':Hp) (tl dl lo:VA),cZ (fun y=>y=ff∨y=sV∨y=Af) H H'→H'.get ff=some (.inst 544 (pP ⟨.ref HU,ch,tl,0,0,lo,.none⟩))→H'.get sV=some (.inst 88 (HS 0))→H'.get Af=some (.inst 407 (RP dl))→
   H'.get tl=some (.list [])→H'.get dl=some (.list [])→H'.get lo=some (.list [])→tl.t=15→dl.t=15→lo.t=14→tl≠dl→Q (.ref ff) H'):Wp (my 544 wd nQ [.ref HU,ch]) H Q:=by
 haveI m1:∀{y:VA},y=ff→y=ff∨y=sV∨y=Af:= .inl
 refine Wp.mk (x:=ff) rfl (by decide) h fun kX s0 g0=>?_
 refine Wp.f rfl ?_
 unfold tW
 refine Wp.b (Wp.sA (by decide) g0 rfl (by kernel_rfl) fun aG s1 g1=>Wp.b (Wp.sA (by decide) g1 rfl (by kernel_rfl) fun bh s2 g2=>Wp.b (Wp.b ?_)))
 haveI Kc:=(s0.trans s1).trans s2
 haveI S2:cZ (fun y=>y=ff∨y=sV∨y=Af) H bh:=Kc.mono fun _=> .inl
 refine Mb (Kc.none (by decide) (by decide) hc) fun dg s3 c3=>?_
 haveI g3:=s3.get (by decide) (.inl (by decide)) g2
 haveI l3:=s3.none (y:=Af) (by decide) (by decide) (Kc.none (by decide) (by decide) hl)
 refine Wp.sA (by decide) g3 rfl (by kernel_rfl) fun iZ s4 g4=>Wp.b (Wp.b ?_)
 haveI S4:=(S2.trans (s3.mono fun _ e=> .inr (.inl e))).trans (s4.mono fun _=> .inl)
 haveI c4:=s4.get (by decide) (.inl (by decide)) c3
 haveI l4:=s4.none (y:=Af) (by decide) (by decide) l3
 haveI f4:=S4.fresh hf
 refine Wp.nL f4 (by exact af _ _) (by kernel_rfl) fun gZ tl t1 t2 t3 s5 Zp=>?_
 haveI g5:=s5.old f4 g4
 haveI c5:=s5.old f4 c4
 haveI l5:=s5.none (y:=Af) id (by decide) l4
 refine Wp.sA (by decide) g5 rfl (by kernel_rfl) fun zx s6 g6=>Wp.b (Wp.sA (by decide) g6 rfl (by kernel_rfl) fun sL s7 g7=>Wp.b (Wp.sA (by decide) g7 rfl (by kernel_rfl) fun F7 s8 g8=>Wp.b (Wp.b ?_)))
 haveI SO:=(s6.trans s7).trans s8
 haveI S8:=(S4.trans (s5.mono fun _ f=>f.elim)).trans (SO.mono fun _=> .inl)
 haveI c8:=SO.get (by decide) (.inl (by decide)) c5
 haveI l8:=SO.none (y:=Af) (by decide) (by decide) l5
 haveI f8:=S8.fresh hf
 haveI o5:Old gZ tl:= .inr t3
 haveI tt:∀{z:VA},z.t=14∨z.t=15→z≠ff∧z≠sV∧z≠Af:=fun h=>⟨fun e=>(by replace h:=(e)▸h;rcases h with h|h<;>cases h),fun e=>(by replace h:=(e)▸h;rcases h with h|h<;>cases h),fun e=>(by replace h:=(e)▸h;rcases h with h|h<;>cases h)⟩
 haveI Zq:=SO.get (tt (.inr t1)).1 o5 Zp
 refine Lb f8 l8 fun Vp dl s9 m9 d9 t9 n9=>?_
 haveI g9:=s9.get (by decide) (.inl (by decide)) g8
 haveI c9:=s9.get (by decide) (.inl (by decide)) c8
 haveI XQ:=s9.get (tt (.inr t1)).2.2 (o5.on SO) Zq
 refine Wp.sA (by decide) g9 rfl (by kernel_rfl) fun HA sa ga=>Wp.b (Wp.b ?_)
 haveI SA:=(S8.trans (s9.mono fun _ e=> .inr (.inr e))).trans (sa.mono fun _=> .inl)
 haveI fA:=SA.fresh hf
 haveI mA:=sa.get (by decide) (.inl (by decide)) m9
 haveI f9:=(S8.trans (s9.mono fun _ e=> .inr (.inr e))).fresh hf
 haveI dA:=sa.get (tt (.inr t9)).1 (f9.old d9) d9
 haveI XR:=sa.get (tt (.inr t1)).1 (f9.old XQ) XQ
 haveI cA:=sa.get (by decide) (.inl (by decide)) c9
 refine Wp.nL fA (by exact af _ _) (by kernel_rfl) fun HB lo u1 u2 u3 sb lb=>?_
 haveI gB:=sb.old fA ga
 refine Wp.sA (by decide) gB rfl (by kernel_rfl) fun HC sc gC=>Wp.b (Wp.sA (by decide) gC rfl (by kernel_rfl) fun HD sd gD=>Wp.p ⟨rfl,?_⟩)
 haveI SQ:=sc.trans sd
 haveI fB:=sb.fresh fA
 refine q HD tl dl lo ((SA.trans (sb.mono fun _ f=>f.elim)).trans (SQ.mono fun _=> .inl)) (gD.trans (by kernel_rfl)) (SQ.get (by decide) (.inl (by decide)) (sb.old fA cA)) (SQ.get (by decide) (.inl (by decide)) (sb.old fA mA)) (SQ.get (tt (.inr t1)).1 (fB.old (sb.old fA XR)) (sb.old fA XR)) (SQ.get (tt (.inr t9)).1 (fB.old (sb.old fA dA)) (sb.old fA dA)) (SQ.get (tt (.inl u1)).1 (fB.old lb) lb) t1 t9 u1 fun e=>?_
 have:=SO.next
 lia
variable {i:Nat}
theorem Wp.sD{f:Fd}{Q:Unit→Hp→Prop}{kX:Hp}(hx:100≤x.t)(s:cZ (fun y=>y=x) kX H)(h:H.get x=some (.inst c fs))(e':jB fs f u=FY)(e:pB fs.length 500=true)(q:∀H',cZ (fun y=>y=x) kX H'→H'.get x=some (.inst c FY)→Q () H'):Wp (Internal.bb (.ref x) f u) H Q:=
 Wp.sA hx h e' e fun H' s' g=>q H' (s.trans s') g
theorem Wp.YG(hf:eP H)(ht:tg<100)(q:∀(H':Hp) (x:VA),x.t=tg→H.next≤x.n→x.n<H'.next→cZ (fun _=>False) H H'→H'.get x=some o→Q (.ref x) H'):Wp (dB tg) H fun x H'=>Wp (u5 x o) H' Q:=
 jX (r7 (hf _ ht (az _)) (q _ ⟨tg,H.next⟩ rfl (az _) (aW _) (gP ht) au))
noncomputable def PU(qa:VA)(st:Str):TS:=⟨.str st,.lst [],.none,.none,.none,.none,.none,.int 0,qa⟩
theorem PT(hf:eP H)(h:H.get (tA i)=none)(q:∀(H':Hp) (qa:VA),cZ (fun y=>y=tA i) H H'→H'.get (tA i)=some (.inst 137 (bK ((i+1:Nat):Int) (PU qa "fresh")))→H'.get qa=some (.aU [])→qa.t=2→H.next≤qa.n→Q (.ref (tA i)) H'):
  Wp (my 137 rV lP [.int ((i+1:Nat):Int),.str "visitor",.ref Af]) H Q:=by
 refine Wp.mk (x:=tA i) rfl (by refine(?_:100≤102);exact af _ _) h fun kX s g=>?_
 refine Wp.f rfl ?_
 unfold qY
 haveI hx:100≤(tA i).t:=by refine(?_:100≤102);exact af _ _
 repeat (first|(with_reducible refine Wp.sD hx s g rfl (by kernel_rfl) ?_;clear s g;intro kX s g)|with_reducible refine Wp.b ?_|with_reducible refine Wp.lst (by kernel_rfl) ?_|with_reducible refine Wp.p ?_)
 refine Wp.YG (s.fresh hf) (by exact af _ _) fun aG qa t1 t2 t3 s1 e1=>?_
 haveI g1:=s1.old (s.fresh hf) g
 haveI n1:=ai s.next t2
 haveI HV:=s.trans (s1.mono fun _ f=>f.elim)
 haveI nq:qa≠tA i:=fun e=>by replace t1:=(e)▸t1;cases t1
 clear s g t2
 haveI sq:cZ (fun y=>y=tA i) aG aG:= .refl
 repeat (first|(with_reducible refine Wp.sD hx sq g1 rfl (by kernel_rfl) ?_;clear sq g1;intro kX sq g1)|with_reducible refine Wp.b ?_|with_reducible refine Wp.lst (by kernel_rfl) ?_|with_reducible refine Wp.p ?_)
 exact⟨rfl,q kX qa (HV.trans sq) (g1.trans (by kernel_rfl)) (sq.get nq (.inr t3) e1) t1 n1⟩
structure LP where
 gl:VA
 xs:VA
 xw:VA
 sl:VA
 tl:VA
 dl:VA
 lo:VA
 r6:List Int
structure LP.Ok(L:LP):Prop where
 gl:L.gl.t=16
 xs:L.xs.t=8
 xw:L.xw.t=8
 xx:L.xw≠L.xs
 sl:L.sl.t=17
 tl:L.tl.t=15
 dl:L.dl.t=15
 td:L.tl≠L.dl
 lo:L.lo.t=14
 r6:L.r6≠ []
 wl:L.r6.length≤1000
structure Lay(L:LP)(gs:List GC)(H:Hp):Prop where
 fr:eP H
 gl:H.get L.gl=some (.list (gs.map fun g=>V.ref g.ad))
 gs:Oz gs H
 xs:H.get L.xs=some (.cell (.ref L.sl))
 xw:H.get L.xw=some (.cell (.lst (L.r6.map V.int)))
 sl:H.get L.sl=some (.list [])
 li:H.get Af=some (.inst 407 (RP L.dl))
 ck:H.get sV=some (.inst 88 (HS 0))
 lim:H.get HU=some (.inst 386 Uq)
 lo:H.get L.lo=some (.list [])
 nc:∀m,H.get (cA m)=none
 F0:H.get nZ=none
theorem Lay.keep{gs:List GC}(h:Lay L gs H)(o:L.Ok)(s:fi b H H')(e1:b 16=false)(e2:b 3=false)(e3:b 8=false)(e4:b 17=false)(e5:b 106=false)(e6:b 105=false)(e7:b 107=false)(e8:b 14=false)(e9:b 101=false)(Zk:b 103=false):Lay L gs H':=
 ⟨s.fresh h.fr,s.get h.fr o.gl e1 h.gl,⟨fun g hg=>⟨(h.gs.ob g hg).1,s.get h.fr (h.gs.ob g hg).1 e2 (h.gs.ob g hg).2.1,(h.gs.ob g hg).2.2⟩,h.gs.nd⟩,s.get h.fr o.xs e3 h.xs,s.get h.fr o.xw e3 h.xw,s.get h.fr o.sl e4 h.sl,s.get h.fr rfl e5 h.li,s.get h.fr rfl e6 h.ck,s.get h.fr rfl e7 h.lim,s.get h.fr o.lo e8 h.lo,
  fun m=>cZ.none s (by refine(?_:¬b 101=true);refine e9.symm▸?_;exact aw) (by refine(?_:100≤101);exact eJ _) (h.nc m),cZ.none s (by refine(?_:¬b 103=true);refine Zk.symm▸?_;exact aw) (by decide) h.F0⟩
abbrev Lm(L:LP)(m:Nat):TK:=⟨.ref HU,.iC 0 [L.xw,L.xs],L.tl,m,0,L.lo,.none⟩
structure Kq(L:LP)(m:Nat)(qs:List VA)(st:Nat→Str)(H:Hp):Prop where
 tk:H.get ff=some (.inst 544 (pP (Lm L m)))
 tl:H.get L.tl=some (.list ((aR m).map fun i=>V.ref (tA i)))
 dl:H.get L.dl=some (.list ((aR m).map fun i=>V.ref (tA i)))
 ql:qs.length=m
 ts:∀(i:Nat) (q:VA),qs[i]? =some q→H.get (tA i)=some (.inst 137 (bK ((i+1:Nat):Int) (PU q (st i))))
 qe:∀q∈qs,q.t=2∧H.get q=some (.aU [])
 qn:qs.Nodup
 nt:∀i,m≤i→H.get (tA i)=none
noncomputable abbrev S9(t:Nat):Bool:=t==104||t==102||t==15
theorem Ff{st:Nat→Str}(h6:m<50)(o:L.Ok)(A:Lay L gs H)(B:Kq L m qs st H)(uA:st m= "fresh")(q:∀(H':Hp) (qa:VA),fi S9 H H'→Lay L gs H'→Kq L (m+1) (qs++ [qa]) st H'→Q (.ref (tA m)) H'):Wp (oo [.ref ff,.str "visitor",.ref Af,.int 1]) H Q:=by
 refine Wp.f rfl ?_
 unfold zd
 have ll:(gf (fun i=>V.ref (tA i)) (aR m)).length=m:=by rw [aq,bP]
 have ltl:listOf H (.ref L.tl)=some ((aR m).map fun i=>V.ref (tA i)):=by refine(?_:(match H.get L.tl with|some (.list vs)=>some vs|_=>none)=_);(refine B.tl.symm▸?_;with_reducible rfl)
 refine Wp.b4 (Wp.aE B.tk B4 (Wp.p (Wp.len ltl (by refine ll.symm▸?_;exact cY (aT ‹_› (by decide))) (Wp.b2 (Wp.aE B.tk (u:= .ref HU) rfl (Wp.aE A.lim (u:= .int 50) rfl ⟨decide ((50:Int)≤((gf (fun i=>V.ref (tA i)) (aR m)).length:Nat)),H,rfl,?_⟩))))))
 rw [ll,decide_eq_false (by lia)]
 refine Wp.cy (Wp.cF (Wp.p (Wp.b4 (Kj B.tk (ue B.tk (Wp.p ?_))))))
 haveI hk:({Lm L m with cS:=(Lm L m).cS+1}:TK)=Lm L (m+1):=rfl
 refine hk.symm▸?_
 haveI s1:fi S9 H (H.set ff (.inst 544 (pP (Lm L (m+1))))):=dm rfl (.inl (by decide))
 have A1:=A.keep o s1 rfl rfl rfl rfl rfl rfl rfl rfl rfl rfl
 haveI k1:(H.set ff (.inst 544 (pP (Lm L (m+1))))).get ff=some (.inst 544 (pP (Lm L (m+1)))):=au
 haveI tn:∀i,tA i≠ff:=fun i e=>by have:=congrArg VA.t e;cases this
 haveI ntl:L.tl≠ff:=fun e=>by have:=o.tl;replace this:=(e)▸this;cases this
 haveI YI:L.dl≠ff:=fun e=>by have:=o.dl;replace this:=(e)▸this;cases this
 haveI t1:∀(i:Nat) (q:VA),qs[i]? =some q→(H.set ff (.inst 544 (pP (Lm L (m+1))))).get (tA i)=_:=fun i q e=>aZ (tn i) (B.ts i q e)
 have l1:(H.set ff (.inst 544 (pP (Lm L (m+1))))).get L.tl=_:=aZ ntl B.tl
 have d1:(H.set ff (.inst 544 (pP (Lm L (m+1))))).get L.dl=_:=aZ YI B.dl
 have q1:∀q∈qs,(H.set ff (.inst 544 (pP (Lm L (m+1))))).get q=some (.aU []):=fun q hq=>aZ (fun e=>by have:=(B.qe q hq).1;replace this:=(e)▸this;cases this) (B.qe q hq).2
 have n1:∀i,m≤i→(H.set ff (.inst 544 (pP (Lm L (m+1))))).get (tA i)=none:=fun i hi=>aZ (tn i) (B.nt i hi)
 generalize (H.set ff (.inst 544 (pP (Lm L (m+1)))))=aG at s1 A1 k1 t1 l1 d1 q1 n1
 refine PT A1.fr (n1 m (az _)) fun bh qa s2 g2 e2 tq nq=>?_
 haveI s2':fi S9 aG bh:=s2.mono fun y=>bE rfl rfl
 have A2:=A1.keep o s2' rfl rfl rfl rfl rfl rfl rfl rfl rfl rfl
 have ne2:∀{y:VA},y.t≠102→¬(y=tA m):=fun h e=>h (by(refine e.symm▸?_;with_reducible rfl))
 haveI k2:=s2.get (ne2 (by decide)) (.inl (by decide)) k1
 haveI l2:=s2.get (ne2 (by refine o.tl.symm▸?_;decide)) (A1.fr.old l1) l1
 haveI d2:=s2.get (ne2 (by refine o.dl.symm▸?_;decide)) (A1.fr.old d1) d1
 haveI nqs:∀q∈qs,q≠qa:=fun q hq e=>by
  rcases A1.fr.old (q1 q hq) with h|h
  ·replace h:=((B.qe q hq).1)▸h;lia
  ·replace h:=(e)▸h;lia
 refine Wp.b4 (Wp.aE A2.li (u:= .none) rfl (Wp.b (Wp.jH (Wp.p (Wp.b ⟨false,bh,rfl,Wp.p (Wp.bb g2 (FY:=bK ((m+1:Nat):Int) (PU qa "fresh")) rfl (by kernel_rfl) ?_)⟩)))))
 haveI s3:cZ (fun y=>y=tA m) bh (bh.set (tA m) (.inst 137 (bK ((m+1:Nat):Int) (PU qa "fresh")))):=dm rfl (.inl (by refine(?_:100≤102);exact af _ _))
 haveI g3:(bh.set (tA m) (.inst 137 (bK ((m+1:Nat):Int) (PU qa "fresh")))).get (tA m)=_:=au
 haveI k3:=s3.get (ne2 (by decide)) (.inl (by decide)) k2
 haveI l3:=s3.get (ne2 (by refine o.tl.symm▸?_;decide)) (A2.fr.old l2) l2
 haveI d3:=s3.get (ne2 (by refine o.dl.symm▸?_;decide)) (A2.fr.old d2) d2
 haveI e3:=s3.get (ne2 (by refine tq.symm▸?_;decide)) (A2.fr.old e2) e2
 have A3:=A2.keep o (s3.mono fun y=>bE (b:=S9) rfl rfl) rfl rfl rfl rfl rfl rfl rfl rfl rfl rfl
 haveI UD:=s2.trans s3
 generalize (bh.set (tA m) (.inst 137 (bK ((m+1:Nat):Int) (PU qa "fresh"))))=dg at s3 g3 k3 l3 d3 e3 A3 UD
 have VH:L.dl≠L.tl:=bM o.td
 refine Wp.b3 (Wp.aE A3.li (u:= .ref L.dl) rfl (Wp.b (Wp.jo d3 (Wp.append d3 (by refine ll.symm▸?_;exact cY (aT ‹_› (by decide))) (Wp.p ?_)))))
 refine Wp.b3 (Wp.aE (aZ (bM YI) k3) B4 (Wp.b (Wp.jo (aZ (bM VH) l3) (Wp.append (aZ (bM VH) l3) (by refine ll.symm▸?_;exact cY (aT ‹_› (by decide))) (Wp.p (Wp.p ?_))))))
 have s4:cZ (fun y=>y=L.dl∨y=L.tl) dg ((dg.set L.dl (.list (((aR m).map fun i=>V.ref (tA i))++ [.ref (tA m)]))).set L.tl (.list (((aR m).map fun i=>V.ref (tA i))++ [.ref (tA m)]))):=
  .fO (.inr rfl) (A3.fr.old l3) (.fO (.inl rfl) (A3.fr.old d3) .refl)
 have rs:((aR m).map fun i=>V.ref (tA i))++ [V.ref (tA m)]=(aR (m+1)).map fun i=>V.ref (tA i):=by(refine Cd.symm▸?_;refine dK.symm▸?_);rfl
 have Y2:fi S9 dg _:=s4.mono fun y=>Or.rec (bE o.dl rfl) (bE o.tl rfl)
 have ne4:∀{y:VA},y.t≠15→¬(y=L.dl∨y=L.tl):=fun h e=>e.elim (fun e=>h (by refine e.symm▸?_;exact o.dl)) fun e=>h (by refine e.symm▸?_;exact o.tl)
 refine q _ qa ((s1.trans (UD.mono fun y=>bE rfl rfl)).trans Y2) (A3.keep o Y2 rfl rfl rfl rfl rfl rfl rfl rfl rfl rfl) ⟨s4.get (ne4 (by decide)) (.inl (by decide)) k3,by refine(rs)▸?_;exact au,by refine(rs)▸?_;exact aZ VH au,by(refine ij.symm▸?_;refine B.ql.symm▸?_);rfl,fun i q' hq=>?_,fun q' hq=>?_,?_,fun i hi=>?_⟩
 ·by_cases KV:i=m
  ·subst KV
   have:q'=qa:=by rw [List.getElem?_append_right (by rw [B.ql];exact az _),B.ql,Nat.sub_self] at hq;exact(Option.some.inj hq).symm
   apply iH this
   rw [uA]
   exact s4.get (ne4 (show(102:Nat)≠15 by decide)) (.inl (by refine(?_:100≤102);exact af _ _)) g3
  ·haveI Iz:i<qs.length:=by
    have:=(aF.mp hq).1
    (replace this:=(ij)▸this;replace this:=(B.ql)▸this)
    simp at this
    rw [B.ql];lia
   replace hq:=(List.getElem?_append_left Iz)▸hq
   refine s4.get (ne4 (show(102:Nat)≠15 by decide)) (.inl (by refine(?_:100≤102);exact af _ _)) (UD.get (fun e=>KV ?_) (.inl (by refine(?_:100≤102);exact af _ _)) (t1 i q' hq))
   have:=congrArg VA.n e
   exact El.inj this
 ·rcases eH.mp hq with h|h
  ·haveI Xo:=(B.qe q' h).1
   haveI a:=UD.get (ne2 (by rw [Xo];decide)) (A1.fr.old (q1 q' h)) (q1 q' h)
   exact⟨Xo,s4.get (ne4 (by rw [Xo];decide)) (A3.fr.old a) a⟩
  ·rw [aA.mp h]
   exact⟨tq,s4.get (ne4 (by rw [tq];decide)) (A3.fr.old e3) e3⟩
 ·rw [fq]
  refine fM B.qn (by simp) (fun x hx y hy e=>?_)
  replace e:=(aA.mp hy)▸e
  exact nqs x hx e
 ·refine cZ.none s4 (ne4 (show(102:Nat)≠15 by decide)) (by refine(?_:100≤102);exact af _ _) (cZ.none UD (fun e=>?_) (by refine(?_:100≤102);exact af _ _) (n1 i (by exact cY ‹_›)))
  lia
theorem N5{vs:List V}{Q:Unit→Hp→Prop}(I:Nat→Hp→Prop)(tM:∀i H,I i H→∀j,itemAt H src j=some vs[j]?)
  (pF:∀i v H,vs[i]? =some v→I i H→Wp (mc v) H fun b aG=>b=true∧Wp (me v) aG fun u bh=>∃ls,bh.get acc=some (.list ls)∧ls.length≤1000000∧I (i+1) (bh.set acc (.list (ls++ [u])))) (vM:∀H,I vs.length H→Q () H):
  ∀(n i:Nat) (H:Hp),vs.length<n+i→i≤vs.length→I i H→Wp (i7 src (vz mc me acc) n i) H Q:=
 HN I (fun i H h=>tM i H h i) (fun i v H hv hI=>HQ ((pF i v H hv hI).mono fun b aG z=>by rw [z.1,if_pos rfl];exact z.2)) vM
theorem Kq.keep{st:Nat→Str}{b:Nat→Bool}(B:Kq L m qs st H)(o:L.Ok)(hf:eP H)(s:fi b H H')(e1:b 104=false)(e2:b 15=false)(e3:b 102=false)(e4:b 2=false):Kq L m qs st H':=
 ⟨s.get hf rfl e1 B.tk,s.get hf o.tl e2 B.tl,s.get hf o.dl e2 B.dl,B.ql,fun i q hq=>s.get hf rfl e3 (B.ts i q hq),fun q hq=>⟨(B.qe q hq).1,s.get hf (B.qe q hq).1 e4 (B.qe q hq).2⟩,B.qn,fun i hi=>cZ.none s (by refine(?_:¬b 102=true);refine e3.symm▸?_;exact aw) (by refine(?_:100≤102);exact af _ _) (B.nt i hi)⟩
theorem Wp.nHL{k:VA→V→M α}{Q:α→Hp→Prop}(hf:eP H)(ht:tg<100)(q:∀(H':Hp) (x:VA),x.t=tg→H.next≤x.n→x.n<H'.next→cZ (fun _=>False) H H'→H'.get x=some (.list [])→Wp (k x (.ref x)) H' Q):Wp (dB tg) H fun x H'=>Wp ((lL x []).d (k x)) H' Q:=
 jX (Wp.b (Aq (dM _) (hf _ ht (az _)) (q _ ⟨tg,H.next⟩ rfl (az _) (aW _) (gP ht) au)))
noncomputable abbrev b9(t:Nat):Bool:=t==9
theorem OJ(h6:gs.length≤6)(o:L.Ok)(A:Lay L gs H)(B:Kq L 0 [] (fun _=> "fresh") H)(q:∀(H':Hp) (r:VA) (qs:List VA),Lay L gs H'→Kq L gs.length qs (fun _=> "fresh") H'→H'.get r=some (.list ((aR gs.length).map fun i=>V.ref (tA i)))→r.t=9→Q (.ref r) H'):
  Wp (fW 9 (.ref L.gl) (fun xv=>testM .And []) (fun xv=>(((((Internal.aE (.ref ff) .mn).d fun v=>(pU [v,(.int 1)])).d fun vs=>(pU ((.str "visitor")::vs))).d fun vs=>(pU ((.ref ff)::vs))).d fun vs=>(oo vs)))) H Q:=by
 unfold fW
 haveI gl:(gs.map fun g=>V.ref g.ad).length=gs.length:=aq ..
 refine Wp.b (pR (by refine(ah (c6 A.gl 0))▸?_;simp) (Wp.b (Wp.nHL A.fr (by exact af _ _) fun aG r t1 t2 t3 s1 g1=>Wp.b ?_)))
 haveI YZ:fi b9 H aG:=s1.mono fun _ f=>f.elim
 haveI A1:=A.keep o YZ rfl rfl rfl rfl rfl rfl rfl rfl rfl rfl
 haveI B1:=B.keep o A.fr YZ rfl rfl rfl rfl
 refine N5 (vs:=gs.map fun g=>V.ref g.ad) (fun j H'=>j≤gs.length∧(∃qs,Lay L gs H'∧Kq L j qs (fun _=> "fresh") H')∧H'.get r=some (.list ((aR j).map fun i=>V.ref (tA i)))) (fun j H' ⟨_,⟨qs,A',_⟩,_⟩ k=>c6 A'.gl k) (fun j v H' hv ⟨hj,⟨qs,A',B'⟩,gr⟩=>?_) (fun H' ⟨_,⟨qs,A',B'⟩,gr⟩=>?_) 10000000 0 aG (by rw [gl];exact bN ‹_› (by decide)) (dM _) ⟨dM _,⟨[],A1,B1⟩,g1⟩
 ·have TR:j<gs.length:=by refine(gl)▸?_;exact(aF.mp hv).1
  refine Wp.p ⟨rfl,?_⟩
  refine Wp.b4 (Wp.aE B'.tk (u:= .ref Af) rfl (Wp.p (Wp.p (Wp.p ?_))))
  refine Ff (by exact bN (ai ‹_› ‹_›) (by decide)) o A' B' rfl fun bh qa s2 A2 B2=>?_
  haveI Tu:=s2.get A'.fr t1 rfl gr
  haveI s3:fi b9 bh (bh.set r (.list (((aR j).map fun i=>V.ref (tA i))++ [.ref (tA j)]))):=dm (by refine t1.symm▸?_;rfl) (A2.fr.old Tu)
  refine IE _ Tu (by rw [aq,bP];exact ai (ai ‹_› ‹_›) (by decide)) TR ⟨_,A2.keep o s3 rfl rfl rfl rfl rfl rfl rfl rfl rfl rfl,B2.keep o A2.fr s3 rfl rfl rfl rfl⟩ ?_
  (refine au.symm▸?_;refine Cd.symm▸?_;refine dK.symm▸?_);rfl
 ·rw [gl] at B' gr
  exact Wp.p (q H' r qs A' B' gr t1)
theorem F8(h6:gs.length≤6)(o:L.Ok)(A:Lay L gs H)(B:Kq L gs.length qs (fun _=> "fresh") H)(tr:r.t=9)(gr:H.get r=some (.list ((aR gs.length).map fun i=>V.ref (tA i))))(q:∀H',Lay L gs H'→Kq L gs.length qs (fun i=>if i<gs.length then "ready" else "fresh") H'→Q .none H'):Wp (lS [.none,.ref r]) H Q:=by
 refine Wp.f rfl ?_
 unfold qZ
 refine Wp.b (Wp.p (Wp.cy ?_))
 haveI e0:(fun i:Nat=>if i<0 then("ready":Str) else("fresh":Str))=fun _=>("fresh":Str):=funext fun i=>if_neg (oP i)
 refine ia (vs:=(aR gs.length).map fun i=>V.ref (tA i)) (by rw [aq,bP];exact bN ‹_› (by decide)) (fun j st H'=>j≤gs.length∧Lay L gs H'∧Kq L gs.length qs (fun i=>if i<j then "ready" else "fresh") H'∧H'.get r=some (.list ((aR gs.length).map fun i=>V.ref (tA i)))∧st= []) (fun _ _ H' h j=>c6 h.2.2.2.1 j) ⟨dM _,A,e0▸B,gr,rfl⟩ (fun j v st H' hv hI=>?_) fun st H' hI=>?_
 ·refine KI (hI) fun _ A' B' Zr cj=>?_
  skip
  replace hv:=(aC)▸hv
  refine aS (ba.mp hv) fun x hx cj=>?_
  apply sb cj
  refine dh (aF.mp hx) fun h1 h2=>?_
  replace h1:=(bP)▸h1
  rw [xC] at h2
  subst h2
  have Iz:j<qs.length:=by rw [B'.ql];exact h1
  haveI hq:=bj Iz
  generalize qs[j]=qa at hq
  haveI tj:=B'.ts j qa hq
  replace tj:=(if_neg (dZ j))▸tj
  refine Wp.b2 (Wp.aE tj ng (Wp.Oi (by kernel_rfl) (c:=true) (by kernel_rfl) (Wp.cy (Wp.cT (Wp.b (Wp.bb tj (FY:=bK ((j+1:Nat):Int) (PU qa "ready")) rfl (by kernel_rfl) (Wp.b (Wp.bb au Fz (by kernel_rfl) (Wp.b (Wp.jH (Wp.cy (Wp.cF (Wp.p (Wp.p (Wp.p ?_)))))))))))))))
  have s:cZ (fun y=>y=tA j) H' ((H'.set (tA j) (.inst 137 (bK ((j+1:Nat):Int) (PU qa "ready")))).set (tA j) (.inst 137 (bK ((j+1:Nat):Int) (PU qa "ready")))):= .fO rfl (.inl (by refine(?_:100≤102);exact af _ _)) (.fO rfl (.inl (by refine(?_:100≤102);exact af _ _)) .refl)
  have s':fi XE H' _:=s.mono fun y=>bE rfl rfl
  refine ID h1 (A'.keep o s' rfl rfl rfl rfl rfl rfl rfl rfl rfl rfl) ⟨s'.get A'.fr rfl rfl B'.tk,s'.get A'.fr o.tl rfl B'.tl,s'.get A'.fr o.dl rfl B'.dl,B'.ql,fun i q' su=>?_,fun q' su=>⟨(B'.qe q' su).1,s'.get A'.fr (B'.qe q' su).1 rfl (B'.qe q' su).2⟩,B'.qn,fun i hi=>cZ.none s (fun e=>?_) (by refine(?_:100≤102);exact af _ _) (B'.nt i hi)⟩ (s'.get A'.fr tr rfl Zr) rfl
  ·by_cases TN:i=j
   ·subst TN
    replace su:=(hq)▸su
    obtain rfl:=Option.some.inj su
    rw [if_pos (aW _)]
    exact au
   ·haveI e:=B'.ts i q' su
    have:(i<j+1)↔(i<j):=by lia
    simp only [this]
    exact s.get (fun e=>TN (El.inj (congrArg VA.n e))) (A'.fr.old e) e
  ·have:=El.inj (congrArg VA.n e)
   lia
 ·refine KI (hI) fun _ A' B' _ cj=>?_
  skip
  rw [aq,bP] at B'
  exact Wp.p (q H' A' B')
theorem NX(hf:eP H)(h:H.get nZ=none)(q:∀(H':Hp) (qd:VA),cZ (fun y=>y=nZ) H H'→H'.get nZ=some (.inst 221 (eK en qd .none (.lst [])))→H'.get qd=some (.cI [])→qd.t=2→H.next≤qd.n→Q (.ref nZ) H'):
  Wp (my 221 mz ji [.int 30,en]) H Q:=by
 refine Wp.mk (x:=nZ) rfl (by decide) h fun kX s g=>?_
 refine Wp.f rfl ?_
 unfold mM
 haveI hx:100≤nZ.t:=by decide
 repeat (first|(with_reducible refine Wp.sD hx s g rfl (by kernel_rfl) ?_;clear s g;intro kX s g)|with_reducible refine Wp.b ?_|with_reducible refine Wp.lst (by kernel_rfl) ?_|with_reducible refine Wp.p ?_)
 refine Wp.YG (s.fresh hf) (by exact af _ _) fun aG qd t1 t2 t3 s1 e1=>?_
 haveI g1:=s1.old (s.fresh hf) g
 haveI n1:=ai s.next t2
 haveI HV:=s.trans (s1.mono fun _ f=>f.elim)
 haveI nq:qd≠nZ:=fun e=>by replace t1:=(e)▸t1;cases t1
 clear s g t2
 haveI sq:cZ (fun y=>y=nZ) aG aG:= .refl
 repeat (first|(with_reducible refine Wp.sD hx sq g1 rfl (by kernel_rfl) ?_;clear sq g1;intro kX sq g1)|with_reducible refine Wp.b ?_|with_reducible refine Wp.lst (by kernel_rfl) ?_|with_reducible refine Wp.p ?_)
 exact⟨rfl,q kX qd (HV.trans sq) (g1.trans (by kernel_rfl)) (sq.get nq (.inr t3) e1) t1 n1⟩
noncomputable def d0:GC:=⟨false,0,.none,1,⟨3,0⟩⟩
theorem getD_map(l:List α)(d:α)(f:α→β):l.map f=(aR l.length).map fun i=>f (l.getD i d):=by
 apply Od
 ·simp
 ·intro i h1 h2
  simp at h1
  simp [Oe,h1]
theorem getD_mem{l:List α}(h:i<l.length):l.getD i d∈l:=by
 rw [kq,bj h]
 exact List.getElem_mem h
theorem getD_get{l:List α}(h:i<l.length):l[i]? =some (l.getD i d):=by
 rw [kq,bj h];rfl
theorem getD_inj{l:List α}(hn:l.Nodup)(hi:i<l.length)(hj:j<l.length)(e:l.getD i d=l.getD j d):i=j:=by
 refine(jN hi hn).mp ?_
 rw [getD_get hi,getD_get hj,e]
def Q6(L:LP)(gs:List GC)(qs:List VA)(iJ:Int)(rm qd xr:VA):Cf:=
 ⟨gs.length,iJ,fun i=>(gs.getD i d0).wr,fun i=>(gs.getD i d0).rest,fun i=>(gs.getD i d0).pat,fun i=>(gs.getD i d0).gO,rm,L.gl,fun i=>(gs.getD i d0).ad,qd,fun i=>qs.getD i ⟨2,0⟩,L.tl,L.dl,xr,L.xw,L.xs,L.sl,.ref HU,L.r6⟩
noncomputable def Si(n:Nat):St:=⟨0,n,0,none, [], [],fun _=>⟨.ready,none,none,none,false⟩,fun _=>⟨0,0,none⟩,fun _=> [],fun _=>0,0, [], []⟩
theorem good0:Good c (Si n):=by
 refine⟨⟨fun i _=>⟨.new,rfl,rfl,rfl,rfl,rfl,rfl⟩,fun i _=>rfl,fun _ b=>rfl,fun _=>⟨rfl,by simp [Si],fun i hi=>(by exact aj (by cases hi))⟩,fun i hi=>(by exact aj (by cases hi)),fun k _ i hi=>(by exact aj (by cases hi)),fun i hi=>(by exact aj (by cases hi))⟩,⟨fun k _=> .inl rfl,fun k _ i hi=>(by exact aj (by cases hi))⟩,rfl⟩
theorem mu0(h6:c.n≤6):mu c (Si n)≤36:=by
 haveI h:∀l:List Nat,(l.map fun i=>pm ((Si n).tp i) ((Si n).gs i)).sum=6*l.length:=fun l=>by
  induction l with
  |nil=>rfl
  |cons a l ih=>rw [bw,ri,ih,r8];refine(?_:6+_=_);exact Nat.add_comm _ _
 unfold mu
 rw [h,bP]
 exact Nat.mul_le_mul_left _ ‹_›
theorem WR(o:L.Ok)(h6:gs.length≤6)(hm:iJ=0∨iJ=1∨iJ=2)(A:Lay L gs H)(B:Kq L gs.length qs (fun i=>if i<gs.length then "ready" else "fresh") H)(s:cZ (fun y=>y=nZ∨y=ff) H H')
  (k1:H'.get ff=some (.inst 544 (pP ⟨.ref HU,.iC 0 [L.xw,L.xs],L.tl,gs.length,0,L.lo,.iC 1 [xr]⟩)))
  (k2:H'.get nZ=some (.inst 221 (eK (if iJ=2 then .lst [.str "wait",.str "come"] else .lst [.str "read",.str "write"]) qd .none (.lst [])))) (k3:H'.get qd=some (.cI [])) (t3:qd.t=2) (n3:H.next≤qd.n)
  (k4:H'.get rm=some (.aU [(.iW,.ref ff),(.gX,.ref nZ),(.fY,.int iJ),(.ip,.ref L.gl),(.line,.ref ln),(.within,.ref wi),(.fX,.bool true)])) (t4:rm.t=3) (n4:H.next≤rm.n)
  (k5:H'.get ln=some (.list [])) (t5:ln.t=12) (k6:H'.get wi=some (.list [])) (t6:wi.t=13) (k7:H'.get xr=some (.cell (.ref rm))) (t7:xr.t=8):Inv (Q6 L gs qs iJ rm qd xr) (Si gs.length) H':=by
 haveI nx:∀{y:VA},y.t≠103→y.t≠104→¬(y=nZ∨y=ff):=fun h1 h2 h=>h.elim (fun e=>h1 (by(refine e.symm▸?_;with_reducible rfl))) fun e=>h2 (by(refine e.symm▸?_;with_reducible rfl))
 haveI get:∀{y:VA} {ob:ib} {t:Nat},y.t=t→t≠103→t≠104→H.get y=some ob→H'.get y=some ob:=fun e h1 h2 h=>s.get (nx (by refine e.symm▸?_;exact h1) (by refine e.symm▸?_;exact h2)) (A.fr.old h) h
 haveI no:∀{y:VA} {t:Nat},y.t=t→100≤t→t≠103→t≠104→H.get y=none→H'.get y=none:=fun e h0 h1 h2 h=>cZ.none s (nx (by refine e.symm▸?_;exact h1) (by refine e.symm▸?_;exact h2)) (by refine e.symm▸?_;exact h0) h
 haveI old:∀{y:VA} {ob:ib},y.t<100→H.get y=some ob→y.n<H.next:=fun h e=>(A.fr.old e).elim (fun x=>absurd h (cg.mpr x)) id
 haveI Ql:∀i,i<gs.length→_:=fun i hi=>A.gs.ob _ (getD_mem (d:=d0) hi)
 haveI UA:∀i,i<gs.length→(qs.getD i ⟨2,0⟩).t=2∧H.get (qs.getD i ⟨2,0⟩)=some (.aU []):=fun i hi=>B.qe _ (getD_mem (by refine B.ql.symm▸?_;exact hi))
 haveI XS:(gs.map (·.ad)).length=gs.length:=aq ..
 haveI XO:∀i,i<gs.length→(gs.map (·.ad)).getD i d0.ad=(gs.getD i d0).ad:=fun i hi=>by
  (refine(ah (kq))▸?_;refine(ah (kq))▸?_;refine(ah (aC))▸?_;refine(ah (bj hi))▸?_);rfl
 haveI ok:(Q6 L gs qs iJ rm qd xr).Ok:={
  n6:=h6,rm:=t4,gl:=o.gl,ga:=fun i hi=>(Ql i hi).1,
  gr:=fun i hi e=>by
   haveI h:=old (by refine(ah ((Ql i hi).1))▸?_;exact af _ _) (Ql i hi).2.1
   haveI e:(gs.getD i d0).ad=rm:=e
   rw [e] at h;lia
  gi:=fun i hi j hj e=>getD_inj (d:=d0.ad) A.gs.nd (by refine XS.symm▸?_;exact hi) (by refine XS.symm▸?_;exact hj) (by(refine(ah (XO i hi))▸?_;refine(ah (XO j hj))▸?_);exact e)
  qd:=t3
  qa:=fun i hi=>⟨(UA i hi).1,fun e=>by
   haveI h:=old (by refine(ah ((UA i hi).1))▸?_;exact af _ _) (UA i hi).2
   haveI e:qs.getD i ⟨2,0⟩=qd:=e
   rw [e] at h;lia⟩
  qi:=fun i hi j hj e=>getD_inj B.qn (by refine B.ql.symm▸?_;exact hi) (by refine B.ql.symm▸?_;exact hj) e
  tl:=o.tl,dl:=o.dl,xr:=t7,xw:=o.xw,xs:=o.xs,xx:=o.xx,sl:=o.sl,r6:=o.r6,wl:=o.wl
  pat:=fun i hi=>(Ql i hi).2.2.1,rest:=fun i hi=>(Ql i hi).2.2.2.1,gO:=fun i hi=>(Ql i hi).2.2.2.2,iJ:=hm}
 exact {
  fr:=s.fresh A.fr
  st:=⟨get (t:=106) rfl (by decide) (by decide) A.li,get o.tl (by decide) (by decide) B.tl,by refine(ah (show(aR (Q6 L gs qs iJ rm qd xr).n).map (fun i=>V.ref ((Q6 L gs qs iJ rm qd xr).ga i))=gs.map fun g=>V.ref g.ad from(getD_map gs d0 fun g=>V.ref g.ad).symm))▸?_;exact get o.gl (by decide) (by decide) A.gl,k7,get o.xw (by decide) (by decide) A.xw,get o.xs (by decide) (by decide) A.xs⟩
  tk:=⟨0,L.lo,k1,o.lo,get o.lo (by decide) (by decide) A.lo⟩
  ck:=get (t:=105) rfl (by decide) (by decide) A.ck
  th:=⟨.lst [],k2,.inl rfl⟩
  rm:=⟨ln,wi,k4,t5,t6,k5,k6⟩
  gu:=fun i hi=>get (Ql i hi).1 (by decide) (by decide) (Ql i hi).2.1
  ts:=fun i hi=>by
   haveI e:=B.ts i _ (getD_get (d:=(⟨2,0⟩:VA)) (by refine B.ql.symm▸?_;exact hi))
   rw [if_pos (show i<gs.length from hi)] at e
   exact get (t:=102) rfl (by decide) (by decide) e
  qe:=fun i hi=>get (UA i hi).1 (by decide) (by decide) (UA i hi).2
  qr:=⟨[],k3,ej,ej,fun p hp=>(by exact aj (by cases hp)),fun k hk=>absurd rfl hk⟩
  ca:=fun k _ i hi=>(by exact aj (by cases hi))
  cn:=fun m _=>no (t:=101) rfl (by decide) (by decide) (by decide) (A.nc m)
  sl:=⟨[],get o.sl (by decide) (by decide) A.sl,rfl⟩
  ce:=fun x hx=>(by exact aj (by cases hx))
  kl:=fun x hx=>(by exact aj (by cases hx))
  ok:=ok
  c0:=⟨fun k=>⟨ej,fun i hi=>(by exact aj (by cases hi))⟩,⟨ej,fun i hi=>(by exact aj (by cases hi))⟩,⟨ej,fun i hi=>(by exact aj (by cases hi))⟩,dM _⟩}
end
section
variable {H:Hp}{i:Nat}
theorem Wp.sh(hf:eP H)(q:∀(H':Hp) (x:VA),x.t=8→H.next≤x.n→x.n<H'.next→cZ (fun _=>False) H H'→H'.get x=some (.cell v)→Q x H'):Wp (r0 v) H Q:=
 HP (hf _ (by refine(?_:8<100);exact af _ _) (az _)) (q _ ⟨8,H.next⟩ rfl (az _) (aW _) (gP (by exact af _ _)) au)
noncomputable def F4(H:Hp):Prop:=∀y:VA,100≤y.t→H.get y=none
theorem F4.keep(h:F4 H)(s:cZ X H H')(hx:∀y,X y→y.t<100):F4 H':=fun y hy=>cZ.none s (fun x=>absurd hy (Nat.not_le.mpr (hx y x))) hy (h y hy)
theorem RM{ss:List Int}(hl:ss.length≤63)(hf:eP H)(hb:F4 H):Wp (L8 [.lst (ss.map V.int)]) H fun v _=>v= .bool true:=by
 haveI no:∀{y:VA},(fun _=>False) y→y.t<100:=fun h=>h.elim
 refine Wp.f rfl ?_
 unfold Qx
 refine Wp.b (Wp.nL hf (by exact af _ _) (by kernel_rfl) fun aG x tx x1 x2 s1 g1=>?_)
 haveI f1:=s1.fresh hf
 refine Wp.b (q9 (n:=3) (a:=0) (by decide) (by exact ai ‹_› (by decide)) (by exact dM _) g1 (f1.old g1) fun iJ bh Z8 s2 g2=>?_)
 haveI f2:=s2.fresh f1
 refine Wp.b (Wp.nL f2 (by exact af _ _) (by kernel_rfl) fun dg y ty y1 y2 s3 g3=>?_)
 haveI f3:=s3.fresh f2
 haveI g2:=s3.old f2 g2
 haveI b3:F4 dg:=((hb.keep s1 fun _=>no).keep s2 fun y e=>by(refine e.symm▸?_;refine tx.symm▸?_);exact af _ _).keep s3 fun _=>no
 refine Wp.b2 (q9 (n:=4) (a:=1) (by decide) (by exact ai ‹_› (by decide)) (by exact sZ _) g2 (f3.old g2) fun v1 iZ hv1 s4 g4=>?_)
 haveI f4:=s4.fresh f3
 haveI SK:y≠x:=fun e=>by(replace ty:=(e)▸ty;replace ty:=(tx)▸ty);exact aj (by cases ty)
 haveI g3:=s4.get SK (f3.old g3) g3
 haveI b4:F4 iZ:=b3.keep s4 fun y e=>by(refine e.symm▸?_;refine tx.symm▸?_);exact af _ _
 refine ie (.int (3+v1)) iZ rfl (Wp.cy ?_)
 refine(ah (show(3+(v1:Int))=((3+v1:Nat):Int) by rfl))▸?_
 refine NA (n:=3+v1) (by lia) (fun j st H'=>j≤3+v1∧st= []∧eP H'∧F4 H'∧∃gs:List GC,gs.length=j∧H'.get x=some (.list [.int (((2+4*j:Nat):Int)-1)])∧H'.get y=some (.list (gs.map fun g=>V.ref g.ad))∧Oz gs H') ⟨dM _,rfl,f4,b4, [],rfl,g4,g3,⟨fun g hg=>(by exact aj (by cases hg)),ej⟩⟩ (fun j st H' hj hI=>?_) fun st gZ hI=>?_
 ·obtain⟨_,rfl,f',b',gs,Yc,gx,gy,hg⟩:=hI
  refine(?_:Wp (Iw (.lst (ss.map V.int)) (.ref x) (.ref y)) H' _)
  refine My (by exact ai ‹_› (by decide)) (by lia) tx ty f' gx gy hg (by lia) fun g iw s Zs Zt V5=>⟨hj,rfl,s.fresh f',b'.keep s fun z e=>(by rcases e with e|e<;>(refine e.symm▸?_;lia)),gs++ [g],by(refine ij.symm▸?_;refine Yc.symm▸?_);rfl,?_,Zt,V5⟩
  refine(ah (show 2+4*(j+1)=2+4*j+4 by rfl))▸?_;exact Zs
 obtain⟨_,rfl,f5,b5,gs,Yc,gx,gy,hg⟩:=hI
 haveI Sm:∀{Q:V→Hp→Prop},(∀W:List Int,W≠ []→W.length≤1000→Q (.lst (W.map V.int)) gZ)→Wp (mL .Or [(((fc (.ref x) (.int 0)).d fun a=>(j4 .Add a (.int 1))).d fun k=>(Gv (.lst (ss.map V.int)) k)),(df [(.int 0)])]) gZ Q:=fun {Q} q=>by
  refine Wp.b3 (Wp.J4 gx (u:= .int (((2+4*(3+v1):Nat):Int)-1)) rfl ⟨.int ((((2+4*(3+v1):Nat):Int)-1)+1),gZ,rfl,?_⟩)
  refine(ah (show(((2+4*(3+v1):Nat):Int)-1)+1=((2+4*(3+v1):Nat):Int) by lia))▸?_
  refine ie (.lst ((ss.drop (2+4*(3+v1))).map V.int)) gZ ?_ ?_
  ·refine(?_:(if(ss.map V.int).length≤4000000∧0≤((2+4*(3+v1):Nat):Int) then some (V.lst ((ss.map V.int).drop ((2+4*(3+v1):Nat):Int).toNat),gZ) else none)=_)
   rw [if_pos ⟨by rw [aq];exact ai ‹_› (by decide),by exact pV _⟩,jZ,List.map_drop]
  ·haveI dl:(ss.drop (2+4*(3+v1))).length≤63:=by rw [List.length_drop];exact ai (Nat.sub_le _ _) ‹_›
   refine Wp.b ⟨!((ss.drop (2+4*(3+v1))).map V.int).isEmpty,gZ,?_,?_⟩
   ·refine(?_:(if((ss.drop (2+4*(3+v1))).map V.int).length≤4000000 then some (!((ss.drop (2+4*(3+v1))).map V.int).isEmpty,gZ) else none)=_)
    rw [if_pos (by rw [aq];exact ai ‹_› (by decide))]
   ·induction hd:ss.drop (2+4*(3+v1)) with
    |nil=>exact Wp.lst (by kernel_rfl) (q [0] (by simp) (by simp))
    |cons a l=>replace dl:=(hd)▸dl;exact Wp.p (q (a::l) (by simp) (by exact aT ‹_› (by decide)))
 refine Wp.b (Sm fun W hW ZI=>?_)
 refine Wp.b (Wp.nL f5 (by exact af _ _) (by kernel_rfl) fun zx sl t6 n6 m6 s6 g6=>?_)
 haveI f6:=s6.fresh f5
 refine Wp.b (Wp.sh f6 fun sL xs t7 n7 m7 s7 g7=>FQ ?_)
 haveI f7:=s7.fresh f6
 refine Wp.b (Wp.sh f7 fun F7 xw t8 n8 m8 s8 g8=>FQ ?_)
 have f8:=s8.fresh f7
 have Y3:=(s6.trans s7).trans s8
 have b8:F4 F7:=b5.keep Y3 fun _=>no
 haveI xx:xw≠xs:=fun e=>by replace n8:=(e)▸n8;lia
 refine Wp.b2 (Wp.b ?_)
 refine K7 (b8 _ (by decide)) fun Vp s9 g9=>Wp.p ?_
 have f9:=s9.fresh f8
 refine Jl f9 (s9.none (by decide) (by decide) (b8 _ (by decide))) (s9.none (by decide) (by decide) (b8 _ (by decide))) (s9.none (by decide) (by decide) (b8 _ (by decide))) fun HA tl dl lo sA kA Zg lA tlA Zj loA ttl tdl tlo tne=>?_
 haveI fA:=sA.fresh f9
 have sX:cZ (fun z=>z=HU∨z=ff∨z=sV∨z=Af) gZ HA:=(Y3.mono fun _ f=>f.elim).trans ((s9.mono fun _=> .inl).trans (sA.mono fun _=> .inr))
 haveI nX:∀{z:VA},z.t<100→¬(z=HU∨z=ff∨z=sV∨z=Af):=fun h e=>by rcases e with e|e|e|e<;>(replace h:=(e)▸h;exact absurd h (by decide))
 have SP:cZ (fun z=>z=HU∨z=ff∨z=sV∨z=Af) F7 HA:=(s9.mono fun _=> .inl).trans (sA.mono fun _=> .inr)
 have LO:LP.Ok ⟨y,xs,xw,sl,tl,dl,lo,W⟩:=⟨ty,t7,t8,xx,t6,ttl,tdl,tne,tlo,hW,ZI⟩
 haveI XM:=s8.old f7 (s7.old f6 g6)
 haveI XN:=s8.old f7 g7
 haveI A:Lay ⟨y,xs,xw,sl,tl,dl,lo,W⟩ gs HA:=⟨fA,sX.get (nX (by rw [ty];exact af _ _)) (f5.old gy) gy,⟨fun g h=>⟨(hg.ob g h).1,sX.get (nX (by rw [(hg.ob g h).1];exact af _ _)) (f5.old (hg.ob g h).2.1) (hg.ob g h).2.1,(hg.ob g h).2.2⟩,hg.nd⟩,
  SP.get (nX (by rw [t7];exact af _ _)) (f8.old XN) XN,SP.get (nX (by rw [t8];exact af _ _)) (f8.old g8) g8,SP.get (nX (by rw [t6];exact af _ _)) (f8.old XM) XM,lA,Zg,sA.get (by decide) (.inl (by decide)) g9,loA,
  fun m=>SP.none (fun e=>by rcases e with e|e|e|e<;>(have:=congrArg VA.t e;exact aj (by cases this))) (by refine(?_:100≤101);exact eJ _) (b8 _ (by refine(?_:100≤101);exact eJ _)),SP.none (by decide) (by decide) (b8 _ (by decide))⟩
 haveI B:Kq ⟨y,xs,xw,sl,tl,dl,lo,W⟩ 0 [] (fun _=> "fresh") HA:=⟨kA,tlA,Zj,rfl,fun i q h=>(by simp at h),fun q h=>(by exact aj (by cases h)),ej,fun i _=>SP.none (fun e=>by rcases e with e|e|e|e<;>(have:=congrArg VA.t e;exact aj (by cases this))) (by refine(?_:100≤102);exact af _ _) (b8 _ (by refine(?_:100≤102);exact af _ _))⟩
 have h6:gs.length≤6:=by lia
 refine Wp.b (OJ h6 LO A B fun HB r qs A1 B1 gr tr=>Wp.b2 (F8 h6 LO A1 B1 tr gr fun HC A2 B2=>Wp.p ?_))
 haveI f2:=A2.fr
 haveI ZT:∀{Q:V→Hp→Prop},Q (if(iJ:Int)=2 then .lst [.str "wait",.str "come"] else .lst [.str "read",.str "write"]) HC→Wp ((aX .Eq (.int iJ) (.int 2)).d fun c=>bif c then(df [(.str "wait"),(.str "come")]) else(df [(.str "read"),(.str "write")])) HC Q:=fun {Q} q=>by
  refine Wp.b (Wp.JO ?_)
  by_cases h2:(iJ:Int)=2
  ·replace q:=(if_pos h2)▸q
   rw [show((iJ:Int)==2)=true from by rw [h2];rfl]
   exact Wp.lst (by kernel_rfl) q
  ·replace q:=(if_neg h2)▸q
   rw [show((iJ:Int)==2)=false from by simpa using h2]
   exact Wp.lst (by kernel_rfl) q
 refine Wp.b4 (ZT (Wp.p (Wp.p ?_)))
 refine NX f2 A2.F0 fun HD qd sD kD gD jC nqd=>?_
 have fD:=sD.fresh f2
 refine Wp.b2 (Wp.ps (Wp.p (Wp.ps (Wp.p (Wp.ps (Wp.p (Wp.ps (Wp.p (Wp.ps ?_)))))))))
 refine Wp.nL fD (by exact af _ _) (by kernel_rfl) fun HE ln Xm nln mln sE gE=>Wp.ps ?_
 have fE:=sE.fresh fD
 refine Wp.nL fE (by exact af _ _) (by kernel_rfl) fun HF wi Xq nwi mwi sF gF=>Wp.p0 ?_
 have fF:=sF.fresh fE
 refine Wp.nH fF (by exact af _ _) fun HG rm Vl nrm mrm sG gG=>Wp.b ?_
 have fG:=sG.fresh fF
 refine Wp.b0 gG (FY:= [(.iW,.ref ff),(.gX,.ref nZ),(.fY,.int iJ),(.ip,.ref y),(.line,.ref ln),(.within,.ref wi),(.fX,.bool true)]) rfl (by kernel_rfl) ?_
 haveI sH:cZ (fun z=>z=rm) HG (HG.set rm (.aU [(.iW,.ref ff),(.gX,.ref nZ),(.fY,.int iJ),(.ip,.ref y),(.line,.ref ln),(.within,.ref wi),(.fX,.bool true)])):=dm rfl (fG.old gG)
 haveI gH:(HG.set rm (.aU [(.iW,.ref ff),(.gX,.ref nZ),(.fY,.int iJ),(.ip,.ref y),(.line,.ref ln),(.within,.ref wi),(.fX,.bool true)])).get rm=_:=au
 generalize (HG.set rm (.aU [(.iW,.ref ff),(.gX,.ref nZ),(.fY,.int iJ),(.ip,.ref y),(.line,.ref ln),(.within,.ref wi),(.fX,.bool true)]))=HH at sH gH
 have fH:=sH.fresh fG
 refine Wp.b (Wp.sh fH fun HI xr Y6 nxr mxr sI gI=>FQ ?_)
 haveI fI:=sI.fresh fH
 have sDF:=(sE.trans sF).trans sG
 have Uw:∀{z:VA},z.t≠3→z≠rm:=fun h e=>h (by rw [e];exact Vl)
 have Xj:cZ (fun z=>z=rm) HD HI:=((sDF.mono fun _ f=>f.elim).trans sH).trans (sI.mono fun _ f=>f.elim)
 have PN:cZ (fun _=>False) HD HI:=⟨Xj.next,fun z _ ho=>Xj.keep z (fun e=>by
  rcases ho with h|h
  ·(replace h:=(e)▸h;replace h:=(Vl)▸h);lia
  ·replace h:=(e)▸h
   have:=sE.next;have:=sF.next;lia) ho,Xj.fresh⟩
 haveI kA2:HD.get ff=_:=sD.get (by decide) (.inl (by decide)) B2.tk
 haveI kI:=PN.old fD kA2
 refine Wp.b (Wp.sA (by decide) kI (FY:=pP ⟨.ref HU,.iC 0 [xw,xs],tl,gs.length,0,lo,.iC 1 [xr]⟩) rfl (by kernel_rfl) fun HJ sJ gJ=>?_)
 haveI nJ:∀{z:VA},z.t≠104→¬(z=ff):=fun h e=>h (by rw [e])
 haveI sT:cZ (fun z=>z=nZ∨z=ff) HC HJ:=(sD.mono fun _=> .inl).trans ((PN.mono fun _ f=>f.elim).trans (sJ.mono fun _=> .inr))
 haveI I0:Inv (Q6 ⟨y,xs,xw,sl,tl,dl,lo,W⟩ gs qs iJ rm qd xr) (Si gs.length) HJ:=by
  haveI e1:=PN.old fD kD
  haveI e2:=PN.old fD gD
  haveI e3:=sI.old fH (sH.get (Uw (by rw [Xm];decide)) (fG.old (sG.old fF (sF.old fE gE))) (sG.old fF (sF.old fE gE)))
  haveI e4:=sI.old fH (sH.get (Uw (by rw [Xq];decide)) (fG.old (sG.old fF gF)) (sG.old fF gF))
  haveI e5:=sI.old fH gH
  refine WR LO h6 (by lia) A2 B2 sT gJ (sJ.get (nJ (by decide)) (.inl (by decide)) e1) (sJ.get (nJ (by rw [jC];decide)) (fI.old e2) e2) jC nqd (sJ.get (nJ (by rw [Vl];decide)) (fI.old e5) e5) Vl ?_ (sJ.get (nJ (by rw [Xm];decide)) (fI.old e3) e3) Xm (sJ.get (nJ (by rw [Xq];decide)) (fI.old e4) e4) Xq (sJ.get (nJ (by rw [Y6];decide)) (fI.old gI) gI) Y6
  have:=sD.next;have:=sE.next;have:=sF.next;lia
 refine(?_:Wp (IM (.ref ff) (.ref nZ) xr) HJ _)
 exact Sd (c:=Q6 ..) good0 I0 rfl (by have:=mu0 (c:=Q6 ⟨y,xs,xw,sl,tl,dl,lo,W⟩ gs qs iJ rm qd xr) h6 (n:=gs.length);refine(?_:0+_≤100);lia) fun _=>rfl
end
theorem items_int(h:WShape.hasItems ([]:WRecords) xs .int=true):∃is:List Int,xs=is.map WData.int:=by
 induction xs with
 |nil=>exact⟨[],rfl⟩
 |cons d xs ih=>
  have h:(WShape.has [] d .int&&WShape.hasItems [] xs .int)=true:=h
  rw [cV] at h
  refine dh (ih h.2) fun is cj=>?_
  subst cj
  replace h:=h.1
  cases d<;>first|exact⟨_::is,rfl⟩|exact ft h
theorem I9{is:List Int}:∀{vs:List Value} {as:List Addr},ReadsAllW ([]:WRecords) cl h vs (is.map WData.int) as→dq g S (is.map V.int) vs:=by
 induction is with
 |nil=>intro vs as h;cases h;exact .nil
 |cons i is ih=>
  intro vs as h
  cases h with
  |cons a r=>
   cases a with
   |int _ t=>exact .cons (.int i t) (ih r)
theorem RK(K:(hd.aO P).In h)(hg:h.Ns mainGlobals mg):mg "law"=some (.ref 671):=by
 have MO:=Nk P
 refine Th (MO.at_) fun c d n sl hl=>?_
 refine KL (hg) fun o es ep e1 e2 _ e3=>?_
 rw [K _ _ hl] at e1
 cases e1
 cases e2
 rw [←e3]
 unfold nsFind findBy
 rw [List.find?_toArray,Gz MO.once (j:=109) (e:=⟨_,.str "law" _,.ref 671⟩) rfl (by simp [Value.isStr])]
 rfl
def O1(w:World)(h:Heap)(os:OsState):Gl:=⟨hd.rr.prog,w,hd.aO w.params,h,fun k=>if k=0 then ON else if k=1 then OP else OR, [q0,q1,q2],os⟩
theorem kW{p:Addr×Addr×Pos×Str→Prop}(h0:p q0)(h1:p q1)(h2:p q2):∀q∈ [q0,q1,q2],p q:=fun q hq=>by
 simp only [bF,jf,or_false] at hq
 rcases hq with rfl|rfl|rfl<;>assumption
theorem VL{h:Heap}{os:OsState}(G:Ground hd.vw loose [] XP w iS mg mb h)(K:(hd.aO w.params).In h)(T:∀P∈([634,668]:List Addr),h.get? P=some (tabObj #[])):wt (O1 w h os) w.params:=by
 have t6:h.get? 634=some (tabObj #[]):=T _ (by simp)
 have t7:h.get? 668=some (tabObj #[]):=T _ (by simp)
 refine⟨⟨K,G.T.nolimit,⟨mb,G.T.b,G.T.builtins⟩,kW (by decide) (by decide) (by decide),fun q hq o e=>?_,?_⟩,rfl,⟨⟨mg,G.T.g,fun q hq=>?_⟩,?_,?_⟩,rfl,rfl,rfl,by simp [O1],by simp [O1],by simp [O1]⟩
 ·have n6:(hd.aO w.params).lookup 634=none:=by kernel_rfl
  have n7:(hd.aO w.params).lookup 668=none:=by kernel_rfl
  revert e
  show(hd.aO w.params).lookup q.2.1≠some o
  refine kW (p:=fun q=>(hd.aO w.params).lookup q.2.1≠some o) ?_ ?_ ?_ q hq
  ·show(hd.aO w.params).lookup 668≠_;rw [n7];simp
  ·show(hd.aO w.params).lookup 668≠_;rw [n7];simp
  ·show(hd.aO w.params).lookup 634≠_;rw [n6];simp
 ·exact bN (show sysModules≤634 by decide) (bk t6)
 ·refine Rc (G.T.bmain) fun bm ob h1 h2 h3 h4 h5 h6=>?_
  have nt:∀{P:Addr},h.get? P=some (tabObj #[])→bm≠P:=fun hP e=>by
   rw [e,hP] at h3;cases h3;cases h4
  refine⟨bm,ob,h1,h2,fun e=>?_,?_,h3,h4,h5,h6⟩
  ·refine Gw (G.T.g) fun o es ep e1 e2 _=>?_
   rw [e,e1] at h3;cases h3;rw [h6] at e2;cases e2
  ·exact kW (p:=fun q=>bm≠q.2.1) (nt t7) (nt t7) (nt t6) q hq
 ·refine kW ⟨codeHd_of_K K (by kernel_rfl),kW (by decide) (by decide) (by decide)⟩ ⟨codeHd_of_K K (by kernel_rfl),kW (by decide) (by decide) (by decide)⟩ ⟨codeHd_of_K K (by kernel_rfl),kW (by decide) (by decide) (by decide)⟩
 ·have d:(hd.po (hd.F0 (hd.fB 109) 6)).line≠(hd.po (hd.F0 (hd.fB 109) 13)).line:=by decide+kernel
  refine kW (kW (fun _ _ _=>rfl) (fun _ h _=>absurd h d) (fun h _ _=>absurd h (by decide))) (kW (fun _ h _=>absurd h.symm d) (fun _ _ _=>rfl) (fun h _ _=>absurd h (by decide))) (kW (fun h _ _=>absurd h (by decide)) (fun h _ _=>absurd h (by decide)) (fun _ _ _=>rfl))
theorem Nx(h:hd.rr.claim.pre args=true):∃is:List Int,args= [.list (is.map .int)]∧is.length≤63:=by
 obtain⟨h1,h2⟩:=pre_splitW h
 refine sN (hasAllW_cons (e:= .list .int) (es:= []) h1) fun d r cj h3 h4=>?_
 subst cj
 obtain rfl:=hasAllW_nil h4
 refine aS (hasW_list h3) fun xs cj h5=>?_
 subst cj
 refine dh (items_int h5) fun is cj=>?_
 subst cj
 refine⟨is,rfl,?_⟩
 have e:hd.rr.pre=WTm.and (.not (.lt (.lit (.int 63)) (.len (.arg 0)))) (.lit (.bool true)):=rfl
 rw [e] at h2
 unfold WTm.holds at h2
 simp [WTm.value,W.less?] at h2
 have e2:Num.less? (WData.int 63) (WData.int is.length)=some (decide ((63:Int)<is.length)):=rfl
 rw [e2] at h2
 by_cases hn:(63:Int)<is.length
 ·rw [decide_eq_true hn] at h2;cases h2
 ·omega
theorem Lf:hd.rr.claim.post xs (.bool true) ys=true:=by
 show(WShape.has [] (.bool true) .bool&&WTm.holds [] (.eq .res (.lit (.bool true))) _)=true
 kernel_rfl
noncomputable def UB(h:Heap):Rp:=⟨⟨fun _=>none,fun _=>0,0⟩,fun _=>0,fun _=>0,h⟩
theorem Am:¬(UB h).kz x:=fun d=>d rfl
theorem rs0(e:g.fb=s.heap)(ho:s.os=g.os)(hg:s.gens= #[])(ht:∀q∈g.tabs,s.heap.get? q.2.1=some (tabObj #[])):RS g (UB s.heap) s:=
 ⟨rfl,⟨fun x o h=>(by cases h),fun x y hx=>(Am hx).elim,fun x hx=>(Am hx).elim,fun x hx=>(Am hx).elim⟩,fun a o h _=>e▸h,fun q hq=>⟨#[],ht q hq,.nil,fun x t h=>(by simp at h),fun cv h=>(by cases h)⟩,hg,ho,fun q hq=>by rw [e];exact bk (ht q hq),by rw [e];exact az _⟩
theorem walk:WalkO hd.vw hd.lo (XL hd.vw []) hd.hk.says hd.rr hd.dl [] fun f vs=>PySem.call f vs:=by
 intro w iS bJ mg mb G Y a o pm cd doc dV kV ho Qo KU hdf JV TM args vals as Wv Z4 WB Ys Z7
 refine aS (Nx Wv) fun is cj Zx=>?_
 subst cj
 have K:(hd.aO w.params).In bJ.heap:=Y.1
 have T:∀P∈([634,668]:List Addr),bJ.heap.get? P=some (tabObj #[]):=Y.2
 have JV:mg "law"=some (.ref a):=JV
 rw [RK K G.T.g] at JV
 obtain rfl:671=a:=by cases JV;rfl
 have A:=VL (os:=bJ.os) G K T
 have tb:∀q∈(O1 w bJ.heap bJ.os).tabs,bJ.heap.get? q.2.1=some (tabObj #[]):=kW (p:=fun q=>bJ.heap.get? q.2.1=some (tabObj #[])) (T _ (by simp)) (T _ (by simp)) (T _ (by simp))
 have R:RS (O1 w bJ.heap bJ.os) (UB bJ.heap) bJ:=rs0 rfl rfl TM tb
 obtain⟨l,rfl,hv⟩:∃l,vals= [l]∧bu (O1 w bJ.heap bJ.os) (UB bJ.heap) (.lst (is.map V.int)) l:=by
  cases WB with
  |cons h1 h2=>
   cases h2
   refine⟨_,rfl,?_⟩
   cases h1 with
   |list e1 e2 e3 e4=>exact .lst e1 (fun⟨x,hx,_⟩=>Am hx) e2 e3 (I9 e4)
 refine eY (RM (ss:=is) (H:=(UB bJ.heap).H) Zx (fun _ _ _=>rfl) (fun _ _=>rfl)) fun v H' hm cj=>?_
 subst cj
 refine wpAny_mono ((Q9 A).run (A:=callerA) ⟨by decide,by decide,rfl⟩ R (.cons hv .nil) hm _) (fun r s' ⟨S',R',E',e,hr⟩=>?_) fun _ _ x=>x
 cases hr
 have tab:∀q∈(O1 w bJ.heap bJ.os).tabs,∀ob,bJ.heap.get? q.2.1=some ob→asItWas bJ.heap s'.heap q.2.1 ob∧∃o',s'.heap.get? q.2.1=some o':=fun q hq ob hb=>by
  rw [tb q hq] at hb
  cases hb
  refine aS (R'.tabs q hq) fun ps e1 _=>?_
  rw [←R'.heap] at e1
  obtain⟨o,vs,_,_,_,_,_,_,_,c1,c2,c3,c4,_⟩:=(A.D.code q hq).1
  exact⟨.inr (.inl ⟨⟨_,o,vs,c1,c2,c3,c4⟩,rfl, #[],ps,rfl,by rw [e1];simp [tabObj]⟩),_,e1⟩
 have all:∀b ob,bJ.heap.get? b=some ob→asItWas bJ.heap s'.heap b ob∧∃o',s'.heap.get? b=some o':=fun b ob hb=>by
  by_cases h:∃q∈(O1 w bJ.heap bJ.os).tabs,b=q.2.1
  ·refine aS (h) fun q hq cj=>?_
   subst cj
   exact tab q hq ob hb
  ·have:=R'.old b ob hb fun q hq e=>h ⟨q,hq,e⟩
   rw [←R'.heap] at this
   exact⟨.inl this,_,this⟩
 exact⟨.inl ⟨.bool true,.bool true, [],rfl,fun cls=>rfl,.bool true,Lf,fun _=>⟨ej,fun _ hm=>(nomatch hm)⟩⟩,⟨fun b ob hb=>(all b ob hb).1,fun b ob hb=>(all b ob hb).2⟩,R'.os,.of_eq R'.gens⟩
end Mine.Internal
end
theorem PySem.Challenge.cw_sz0012_01_holds : PySem.Challenge.rw_sz0012_01.Holds :=
 Mine.Internal.hd Mine.Internal.walk
