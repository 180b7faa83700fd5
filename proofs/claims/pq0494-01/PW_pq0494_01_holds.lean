import PyProof.Rows.All
import KE.KUnpack
import KE.KLam
import KE.KDictList
import KE.KSliceW
import KE.KNestM
import KE.KTryMore
import PySem.Challenge.RW_pq0494_01
set_option Elab.async false
set_option linter.all false
set_option tactic.hygienic false
set_option backward.match.sparseCases false
set_option genInjectivity false
set_option genSizeOf false
set_option bootstrap.genMatcherCode false
set_option maxRecDepth 1000000
set_option maxHeartbeats 1000000
open Option renaming some→aa,none→af,map→jH,bind_some→xQ,bind→yk,isNone_iff_eq_none→Bc
open Bool renaming true→ah,false→ak,and_eq_true→bJ,rec→ee,false_ne_true→nR,false_eq_true→Bm,and_false→EW,not_eq_true'→Lh
open PySem renaming Value→ay,wpAny→aC,Shared→aE,wpAny_bind→aF,Addr→aG,Expr→aS,wpAny_pure→bu,World→bX,Scope→cu,Heap→cy,Around→cR,builtinsNs→eK,wpAny_mono→eL,mainGlobals→eY,codeAny→fj,Stmt→fR,wpAny_holding→gk,sizeLine_eq→gp,Flow→gA,Operator→jI,OsState→jL,wpAny_standAt→jZ,wpAny_field→j9,CmpOp→lO,Thread→mF,DictEntry→nc,NameKind→pU,wpAny_newObj_type→qI,wpAny_seqItems→rS,wpAny_of_eq→tO,wpAny_loadPart_at→vC,getMethod_builtin→xP,wpAny_call_entry→xR,wpAny_execs_nil→xV,wpAny_loadPart→xY,wpAny_rule→yr,wpAny_call→yt,FuncData→yG,Program→yO,wpAny_callSpecial?_slot→Bd,wpAny_execs_cons→Br,wpAny_setField→Bu,Comprehension→Bx,wpAny_attempt→By,codeAny_mono→BJ,codeAny_of_tree→EU,call_meetsIn→E4,call_meets→Ft,codeAny_call_function→KZ,codeAny_call_builtin→K7,wpAny_isSubtype_exc→Lb,wpAny_truthy_bool→Lg,wpAny_isInstance→Lm,wpAny_updateSeq→Lq,isSubtype_stop→Lv,wpAny_listPart→Lw,wpAny_bindName→Ly,wpAny_handled→LC,wpAny_mkText→LW,wpAny_typeOf→LX,codeAny_func→LY,wpAny_throw→Mf,wpAny_letGo→Mg,wpAny_alloc→Mh,wpAny_noted→Mi,wpAny_list_append_plain→Wv,aRefKeyMayBeTheName_at→Wy,wpAny_pyIter_tupleiter→WC,ExceptHandler→WU,wpAt_of_wpAny→WW,slot_listiter_next→W6,wpAny_pyIter_tuple→Xa,wpAny_sequenceKey→Xf,args_list_setitem→Xg,wpAny_Return_some→Xh
open Nat renaming beq→aH,le_of_eq→aQ,add_le_add→bK,eq_of_beq_eq_true→cG,le_refl→cN,le_antisymm→cO,blt→cZ,lt_of_lt_of_le→dm,le_trans→eo,ble→fB,le_of_ble_eq_true→fH,le_succ→iA,ne_of_lt→iJ,mul_le_mul_left→jb,sub_add_cancel→m6,lt_succ_of_lt→m7,lt_of_le_of_lt→pG,rec→qV,zero_add→rT,sub_le→rV,le_of_not_lt→tG,div_add_mod→tL,add_le_add_left→vA,succ_ne_zero→vD,lt_irrefl→vE,ne_of_gt→vH,div→vQ,mod_lt→yo,ble_eq_true_of_le→Bf,le_add_right→Bp,add_comm→BE,succ_pos→BG,zero_le→BO,add_le_add_right→Ez,add_right_comm→ED,le_of_lt_succ→EH,lt_succ_self→EL,min_eq_left→ET,ne_of_beq_eq_false→KR,eq_zero_of_le_zero→KS,le_succ_of_le→Ld,succ_le_succ→Lj,min_eq_right→Ll,min_le_left→Lp,add_zero→LU,mul_comm→LV,pow_succ→LZ,sub_self→L2,succ_add_eq_add_succ→Wt,le_of_succ_le_succ→Wx,lt_of_add_right_lt→WD,sub_eq_zero_of_le→WG,lt_of_sub_eq_succ→WH,sub_le_of_le_add→WR,lt_of_le_of_ne→WY,sub_sub_right→Xc,le_of_succ_le→Xi
open Option.some renaming inj→aX
open PySem.W renaming Frag→ef,boot_heap→iV,SharedT→jK,Looks→qc,boot_drawn→yp,boot_toks→yv,any_some→yF,looks_findIn→BH,look_both→BW,looks_clsIn→Ff,callWith_of→Fg,ghost_top→FN
open PySem.Value renaming ref→eB,none→kg,isStrOf→qK,int→yw,builtin→BA,isInt→Fe,isStrOf_shape→K8,isInt_shape→Le
open List renaming length_append→fX,not_mem_nil→gQ,map_cons→iw,mem_cons→iy,length_singleton→jC,length_cons→lH,append_nil→lJ,lookup_cons→l8,replicate→nU,getElem?_eq_getElem→qF,map_append→qJ,flatMap_cons→rP,reverse_cons→rQ,append_assoc→tF,filter_cons→tH,cons_append→tK,nodup_cons→tM,length_map→tN,length_replicate→xJ,take_append_drop→xK,length_reverse→xN,zip_cons_cons→xO,length_drop→xS,nil_append→xW,nodup_nil→xZ,drop→yx,length_take→Bq,forIn_cons→Bt,forIn_nil→Bv,drop_zero→Bw,take→BY,getD_eq_getElem?_getD→Er,drop_eq_getElem_cons→Et,drop_of_length_le→Ew,getElem?_eq_none→Ex,all_eq_true→EM,any_cons→EX,drop_nil→E0,lookup→Fi,rec→Ga,filterMap_cons→La,contains_cons→Lc,isEmpty_iff→Lk,zip_append→Lr,replicate_append_replicate→Wl,getElem?_append_right→Wr,take_of_length_le→WE,mem_of_mem_drop→WM,mem_of_mem_take→WO,replicate_succ→WV,flatten_cons→Xd
open Int renaming ofNat→gU,negSucc→mu,add_assoc→ya,add_comm→yd,le_of_lt→ye,le_refl→yj,lt_of_lt_of_le→Bl,le_trans→BF,natCast_nonneg→EB,ofNat_nonneg→EO,le_add_one→EV,lt_trans→E2,natAbs→Fx,fmod→Gb,lt_of_add_one_le→K5,natAbs_lt_natAbs_of_nonneg_of_lt→Wi,le_add_of_nonneg_right→Wo,add_le_add_right→WK,add_left_cancel→WT,toNat_natCast→Xe
open PySem.Str renaming ofString→jc
open PySem.Heap renaming get?_push_of_some→jo,SameBut→pN,get?_update_self→tD,get?_update_ne→tE,get?_push_size→Bk,lt_size→E3,size_push→Lz
open False renaming elim→lM
open PySem.Value.ref renaming inj→nV
open PyProof.Rows renaming isTrue_plain→pO,IntsAre→vP,isTrue_or→BX,Assign_Tuple_swapped→WQ
open PySem.Obj renaming mapFields→qL,isFreed_of_fields→Bj,data_mapFields→Bo,cls_mapFields→EJ,mapSeq→Fv,putName→Me
open Nat.succ renaming inj→qO
open PySem.Heap.SameBut renaming update→vB
open PySem.NameKind renaming free→vF,cell→EZ
open Array renaming toList_append→xM,getElem?_toList→Bh,getElem?_eq_getElem→Es,length_toList→EA,getElem?_setIfInBounds_ne→KL,getElem?_eq_none→KU,toList_push→Lf,eq_empty_of_size_eq_zero→Wm,find?_toList→WZ
open ForInStep renaming yield→xU
open PySem.PyData renaming keyHash→xX
open PySem.Code renaming builtin→yf,quiet_builtin→Xb
open Eq renaming symm→yN
open PySem.Builtin.List renaming listItems→Be,listTooLong→Eu,listSubscript?→KN,listExtendWith→Wn,listAllItems→Ws
open Prod.mk renaming injEq→BB
open PySem.W.Fast renaming te17119622794617984870→Ep,te8326940854005059898→Wq
open PySem.F renaming slot_dict_get→Ey,excBase_ValueError→EE,plainAttrs_list→KO,plainAttrs_dict→KP,slot_list_pop→KW,slot_dict_pop→KY,slot_tuple_iterator_next→Wj,slot_range_iterator_next→Wk,slot_list_extend→Wu,args_dict_pop_3→Ww,entry_list_pop→Wz,entry_dict_get→WA,entry_dict_pop→WB,slot_int_rmul→WI,type_dict_get→WJ
open List.cons renaming injEq→ER
open PySem.W.Looks renaming of_pure→EY,here→Mu
open PySem.Calls renaming spliced_cons→E5
open PUnit renaming unit→Fw
open PySem.CmpOp renaming Lt→Gd
open PySem.EntryCells renaming newEntry→K9
open PySem.Flow renaming next→Ls
open Int.ofNat renaming inj→LA
open PySem.Operator renaming Add→L4
open PySem.SeqAt.RcAt renaming lists_lengths→W0
namespace Mine
@[elab_as_elim] theorem rwx {α : Sort _} {a b : α} {motive : α → Prop} (h : a = b) (p : motive b) : motive a := h ▸ p
noncomputable abbrev aI:Nat:=1718379891
noncomputable abbrev aJ:Nat:=431316168567
noncomputable abbrev bf:Nat:=495756604521
noncomputable abbrev bM:Nat:=6775138
noncomputable abbrev bR:Nat:=125779768604014
noncomputable abbrev cj:Nat:=435761734006
noncomputable abbrev cD:Nat:=1936159329
noncomputable abbrev cP:Nat:=500153084262
noncomputable abbrev cQ:Nat:=111516500389741
noncomputable abbrev cW:Nat:=1701667182
noncomputable abbrev cY:Nat:=1701077357
noncomputable abbrev dF:Nat:=431349919590
noncomputable abbrev dZ:Nat:=6872339552563453791
noncomputable abbrev d8:Nat:=28832903390783852
noncomputable abbrev eg:Nat:=491328010095
noncomputable abbrev eG:Nat:=435459026032
noncomputable abbrev eH:Nat:=1953718636
noncomputable abbrev eZ:Nat:=1835365481
noncomputable abbrev fh:Nat:=6647407
noncomputable abbrev fL:Nat:=110425311047777
noncomputable abbrev fN:Nat:=31078196194145634
noncomputable abbrev fO:Nat:=128026154263411
noncomputable abbrev fY:Nat:=1818845542
noncomputable abbrev fZ:Nat:=1701995880
noncomputable abbrev f9:Nat:=7368560
noncomputable abbrev gm:Nat:=500069396323
noncomputable abbrev gz:Nat:=1702521203
noncomputable abbrev iu:Nat:=128017497219440
noncomputable abbrev iz:Nat:=465558725996
noncomputable abbrev iI:Nat:=1871941859643389994350
noncomputable abbrev iQ:Nat:=8319100054835000169
noncomputable abbrev iR:Nat:=110425311311973
noncomputable abbrev iS:Nat:=1937334647
noncomputable abbrev iT:Nat:=1937207154
noncomputable abbrev iU:Nat:=1953722221
noncomputable abbrev jq:Nat:=491328402799
noncomputable abbrev jr:Nat:=1954047348
noncomputable abbrev jD:Nat:=444234033268
noncomputable abbrev jE:Nat:=431130765409
noncomputable abbrev jF:Nat:=435527246188
noncomputable abbrev jG:Nat:=2037277037
noncomputable abbrev jJ:Nat:=7628135
noncomputable abbrev jX:Nat:=7234303152486642785
noncomputable abbrev jY:Nat:=28542640894207341
noncomputable abbrev j0:Nat:=500068344937
noncomputable abbrev kM:Nat:=138296318119088462283104620
noncomputable abbrev kN:Nat:=121382124876390
noncomputable abbrev lG:Nat:=28539428140315248
noncomputable abbrev lI:Nat:=111559249781102
noncomputable abbrev lK:Nat:=1851879539
noncomputable abbrev lN:Nat:=7496038
noncomputable abbrev lZ:Nat:=9147272410931114544366386772339
noncomputable abbrev l6:Nat:=32481181571506542
noncomputable abbrev mh:Nat:=126875152509286
noncomputable abbrev mj:Nat:=474450195047
noncomputable abbrev mC:Nat:=7239535
noncomputable abbrev mY:Nat:=549830959941341093781868
noncomputable abbrev mZ:Nat:=7381223263745174627
noncomputable abbrev m5:Nat:=8747223464598795113
noncomputable abbrev m8:Nat:=121424956188018
noncomputable abbrev m9:Nat:=1684104562
noncomputable abbrev nh:Nat:=7827314
noncomputable abbrev nS:Nat:=110425579418209
noncomputable abbrev nW:Nat:=431199119725
noncomputable abbrev nX:Nat:=1953719666
noncomputable abbrev nY:Nat:=1735289202
noncomputable abbrev nZ:Nat:=7632239
noncomputable abbrev pB:Nat:=8749578195052691464392557883235
noncomputable abbrev pC:Nat:=549830959941341094110574
noncomputable abbrev pD:Nat:=2129765318785216966499
noncomputable abbrev pF:Nat:=7959953321915476327
noncomputable abbrev pH:Nat:=32480051978331501
noncomputable abbrev pI:Nat:=31084746137298294
noncomputable abbrev pJ:Nat:=32488787840822375
noncomputable abbrev pK:Nat:=121459248690025
noncomputable abbrev pL:Nat:=448630121828
noncomputable abbrev pM:Nat:=474147938676
noncomputable abbrev pP:Nat:=1852141679
noncomputable abbrev pQ:Nat:=1953523051
noncomputable abbrev pR:Nat:=1852399981
noncomputable abbrev qD:Nat:=2341618494188298654855184299029353
noncomputable abbrev qE:Nat:=34170838085766954570666959213
noncomputable abbrev qG:Nat:=7381223203415155058
noncomputable abbrev qH:Nat:=28832903390523250
noncomputable abbrev qM:Nat:=435728769379
noncomputable abbrev qN:Nat:=491496043109
noncomputable abbrev qP:Nat:=1885693284
noncomputable abbrev qQ:Nat:=1953460082
noncomputable abbrev rR:Nat:=110425377629538
noncomputable abbrev rU:Nat:=1937007457
noncomputable abbrev rZ:Nat:=7954807
noncomputable abbrev tR:Nat:=1953656691
noncomputable abbrev tS:Nat:=1701079415
noncomputable abbrev tX:Nat:=7627617
noncomputable abbrev vz:Nat:=7308901700766297972
noncomputable abbrev vG:Nat:=495774233972
noncomputable abbrev vJ:Nat:=1701998445
noncomputable abbrev xT:Nat:=133459521534306
noncomputable abbrev yc:Nat:=491327616111
noncomputable abbrev ym:Nat:=1701736295
noncomputable abbrev EF:Nat:=31073781017441129
noncomputable abbrev EG:Nat:=29113321805538670
noncomputable abbrev EP:Nat:=128008974200947
noncomputable abbrev Fq:Nat:=1819043171
noncomputable abbrev Gs:Nat:=6649188
noncomputable abbrev KQ:Nat:=2073341692586834620275
noncomputable abbrev Ln:Nat:=126935164810351
noncomputable abbrev Lo:Nat:=110425477965171
noncomputable abbrev LN:Nat:=521325933153
noncomputable abbrev LP:Nat:=491328597876
noncomputable abbrev LQ:Nat:=500136110195
noncomputable abbrev LR:Nat:=444234429047
noncomputable abbrev Mt:Nat:=1701606770
noncomputable abbrev NX:Nat:=7824750
noncomputable abbrev NY:Nat:=7628141
end Mine
local macro_rules | `(tactic| show $t:term) => `(tactic| refine (?_ : $t))
local macro_rules | `(tactic| rw [$e:term]) => `(tactic| ((first | refine Mine.rwx $e ?_ | refine Mine.rwx ($e ..) ?_ | rewrite [$e:term]); try (with_reducible rfl)))
local macro_rules | `(tactic| rw [← $e:term]) => `(tactic| ((first | refine Mine.rwx (Eq.symm $e) ?_ | refine Mine.rwx (Eq.symm ($e ..)) ?_ | rewrite [← $e]); try (with_reducible rfl)))
local macro_rules | `(tactic| rw [$e:term, $es,*]) => `(tactic| ((first | refine Mine.rwx $e ?_ | refine Mine.rwx ($e ..) ?_ | rewrite [$e:term]); rw [$es,*]))
local macro_rules | `(tactic| rw [← $e:term, $es,*]) => `(tactic| ((first | refine Mine.rwx (Eq.symm $e) ?_ | refine Mine.rwx (Eq.symm ($e ..)) ?_ | rewrite [← $e]); rw [$es,*]))
section
namespace Mine
end Mine
namespace Mine
inductive Lx where
 |v (i:Nat)
 |n (k:Nat)
 |a (x y:Lx)
 |m (k:Nat) (x:Lx)
noncomputable def Lx.ev(l:List Nat)(e:Lx):Nat:=@Lx.rec (λ_=>Nat) (λi=>l.getD i 0) (λk=>k) (λ_ _ p q=>p+q) (λk _ p=>k*p) e
noncomputable def Lx.cf(i:Nat)(e:Lx):Nat:=@Lx.rec (λ_=>Nat) (λj=>@ee (λ_=>Nat) 0 1 (aH i (j+1))) (λk=>@ee (λ_=>Nat) 0 k (aH i 0)) (λ_ _ p q=>p+q) (λk _ p=>k*p) e
noncomputable def Lx.sm(l:List Nat)(e:Lx):Nat->Nat:=λn=>@qV (λ_=>Nat) (e.cf 0) (λi p=>p+e.cf (i+1)*l.getD i 0) n
noncomputable def Lx.ck(c d:Lx):Nat->Bool:=λn=>@qV (λ_=>Bool) (fB (c.cf 0) (d.cf 0)) (λi p=>and p (fB (c.cf (i+1)) (d.cf (i+1)))) n
theorem Lx.ajE(l:List Nat)(x y:Lx)(n:Nat):(Lx.a x y).sm l n=x.sm l n+y.sm l n:=by
 induction n with
 |zero=>rfl
 |succ n ih=>show(Lx.a x y).sm l n+(x.cf (n+1)+y.cf (n+1))*l.getD n 0=(x.sm l n+x.cf (n+1)*l.getD n 0)+(y.sm l n+y.cf (n+1)*l.getD n 0);rw[ih,Nat.add_mul,Nat.add_add_add_comm]
theorem Lx.akG(l:List Nat)(k:Nat)(x:Lx)(n:Nat):(Lx.m k x).sm l n=k*x.sm l n:=by
 induction n with
 |zero=>rfl
 |succ n ih=>show(Lx.m k x).sm l n+(k*x.cf (n+1))*l.getD n 0=k*(x.sm l n+x.cf (n+1)*l.getD n 0);rw[ih,Nat.mul_add,Nat.mul_assoc]
theorem Lx.ajm(l:List Nat)(k n:Nat):(Lx.n k).sm l n=k:=by
 induction n with
 |zero=>rfl
 |succ n ih=>show(Lx.n k).sm l n+0*l.getD n 0=k;rw[ih,Nat.zero_mul,LU]
theorem Lx.ajR(l:List Nat)(i n:Nat):(Lx.v i).sm l n=@ee (λ_=>Nat) 0 (l.getD i 0) (cZ i n):=by
 induction n with
 |zero=>cases i<;>rfl
 |succ n ih=>
  show(Lx.v i).sm l n+(@ee (λ_=>Nat) 0 1 (aH n i))*l.getD n 0=@ee (λ_=>Nat) 0 (l.getD i 0) (cZ i (n+1));rw[ih];cases hb:aH n i with
  |true=>have e:=cG hb;subst e;rw[show cZ n n=ak from Bool.eq_false_iff.mpr λh=>vE n (fH h),show cZ n (n+1)=ah from Bf (cN _)];show 0+1*l.getD n 0=l.getD n 0;rw[rT,Nat.one_mul]
  |false=>
   have e:cZ i (n+1)=cZ i n:=by
    refine Bool.eq_iff_iff.mpr ⟨λh=>?_,λh=>?_⟩
    ·refine Bf (WY (Wx (fH h)) λq=>?_);rw[q,show aH n n=ah from Nat.beq_refl n]at hb;cases hb
    ·exact Bf (Ld (fH h))
   rw[e];show _+0*l.getD n 0=_;rw[Nat.zero_mul,LU]
theorem Lx.RH(l:List Nat)(e:Lx):e.ev l=e.sm l l.length:=by
 induction e with
 |v i=>
  rw[Lx.ajR];show l.getD i 0=_;cases h:cZ i l.length with
  |true=>rfl
  |false=>
   have:l.length<=i:=tG λq=>by rw[show cZ i l.length=ah from Bf q]at h;cases h
   show l.getD i 0=0;rw[Er,Ex this];rfl
 |n k=>rw[Lx.ajm];rfl
 |a x y ih1 ih2=>rw[Lx.ajE,<-ih1,<-ih2];rfl
 |m k x ih=>rw[Lx.akG,<-ih];rfl
theorem Lx.agA(l:List Nat)(c d:Lx)(n:Nat)(h:c.ck d n=ah):c.sm l n<=d.sm l n:=by
 induction n with
 |zero=>exact fH h
 |succ n ih=>have h:(c.ck d n&&fB (c.cf (n+1)) (d.cf (n+1)))=ah:=h;rw[bJ]at h;exact bK (ih h.1) (Nat.mul_le_mul_right _ (fH h.2))
theorem Ju(l:List Nat)(c d:Lx)(k:c.ck d l.length=ah):c.ev l<=d.ev l:=by rw[c.RH,d.RH];exact Lx.agA l c d _ k
theorem qC(l:List Nat)(c d a b:Lx)(k:(c.a b).ck (d.a a) l.length=ah)(h:a.ev l<=b.ev l):c.ev l<=d.ev l:=
 Nat.le_of_add_le_add_right (eo (Ju l (c.a b) (d.a a) k:c.ev l+b.ev l<=d.ev l+a.ev l) (vA h _))
theorem tC(l:List Nat)(c d a b a2 b2:Lx)(k:(c.a (b.a b2)).ck (d.a (a.a a2)) l.length=ah)(h:a.ev l<=b.ev l)(h2:a2.ev l<=b2.ev l):c.ev l<=d.ev l:=qC l c d (a.a a2) (b.a b2) k (bK h h2)
theorem JE(l:List Nat)(c d a b a2 b2 a3 b3:Lx)(k:(c.a (b.a (b2.a b3))).ck (d.a (a.a (a2.a a3))) l.length=ah)(h:a.ev l<=b.ev l)(h2:a2.ev l<=b2.ev l)(h3:a3.ev l<=b3.ev l):c.ev l<=d.ev l:=tC l c d a b (a2.a a3) (b2.a b3) k h (bK h2 h3)
theorem Vi(l:List Nat)(c d a b a2 b2 a3 b3 a4 b4:Lx)(k:(c.a (b.a (b2.a (b3.a b4)))).ck (d.a (a.a (a2.a (a3.a a4)))) l.length=ah)(h:a.ev l<=b.ev l)(h2:a2.ev l<=b2.ev l)(h3:a3.ev l<=b3.ev l)(h4:a4.ev l<=b4.ev l):c.ev l<=d.ev l:=JE l c d a b a2 b2 (a3.a a4) (b3.a b4) k h h2 (bK h3 h4)
noncomputable def Lx.D(k:Nat):Lx:=@qV (λ_=>Nat->List Lx->Lx) (λ_ st=>st.headD (.v 0)) (λ_ go k st=>@ee (λ_=>Lx)
 (go (k / 10) (@ee (λ_=>List Lx) (@ee (λ_=>List Lx) (@ee (λ_=>List Lx) (.v (k % 10)::st) (.n 1::st) (aH (k % 10) 9)) (.a (st.headD (.v 0)) (st.tail.headD (.v 0))::st.tail.tail) (aH (k % 10) 8)) (.n 0::st) (aH (k % 10) 7)))
 (st.headD (.v 0)) (aH k 0)) 25 k []
theorem UM(l:List Nat)(c d:Nat)(k:(Lx.D c).ck (Lx.D d) l.length=ah):(Lx.D c).ev l<=(Lx.D d).ev l:=Ju l _ _ k
theorem dI(l:List Nat)(c d a b:Nat)(k:((Lx.D c).a (Lx.D b)).ck ((Lx.D d).a (Lx.D a)) l.length=ah)(h:(Lx.D a).ev l<=(Lx.D b).ev l):(Lx.D c).ev l<=(Lx.D d).ev l:=qC l _ _ _ _ k h
theorem fu(l:List Nat)(c d a b a2 b2:Nat)(k:((Lx.D c).a ((Lx.D b).a (Lx.D b2))).ck ((Lx.D d).a ((Lx.D a).a (Lx.D a2))) l.length=ah)(h:(Lx.D a).ev l<=(Lx.D b).ev l)(h2:(Lx.D a2).ev l<=(Lx.D b2).ev l):(Lx.D c).ev l<=(Lx.D d).ev l:=tC l _ _ _ _ _ _ k h h2
theorem VK(l:List Nat)(c d a b a2 b2 a3 b3:Nat)(k:((Lx.D c).a ((Lx.D b).a ((Lx.D b2).a (Lx.D b3)))).ck ((Lx.D d).a ((Lx.D a).a ((Lx.D a2).a (Lx.D a3)))) l.length=ah)(h:(Lx.D a).ev l<=(Lx.D b).ev l)(h2:(Lx.D a2).ev l<=(Lx.D b2).ev l)(h3:(Lx.D a3).ev l<=(Lx.D b3).ev l):(Lx.D c).ev l<=(Lx.D d).ev l:=JE l _ _ _ _ _ _ _ _ k h h2 h3
theorem ly4(l:List Nat)(c d a b a2 b2 a3 b3 a4 b4:Nat)(k:((Lx.D c).a ((Lx.D b).a ((Lx.D b2).a ((Lx.D b3).a (Lx.D b4))))).ck ((Lx.D d).a ((Lx.D a).a ((Lx.D a2).a ((Lx.D a3).a (Lx.D a4))))) l.length=ah)(h:(Lx.D a).ev l<=(Lx.D b).ev l)(h2:(Lx.D a2).ev l<=(Lx.D b2).ev l)(h3:(Lx.D a3).ev l<=(Lx.D b3).ev l)(h4:(Lx.D a4).ev l<=(Lx.D b4).ev l):(Lx.D c).ev l<=(Lx.D d).ev l:=Vi l _ _ _ _ _ _ _ _ _ _ k h h2 h3 h4
noncomputable def Lx.E(k:List Nat):Lx:=(k.foldr (λd st=>@ee (λ_=>List Lx) (@ee (λ_=>List Lx) (@ee (λ_=>List Lx) (.n (d- 10)::st) (.v d::st) (cZ d 7))
 (.m (@Lx.rec (λ_=>Nat) (λ_=>0) (λk=>k) (λ_ _ _ _=>0) (λ_ _ _=>0) (st.headD (.v 0))) (st.tail.headD (.v 0))::st.tail.tail) (aH d 7)) (.a (st.headD (.v 0)) (st.tail.headD (.v 0))::st.tail.tail) (aH d 9)) []).headD (.v 0)
theorem gh(l:List Nat)(c d:List Nat)(k:(Lx.E c).ck (Lx.E d) l.length=ah):(Lx.E c).ev l<=(Lx.E d).ev l:=Ju l _ _ k
theorem bV(l:List Nat)(c d a b:List Nat)(k:((Lx.E c).a (Lx.E b)).ck ((Lx.E d).a (Lx.E a)) l.length=ah)(h:(Lx.E a).ev l<=(Lx.E b).ev l):(Lx.E c).ev l<=(Lx.E d).ev l:=qC l _ _ _ _ k h
theorem fV(l:List Nat)(c d a b a2 b2:List Nat)(k:((Lx.E c).a ((Lx.E b).a (Lx.E b2))).ck ((Lx.E d).a ((Lx.E a).a (Lx.E a2))) l.length=ah)(h:(Lx.E a).ev l<=(Lx.E b).ev l)(h2:(Lx.E a2).ev l<=(Lx.E b2).ev l):(Lx.E c).ev l<=(Lx.E d).ev l:=tC l _ _ _ _ _ _ k h h2
theorem uT(l:List Nat)(c d a b a2 b2 a3 b3:List Nat)(k:((Lx.E c).a ((Lx.E b).a ((Lx.E b2).a (Lx.E b3)))).ck ((Lx.E d).a ((Lx.E a).a ((Lx.E a2).a (Lx.E a3)))) l.length=ah)(h:(Lx.E a).ev l<=(Lx.E b).ev l)(h2:(Lx.E a2).ev l<=(Lx.E b2).ev l)(h3:(Lx.E a3).ev l<=(Lx.E b3).ev l):(Lx.E c).ev l<=(Lx.E d).ev l:=JE l _ _ _ _ _ _ _ _ k h h2 h3
theorem lz(l:List Nat)(c d a b a2 b2 a3 b3 a4 b4:List Nat)(k:((Lx.E c).a ((Lx.E b).a ((Lx.E b2).a ((Lx.E b3).a (Lx.E b4))))).ck ((Lx.E d).a ((Lx.E a).a ((Lx.E a2).a ((Lx.E a3).a (Lx.E a4))))) l.length=ah)(h:(Lx.E a).ev l<=(Lx.E b).ev l)(h2:(Lx.E a2).ev l<=(Lx.E b2).ev l)(h3:(Lx.E a3).ev l<=(Lx.E b3).ev l)(h4:(Lx.E a4).ev l<=(Lx.E b4).ev l):(Lx.E c).ev l<=(Lx.E d).ev l:=Vi l _ _ _ _ _ _ _ _ _ _ k h h2 h3 h4
end Mine
end
section
namespace Mine
theorem cU{P0:Prop}{P1:Prop}{Z:Prop}{M:Prop}(h:P0/\P1/\Z)(k:P0->P1->Z->M):M:=by obtain⟨b0,b1,b2⟩:=h;exact k b0 b1 b2
theorem Dz{P0:Prop}{P1:Prop}{P2:Prop}{Z:Prop}{M:Prop}(h:P0/\P1/\P2/\Z)(k:P0->P1->P2->Z->M):M:=by obtain⟨b0,b1,b2,b3⟩:=h;exact k b0 b1 b2 b3
theorem Rh{P0:Prop}{P1:Prop}{P2:Prop}{P3:Prop}{Z:Prop}{M:Prop}(h:P0/\P1/\P2/\P3/\Z)(k:P0->P1->P2->P3->Z->M):M:=by obtain⟨b0,b1,b2,b3,b4⟩:=h;exact k b0 b1 b2 b3 b4
theorem GX{P0:Prop}{P1:Prop}{P2:Prop}{P3:Prop}{P4:Prop}{Z:Prop}{M:Prop}(h:P0/\P1/\P2/\P3/\P4/\Z)(k:P0->P1->P2->P3->P4->Z->M):M:=by obtain⟨b0,b1,b2,b3,b4,b5⟩:=h;exact k b0 b1 b2 b3 b4 b5
theorem Gm{A4:Type}{P0:Prop}{P1:Prop}{P2:Prop}{P3:Prop}{P5:A4->Prop}{P6:A4->Prop}{Z:A4->Prop}{M:Prop}(h:P0/\P1/\P2/\P3/\∃a4:A4,P5 a4/\P6 a4/\Z a4)(k:P0->P1->P2->P3->∀a4:A4,P5 a4->P6 a4->Z a4->M):M:=by obtain⟨b0,b1,b2,b3,b4,b5,b6,b7⟩:=h;exact k b0 b1 b2 b3 b4 b5 b6 b7
theorem wo{A2:Type}{P0:Prop}{P1:Prop}{P3:A2->Prop}{Z:A2->Prop}{M:Prop}(h:P0/\P1/\∃a2:A2,P3 a2/\Z a2)(k:P0->P1->∀a2:A2,P3 a2->Z a2->M):M:=by obtain⟨b0,b1,b2,b3,b4⟩:=h;exact k b0 b1 b2 b3 b4
theorem iY{A1:Type}{P0:Prop}{P2:A1->Prop}{Z:A1->Prop}{M:Prop}(h:P0/\∃a1:A1,P2 a1/\Z a1)(k:P0->∀a1:A1,P2 a1->Z a1->M):M:=by obtain⟨b0,b1,b2,b3⟩:=h;exact k b0 b1 b2 b3
theorem HM{A1 A2:Type}{P0:Prop}{P3:A1->A2->Prop}{Z:A1->A2->Prop}{M:Prop}(h:P0/\∃a1:A1,∃a2:A2,P3 a1 a2/\Z a1 a2)(k:P0->∀a1:A1,∀a2:A2,P3 a1 a2->Z a1 a2->M):M:=by obtain⟨b0,b1,b2,b3,b4⟩:=h;exact k b0 b1 b2 b3 b4
theorem za{A1 A2:Type}{P0:Prop}{P3:A1->A2->Prop}{P4:A1->A2->Prop}{Z:A1->A2->Prop}{M:Prop}(h:P0/\∃a1:A1,∃a2:A2,P3 a1 a2/\P4 a1 a2/\Z a1 a2)(k:P0->∀a1:A1,∀a2:A2,P3 a1 a2->P4 a1 a2->Z a1 a2->M):M:=by obtain⟨b0,b1,b2,b3,b4,b5⟩:=h;exact k b0 b1 b2 b3 b4 b5
theorem CN{A1 A2 A3:Type}{P0:Prop}{P4:A1->A2->A3->Prop}{Z:A1->A2->A3->Prop}{M:Prop}(h:P0/\∃a1:A1,∃a2:A2,∃a3:A3,P4 a1 a2 a3/\Z a1 a2 a3)(k:P0->∀a1:A1,∀a2:A2,∀a3:A3,P4 a1 a2 a3->Z a1 a2 a3->M):M:=by obtain⟨b0,b1,b2,b3,b4,b5⟩:=h;exact k b0 b1 b2 b3 b4 b5
theorem F7{A1 A2 A3 A4 A5:Type}{P0:Prop}{P6:A1->A2->A3->A4->A5->Prop}{P7:A1->A2->A3->A4->A5->Prop}{Z:A1->A2->A3->A4->A5->Prop}{M:Prop}(h:P0/\∃a1:A1,∃a2:A2,∃a3:A3,∃a4:A4,∃a5:A5,P6 a1 a2 a3 a4 a5/\P7 a1 a2 a3 a4 a5/\Z a1 a2 a3 a4 a5)(k:P0->∀a1:A1,∀a2:A2,∀a3:A3,∀a4:A4,∀a5:A5,P6 a1 a2 a3 a4 a5->P7 a1 a2 a3 a4 a5->Z a1 a2 a3 a4 a5->M):M:=by obtain⟨b0,b1,b2,b3,b4,b5,b6,b7,b8⟩:=h;exact k b0 b1 b2 b3 b4 b5 b6 b7 b8
theorem aV{A0:Type}{P1:A0->Prop}{Z:A0->Prop}{M:Prop}(h:∃a0:A0,P1 a0/\Z a0)(k:∀a0:A0,P1 a0->Z a0->M):M:=by obtain⟨b0,b1,b2⟩:=h;exact k b0 b1 b2
theorem fS{A0:Type}{P1:A0->Prop}{P2:A0->Prop}{Z:A0->Prop}{M:Prop}(h:∃a0:A0,P1 a0/\P2 a0/\Z a0)(k:∀a0:A0,P1 a0->P2 a0->Z a0->M):M:=by obtain⟨b0,b1,b2,b3⟩:=h;exact k b0 b1 b2 b3
theorem C9{A0:Type}{P1:A0->Prop}{P2:A0->Prop}{P3:A0->Prop}{Z:A0->Prop}{M:Prop}(h:∃a0:A0,P1 a0/\P2 a0/\P3 a0/\Z a0)(k:∀a0:A0,P1 a0->P2 a0->P3 a0->Z a0->M):M:=by obtain⟨b0,b1,b2,b3,b4⟩:=h;exact k b0 b1 b2 b3 b4
theorem acv{A0:Type}{P1:A0->Prop}{P2:A0->Prop}{P3:A0->Prop}{P4:A0->Prop}{Z:A0->Prop}{M:Prop}(h:∃a0:A0,P1 a0/\P2 a0/\P3 a0/\P4 a0/\Z a0)(k:∀a0:A0,P1 a0->P2 a0->P3 a0->P4 a0->Z a0->M):M:=by obtain⟨b0,b1,b2,b3,b4,b5⟩:=h;exact k b0 b1 b2 b3 b4 b5
theorem tT{A0 A6:Type}{P1:A0->Prop}{P2:A0->Prop}{P3:A0->Prop}{P4:A0->Prop}{P5:A0->Prop}{P7:A0->A6->Prop}{P8:A0->A6->Prop}{Z:A0->A6->Prop}{M:Prop}(h:∃a0:A0,P1 a0/\P2 a0/\P3 a0/\P4 a0/\P5 a0/\∃a6:A6,P7 a0 a6/\P8 a0 a6/\Z a0 a6)(k:∀a0:A0,P1 a0->P2 a0->P3 a0->P4 a0->P5 a0->∀a6:A6,P7 a0 a6->P8 a0 a6->Z a0 a6->M):M:=by obtain⟨b0,b1,b2,b3,b4,b5,b6,b7,b8,b9⟩:=h;exact k b0 b1 b2 b3 b4 b5 b6 b7 b8 b9
theorem qk{A0 A3:Type}{P1:A0->Prop}{P2:A0->Prop}{Z:A0->A3->Prop}{M:Prop}(h:∃a0:A0,P1 a0/\P2 a0/\∃a3:A3,Z a0 a3)(k:∀a0:A0,P1 a0->P2 a0->∀a3:A3,Z a0 a3->M):M:=by obtain⟨b0,b1,b2,b3,b4⟩:=h;exact k b0 b1 b2 b3 b4
theorem zf{A0 A3:Type}{P1:A0->Prop}{P2:A0->Prop}{P4:A0->A3->Prop}{Z:A0->A3->Prop}{M:Prop}(h:∃a0:A0,P1 a0/\P2 a0/\∃a3:A3,P4 a0 a3/\Z a0 a3)(k:∀a0:A0,P1 a0->P2 a0->∀a3:A3,P4 a0 a3->Z a0 a3->M):M:=by obtain⟨b0,b1,b2,b3,b4,b5⟩:=h;exact k b0 b1 b2 b3 b4 b5
theorem GD{A0 A3 A4:Type}{P1:A0->Prop}{P2:A0->Prop}{P5:A0->A3->A4->Prop}{Z:A0->A3->A4->Prop}{M:Prop}(h:∃a0:A0,P1 a0/\P2 a0/\∃a3:A3,∃a4:A4,P5 a0 a3 a4/\Z a0 a3 a4)(k:∀a0:A0,P1 a0->P2 a0->∀a3:A3,∀a4:A4,P5 a0 a3 a4->Z a0 a3 a4->M):M:=by obtain⟨b0,b1,b2,b3,b4,b5,b6⟩:=h;exact k b0 b1 b2 b3 b4 b5 b6
theorem Mq{A0 A3 A4 A5 A6 A7:Type}{P1:A0->Prop}{P2:A0->Prop}{P8:A0->A3->A4->A5->A6->A7->Prop}{P9:A0->A3->A4->A5->A6->A7->Prop}{Z:A0->A3->A4->A5->A6->A7->Prop}{M:Prop}(h:∃a0:A0,P1 a0/\P2 a0/\∃a3:A3,∃a4:A4,∃a5:A5,∃a6:A6,∃a7:A7,P8 a0 a3 a4 a5 a6 a7/\P9 a0 a3 a4 a5 a6 a7/\Z a0 a3 a4 a5 a6 a7)(k:∀a0:A0,P1 a0->P2 a0->∀a3:A3,∀a4:A4,∀a5:A5,∀a6:A6,∀a7:A7,P8 a0 a3 a4 a5 a6 a7->P9 a0 a3 a4 a5 a6 a7->Z a0 a3 a4 a5 a6 a7->M):M:=by obtain⟨b0,b1,b2,b3,b4,b5,b6,b7,b8,b9,s8⟩:=h;exact k b0 b1 b2 b3 b4 b5 b6 b7 b8 b9 s8
theorem Df{A0 A2:Type}{P1:A0->Prop}{P3:A0->A2->Prop}{Z:A0->A2->Prop}{M:Prop}(h:∃a0:A0,P1 a0/\∃a2:A2,P3 a0 a2/\Z a0 a2)(k:∀a0:A0,P1 a0->∀a2:A2,P3 a0 a2->Z a0 a2->M):M:=by obtain⟨b0,b1,b2,b3,b4⟩:=h;exact k b0 b1 b2 b3 b4
theorem qX{A0 A2 A3:Type}{P1:A0->Prop}{P4:A0->A2->A3->Prop}{Z:A0->A2->A3->Prop}{M:Prop}(h:∃a0:A0,P1 a0/\∃a2:A2,∃a3:A3,P4 a0 a2 a3/\Z a0 a2 a3)(k:∀a0:A0,P1 a0->∀a2:A2,∀a3:A3,P4 a0 a2 a3->Z a0 a2 a3->M):M:=by obtain⟨b0,b1,b2,b3,b4,b5⟩:=h;exact k b0 b1 b2 b3 b4 b5
theorem jB{A0 A1:Type}{Z:A0->A1->Prop}{M:Prop}(h:∃a0:A0,∃a1:A1,Z a0 a1)(k:∀a0:A0,∀a1:A1,Z a0 a1->M):M:=by obtain⟨b0,b1,b2⟩:=h;exact k b0 b1 b2
theorem dB{A0 A1:Type}{P2:A0->A1->Prop}{Z:A0->A1->Prop}{M:Prop}(h:∃a0:A0,∃a1:A1,P2 a0 a1/\Z a0 a1)(k:∀a0:A0,∀a1:A1,P2 a0 a1->Z a0 a1->M):M:=by obtain⟨b0,b1,b2,b3⟩:=h;exact k b0 b1 b2 b3
theorem fE{A0 A1:Type}{P2:A0->A1->Prop}{P3:A0->A1->Prop}{Z:A0->A1->Prop}{M:Prop}(h:∃a0:A0,∃a1:A1,P2 a0 a1/\P3 a0 a1/\Z a0 a1)(k:∀a0:A0,∀a1:A1,P2 a0 a1->P3 a0 a1->Z a0 a1->M):M:=by obtain⟨b0,b1,b2,b3,b4⟩:=h;exact k b0 b1 b2 b3 b4
theorem pY{A0 A1:Type}{P2:A0->A1->Prop}{P3:A0->A1->Prop}{P4:A0->A1->Prop}{Z:A0->A1->Prop}{M:Prop}(h:∃a0:A0,∃a1:A1,P2 a0 a1/\P3 a0 a1/\P4 a0 a1/\Z a0 a1)(k:∀a0:A0,∀a1:A1,P2 a0 a1->P3 a0 a1->P4 a0 a1->Z a0 a1->M):M:=by obtain⟨b0,b1,b2,b3,b4,b5⟩:=h;exact k b0 b1 b2 b3 b4 b5
theorem GJ{A0 A1:Type}{P2:A0->A1->Prop}{P3:A0->A1->Prop}{P4:A0->A1->Prop}{P5:A0->A1->Prop}{Z:A0->A1->Prop}{M:Prop}(h:∃a0:A0,∃a1:A1,P2 a0 a1/\P3 a0 a1/\P4 a0 a1/\P5 a0 a1/\Z a0 a1)(k:∀a0:A0,∀a1:A1,P2 a0 a1->P3 a0 a1->P4 a0 a1->P5 a0 a1->Z a0 a1->M):M:=by obtain⟨b0,b1,b2,b3,b4,b5,b6⟩:=h;exact k b0 b1 b2 b3 b4 b5 b6
theorem Oq{A0 A1 A2:Type}{P3:A0->A1->A2->Prop}{P4:A0->A1->A2->Prop}{P5:A0->A1->A2->Prop}{Z:A0->A1->A2->Prop}{M:Prop}(h:∃a0:A0,∃a1:A1,∃a2:A2,P3 a0 a1 a2/\P4 a0 a1 a2/\P5 a0 a1 a2/\Z a0 a1 a2)(k:∀a0:A0,∀a1:A1,∀a2:A2,P3 a0 a1 a2->P4 a0 a1 a2->P5 a0 a1 a2->Z a0 a1 a2->M):M:=by obtain⟨b0,b1,b2,b3,b4,b5,b6⟩:=h;exact k b0 b1 b2 b3 b4 b5 b6
theorem qU{A0 A1 A2:Type}{P3:A0->A1->A2->Prop}{P4:A0->A1->A2->Prop}{P5:A0->A1->A2->Prop}{P6:A0->A1->A2->Prop}{Z:A0->A1->A2->Prop}{M:Prop}(h:∃a0:A0,∃a1:A1,∃a2:A2,P3 a0 a1 a2/\P4 a0 a1 a2/\P5 a0 a1 a2/\P6 a0 a1 a2/\Z a0 a1 a2)(k:∀a0:A0,∀a1:A1,∀a2:A2,P3 a0 a1 a2->P4 a0 a1 a2->P5 a0 a1 a2->P6 a0 a1 a2->Z a0 a1 a2->M):M:=by obtain⟨b0,b1,b2,b3,b4,b5,b6,b7⟩:=h;exact k b0 b1 b2 b3 b4 b5 b6 b7
theorem MM{A0 A1 A2:Type}{P3:A0->A1->A2->Prop}{P4:A0->A1->A2->Prop}{P5:A0->A1->A2->Prop}{P6:A0->A1->A2->Prop}{P7:A0->A1->A2->Prop}{Z:A0->A1->A2->Prop}{M:Prop}(h:∃a0:A0,∃a1:A1,∃a2:A2,P3 a0 a1 a2/\P4 a0 a1 a2/\P5 a0 a1 a2/\P6 a0 a1 a2/\P7 a0 a1 a2/\Z a0 a1 a2)(k:∀a0:A0,∀a1:A1,∀a2:A2,P3 a0 a1 a2->P4 a0 a1 a2->P5 a0 a1 a2->P6 a0 a1 a2->P7 a0 a1 a2->Z a0 a1 a2->M):M:=by obtain⟨b0,b1,b2,b3,b4,b5,b6,b7,b8⟩:=h;exact k b0 b1 b2 b3 b4 b5 b6 b7 b8
theorem Mx{A0 A1 A2:Type}{P3:A0->A1->A2->Prop}{P4:A0->A1->A2->Prop}{P5:A0->A1->A2->Prop}{P6:A0->A1->A2->Prop}{P7:A0->A1->A2->Prop}{P8:A0->A1->A2->Prop}{Z:A0->A1->A2->Prop}{M:Prop}(h:∃a0:A0,∃a1:A1,∃a2:A2,P3 a0 a1 a2/\P4 a0 a1 a2/\P5 a0 a1 a2/\P6 a0 a1 a2/\P7 a0 a1 a2/\P8 a0 a1 a2/\Z a0 a1 a2)(k:∀a0:A0,∀a1:A1,∀a2:A2,P3 a0 a1 a2->P4 a0 a1 a2->P5 a0 a1 a2->P6 a0 a1 a2->P7 a0 a1 a2->P8 a0 a1 a2->Z a0 a1 a2->M):M:=by obtain⟨b0,b1,b2,b3,b4,b5,b6,b7,b8,b9⟩:=h;exact k b0 b1 b2 b3 b4 b5 b6 b7 b8 b9
theorem yE{A0 A1 A2 A3:Type}{P4:A0->A1->A2->A3->Prop}{P5:A0->A1->A2->A3->Prop}{P6:A0->A1->A2->A3->Prop}{P7:A0->A1->A2->A3->Prop}{Z:A0->A1->A2->A3->Prop}{M:Prop}(h:∃a0:A0,∃a1:A1,∃a2:A2,∃a3:A3,P4 a0 a1 a2 a3/\P5 a0 a1 a2 a3/\P6 a0 a1 a2 a3/\P7 a0 a1 a2 a3/\Z a0 a1 a2 a3)(k:∀a0:A0,∀a1:A1,∀a2:A2,∀a3:A3,P4 a0 a1 a2 a3->P5 a0 a1 a2 a3->P6 a0 a1 a2 a3->P7 a0 a1 a2 a3->Z a0 a1 a2 a3->M):M:=by obtain⟨b0,b1,b2,b3,b4,b5,b6,b7,b8⟩:=h;exact k b0 b1 b2 b3 b4 b5 b6 b7 b8
theorem NH{A0 A1 A2 A3 A4:Type}{P5:A0->A1->A2->A3->A4->Prop}{P6:A0->A1->A2->A3->A4->Prop}{Z:A0->A1->A2->A3->A4->Prop}{M:Prop}(h:∃a0:A0,∃a1:A1,∃a2:A2,∃a3:A3,∃a4:A4,P5 a0 a1 a2 a3 a4/\P6 a0 a1 a2 a3 a4/\Z a0 a1 a2 a3 a4)(k:∀a0:A0,∀a1:A1,∀a2:A2,∀a3:A3,∀a4:A4,P5 a0 a1 a2 a3 a4->P6 a0 a1 a2 a3 a4->Z a0 a1 a2 a3 a4->M):M:=by obtain⟨b0,b1,b2,b3,b4,b5,b6,b7⟩:=h;exact k b0 b1 b2 b3 b4 b5 b6 b7
section
variable{I H γ:Type}{G:Prop}
theorem oS{P:H->Prop}{o:Option I}{f:I->H}{d:H}(h:P (o.elim d f))(k1:∀a,o=aa a->P (f a)->G)(k2:o=af->P d->G):G:=by
 cases o with
 |none=>exact k2 rfl h
 |some a=>exact k1 a rfl h
theorem oE{o:Option I}{f:I->Option γ}{r:γ}(h:o.bind f=aa r)(k:∀a,o=aa a->f a=aa r->G):G:=by
 cases o with
 |none=>exact nomatch h
 |some a=>exact k a rfl h
theorem bS{P:H->Prop}{b:Bool}{x y:H}(h:P (cond b x y))(k1:b=ah->P x->G)(k2:b=ak->P y->G):G:=by
 cases b with
 |false=>exact k2 rfl h
 |true=>exact k1 rfl h
theorem bE{b:Bool}{x:Option γ}{r:γ}(h:cond b x af=aa r)(k:b=ah->x=aa r->G):G:=by
 cases b with
 |false=>exact nomatch h
 |true=>exact k rfl h
@[elab_as_elim] theorem oM{P:H->Prop}{o:Option I}{f:I->H}{r:H}(h:o.map f=aa r)(k:∀a,o=aa a->P (f a)):P r:=by
 cases o with
 |none=>exact nomatch h
 |some a=>exact aX h▸k a rfl
@[elab_as_elim] theorem sI{P:I->Prop}{a r:I}(h:aa a=aa r)(k:P a):P r:=aX h▸k
noncomputable def l1:List I->Option I
 | []=>af
 |a::l=>match l with
  | []=>aa a
  |_::_=>af
noncomputable def l2:List I->Option (I×I)
 | []=>af
 |a::l=>(l1 l).map λb=>(a,b)
theorem OZ{l:List I}{a:I}(h:l1 l=aa a):l=[a]:=by
 cases l with
 |nil=>exact nomatch h
 |cons b l=>cases l with
  |nil=>rw[<-aX h]
  |cons _ _=>exact nomatch h
theorem Pz{l:List I}{p:I×I}(h:l2 l=aa p):l=[p.1,p.2]:=by
 cases l with
 |nil=>exact nomatch h
 |cons b l=>exact oM (P:=λp=>b::l=[p.1,p.2]) h λa e=>by rw[OZ e]
end
theorem er{I:Type}{p:I->Bool}{o:Option I}(h:o.any p=ah):∃a,o=aa a/\p a=ah:=by
 cases o with
 |none=>exact nomatch h
 |some a=>exact⟨a,rfl,h⟩
theorem aT{a b c p q r s:Nat}(h:a+p<=b+q)(k:b+r<=c+s):a+(p+r)<=c+(q+s):=fu [a,b,c,p,q,r,s] 80835 82846 803 814 815 826 rfl h k
theorem aK{a b p q t:Nat}(h:a+p<=b+q):(a+t)+p<=(b+t)+q:=dI [a,b,p,q,t] 88042 88143 802 813 rfl h
theorem aU{a t:Nat}:a+0<=(a+t)+0:=UM [a,t] 807 88017 rfl
theorem aM{a b:Nat}(h:a<=b):a+0<=b+0:=dI [a,b] 807 817 0 1 rfl h
theorem aq{a b:Nat}(h:a<b):a+1<=b+0:=dI [a,b] 809 817 809 1 rfl h
theorem aD{a b:Nat}(h:a=b):a+0<=b+0:=dI [a,b] 807 817 0 1 rfl (aQ h)
theorem ao{a b:Nat}(h:b=a):a+0<=b+0:=dI [a,b] 807 817 0 1 rfl (aQ h.symm)
theorem aR{a b p q:Nat}(h:a+p<=b+q)(c:fB (q) (p)=ah):a<=b:=fu [a,b,p,q] 0 1 802 813 3 2 rfl h (fH c)
theorem aA{a b p q:Nat}(h:a+p<=b+q)(c:fB (q+1) (p)=ah):a<b:=fu [a,b,p,q] 809 1 802 813 839 2 rfl h (fH c)
theorem aB{a b p q:Nat}(h:a+p<=b+q)(c:fB (q+1) p=ah):a≠b:=iJ (fu [a,b,p,q] 809 1 802 813 839 2 rfl h (fH c))
theorem bI{a b p q:Nat}(h:b+p<=a+q)(c:fB (q+1) p=ah):a≠b:=vH (fu [a,b,p,q] 819 0 812 803 839 2 rfl h (fH c))
theorem bD{a b x:Nat}(h:a+x<b):a+(x+1)<=b+0:=dI [a,b,x] 80829 817 88029 1 rfl h
theorem aE1{a b x:Nat}(h:a+x=b):a+x<=b+0:=dI [a,b,x] 802 817 802 1 rfl (aQ h)
theorem au{a b x:Nat}(h:b=a+x):a+x<=b+0:=dI [a,b,x] 802 817 802 1 rfl (aQ h.symm)
theorem AL{a b x p q:Nat}(h:a+p<=b+q)(c:fB (q+x) (p)=ah):a+x<=b:=fu [a,b,x,p,q] 802 1 803 814 842 3 rfl h (fH c)
theorem cX{a b x p q:Nat}(h:a+p<=b+q)(c:fB (q+x+1) (p)=ah):a+x<b:=fu [a,b,x,p,q] 88029 1 803 814 88429 3 rfl h (fH c)
theorem dX{a b y:Nat}(h:a<=b+y):a+0<=b+y:=dI [a,b,y] 807 812 0 812 rfl h
theorem aL{a b y:Nat}(h:a=b+y):a+0<=b+y:=dI [a,b,y] 807 812 0 812 rfl (aQ h)
theorem Al{a b y:Nat}(h:b+y=a):a+0<=b+y:=dI [a,b,y] 807 812 0 812 rfl (aQ h.symm)
theorem jn{a b y p q:Nat}(h:a+p<=b+q)(c:fB (q) (p+y)=ah):a<=b+y:=fu [a,b,y,p,q] 0 812 803 814 4 832 rfl h (fH c)
theorem Jo{a b y p q:Nat}(h:a+p<=b+q)(c:fB (q+1) (p+y)=ah):a<b+y:=fu [a,b,y,p,q] 809 812 803 814 849 832 rfl h (fH c)
theorem Eh{a b x y p q:Nat}(h:a+p<=b+q)(c:fB (q+x) (p+y)=ah):a+x<=b+y:=fu [a,b,x,y,p,q] 802 813 804 815 852 843 rfl h (fH c)
theorem cC{a y:Nat}(h:a<=y):a+0<=0+y:=dI [a,y] 807 871 0 1 rfl h
theorem eX{a y:Nat}(h:a<y):a+1<=0+y:=dI [a,y] 809 871 809 1 rfl h
theorem xB{a y:Nat}(h:a=y):a+0<=0+y:=dI [a,y] 807 871 0 1 rfl (aQ h)
theorem cL{a y p q:Nat}(h:a+p<=0+q)(c:fB (q) (p+y)=ah):a<=y:=fu [a,y,p,q] 0 1 802 873 3 821 rfl h (fH c)
theorem kH{a y p q:Nat}(h:a+p<=0+q)(c:fB (q+1) (p+y)=ah):a<y:=fu [a,y,p,q] 809 1 802 873 839 821 rfl h (fH c)
theorem AR{a p q y:Nat}(h:a+p<=0+q)(c:fB (q+1) (p+y)=ah):a≠y:=iJ (fu [a,p,q,y] 809 3 801 872 829 813 rfl h (fH c))
theorem JA{a p q y:Nat}(h:0+p<=a+q)(c:fB (q+y+1) p=ah):a≠y:=vH (fu [a,p,q,y] 839 0 871 802 88239 1 rfl h (fH c))
theorem UG{a x y:Nat}(h:a+x<=y):a+x<=0+y:=dI [a,x,y] 801 872 801 2 rfl h
theorem Eo{a x y:Nat}(h:a+x<y):a+(x+1)<=0+y:=dI [a,x,y] 80819 872 88019 2 rfl h
theorem qp{a x y p q:Nat}(h:a+p<=0+q)(c:fB (q+x) (p+y)=ah):a+x<=y:=fu [a,x,y,p,q] 801 2 803 874 841 832 rfl h (fH c)
theorem Ar{a x y p q:Nat}(h:a+p<=0+q)(c:fB (q+x+1) (p+y)=ah):a+x<y:=fu [a,x,y,p,q] 88019 2 803 874 88419 832 rfl h (fH c)
theorem rI{b x:Nat}(h:x<=b):0+x<=b+0:=dI [b,x] 871 807 1 0 rfl h
theorem uV{b x:Nat}(h:x<b):0+(x+1)<=b+0:=dI [b,x] 87819 807 819 0 rfl h
theorem AP{b x:Nat}(h:x=b):0+x<=b+0:=dI [b,x] 871 807 1 0 rfl (aQ h)
theorem oQ{b x:Nat}(h:b=x):0+x<=b+0:=dI [b,x] 871 807 1 0 rfl (aQ h.symm)
theorem xx{b x p q:Nat}(h:0+p<=b+q)(c:fB (q+x) (p)=ah):x<=b:=fu [b,x,p,q] 1 0 872 803 831 2 rfl h (fH c)
theorem lD{b x p q:Nat}(h:0+p<=b+q)(c:fB (q+x+1) (p)=ah):x<b:=fu [b,x,p,q] 819 0 872 803 88319 2 rfl h (fH c)
theorem xe{a b y t:Nat}(h:a<=b+(t+y)):a+0<=(b+t)+y:=dI [a,b,y,t] 807 88132 0 81832 rfl h
theorem DT{a b y t p q:Nat}(h:a+p<=(b+t)+q)(c:fB (q) (p+y)=ah):a<=b+(t+y):=fu [a,b,y,t,p,q] 0 81832 804 88135 5 842 rfl h (fH c)
theorem xd{a b x t:Nat}(h:a+(t+x)<b):(a+t)+(x+1)<=b+0:=dI [a,b,x,t] 8803829 817 8808329 1 rfl h
theorem VM{a b x t:Nat}(h:a+(t+x)=b):(a+t)+x<=b+0:=dI [a,b,x,t] 88032 817 80832 1 rfl (aQ h)
theorem aN{I:Type}{a:I}{P:Prop}(h:af=aa a):P:=nomatch h
theorem lV{I:Type}{a:I}{P:Prop}(h:aa a=af):P:=nomatch h
theorem cB{P:Prop}(h:ak=ah):P:=nomatch h
theorem Bb{P:Prop}(h:ah=ak):P:=nomatch h
universe u
theorem lU{a b:Prop}(h:¬a)(k:¬b):¬(a\/b):=λe=>e.elim h k
theorem Ko{n A B C d:Nat}(h:d<=B)(e:aH A (B+C)=ah):n+A=n+B- d+d+C:=cO (fu [n,A,B,C,d,((n+B)- d)] 801 88543 1 823 802 854 rfl (aQ (cG e)) (Nat.sub_le_iff_le_add.mp (cN ((n+B)- d)))) (fu [n,A,B,C,d,((n+B)- d)] 88543 801 823 1 854 802 rfl (aQ (cG e).symm) (aQ (m6 (dI [n,B,d] 2 801 2 1 rfl h))))
theorem Vd{n A B C d:Nat}(h:d<=B)(e:aH A (B+C)=ah):n+A=n+B- d+C+d:=cO (fu [n,A,B,C,d,((n+B)- d)] 801 88534 1 823 802 854 rfl (aQ (cG e)) (Nat.sub_le_iff_le_add.mp (cN ((n+B)- d)))) (fu [n,A,B,C,d,((n+B)- d)] 88534 801 823 1 854 802 rfl (aQ (cG e).symm) (aQ (m6 (dI [n,B,d] 2 801 2 1 rfl h))))
theorem JI{x y k B a c m:Nat}(h:x<=y+(a*k+c))(hk:k<=B)(e:aH (a*B+c) m=ah):x<=y+m:=by rw[<-cG e];exact eo h (vA (Ez (jb a hk) c) y)
theorem Js{x k B a c m R:Nat}(h:x+m<R)(hk:k<=B)(e:aH (a*B+c) m=ah):x+a*k+c<R:=by rw[<-cG e]at h;exact pG (by rw[Nat.add_assoc];exact vA (Ez (jb a hk) c) x) h
theorem ti{d B:Nat}(h:d<=B)(e:fB (B+1) 1000000000000=ah):(d:Int)<1000000000000:=Int.ofNat_lt.mpr (pG h (fH e))
theorem tn{d:Nat}:(-1000000000000:Int)<(d:Int):=Bl (by decide) (EB _)
theorem J3{v0 v1 v2:Nat}(h0:v0=v1+30+(v2+1)):v0=v1+v2+31:=cO (bV [v0,v1,v2] [0] [9,9,1,2,41] [0] [9,9,1,40,9,2,11] rfl (aQ h0)) (bV [v0,v1,v2] [9,9,1,2,41] [0] [9,9,1,40,9,2,11] [0] rfl (aQ h0.symm))
theorem VZ{v0 v1 v2 v3:Nat}(h0:v0+v1<=1000000)(h1:v0=v2)(h2:v1=v3):v2+v3<=16777216:=uT [v0,v1,v2,v3] [9,2,3] [16777226] [9,0,1] [1000010] [2] [0] [3] [1] rfl h0 (aQ h1.symm) (aQ h2.symm)
theorem zz2{v1:Nat}{v0:Int}(h0:v0<0\/(v1:Int)+1<=v0)(h1:¬v0<0):¬v0<((v1+1:Nat):Int):=h0.elim (absurd · h1) λh=>Int.not_lt.mpr h
theorem zz5{v0 v1 v2:Nat}(h0:v0<=v1)(h1:v2<=v1):v2-(v1- v0)=v0-(v1- v2):=(Xc v2 h0).trans ((congrArg (· - v1) (BE _ _)).trans (Xc v0 h1).symm)
theorem zz7{v0 v1 v2:Nat}(h0:v0<=v1)(h1:v1<=v0+v2):v1=v0+(v2-(v2-(v1- v0))):=cO (dI [v0,v1,v2,(v1- v0),(v2-(v1- v0)),(v2-(v2-(v1- v0)))] 1 805 8818432 888302854 rfl (bK (bK (Nat.sub_le_iff_le_add.mp (cN (v1- v0))) (aQ (m6 (fu [v0,v1,v2,(v1- v0)] 3 2 1 802 830 1 rfl h1 (aQ (m6 (dI [v0,v1] 0 1 0 1 rfl h0))))))) (Nat.sub_le_iff_le_add.mp (cN (v2-(v2-(v1- v0))))))) (dI [v0,v1,v2,(v1- v0),(v2-(v1- v0)),(v2-(v2-(v1- v0)))] 805 1 888302854 8818432 rfl (bK (bK (aQ (m6 (dI [v0,v1] 0 1 0 1 rfl h0))) (Nat.sub_le_iff_le_add.mp (cN (v2-(v1- v0))))) (aQ (m6 (dI [v2,(v2-(v1- v0))] 1 0 1 0 rfl (rV v2 (v1- v0)))))))
theorem Vv{v0 v1:Nat}(h0:v0+(v1+1)<=100000):v0<=1000000:=bV [v0,v1] [0] [1000010] [9,0,9,1,11] [100010] rfl h0
theorem SM{v0 v1:Nat}(h0:v0+(v1+1)<=20000):v0<20000:=bV [v0,v1] [9,0,11] [20010] [9,0,9,1,11] [20010] rfl h0
theorem SP{v0 v1:Nat}(h0:v0+(v1+1)<=40000):v0+v1<=40000:=bV [v0,v1] [9,0,1] [40010] [9,0,9,1,11] [40010] rfl h0
theorem TA{v0 v1 v2 v3:Nat}(h0:v0+8*(v1+1)+20<v2)(h1:v3<=v0+6):v3+8*v1+20<v2:=fV [v0,v1,v2,v3] [9,9,9,3,7,18,1,30,11] [2] [9,9,9,0,7,18,9,1,11,30,11] [2] [3] [9,0,16] rfl h0 h1
theorem Jf{v0 v1 v2:Nat}(h0:v0<=v1+1+v2):v0<=v1+(v2+1):=dI [v0,v1,v2] 0 81829 0 88192 rfl h0
theorem Ub{v0 v1 v2:Nat}(h0:v0=v1+40+(v2+1)):v0=v1+v2+41:=cO (bV [v0,v1,v2] [0] [9,9,1,2,51] [0] [9,9,1,50,9,2,11] rfl (aQ h0)) (bV [v0,v1,v2] [9,9,1,2,51] [0] [9,9,1,50,9,2,11] [0] rfl (aQ h0.symm))
theorem ajW{v1 v2:Nat}{v0:Int}(h0:v0<(v1:Int))(h1:v2+1=v1):v0<(v2:Int)+1:=by subst h1;exact h0
theorem ai7{v0 v1 v2:Nat}(h0:v0+1=v1)(h1:v1+(v2+1)<=40000):v0<100000:=fV [v0,v1,v2] [9,0,11] [100010] [9,0,11] [1] [9,1,9,2,11] [40010] rfl (aQ h0) h1
theorem aic{v0 v1 v2 v3:Nat}(h0:v0=v1+40+(v2+v3+2)):v0=v1+(v2+v3+1)+41:=cO (bV [v0,v1,v2,v3] [0] [9,9,1,9,9,2,3,11,51] [0] [9,9,1,50,9,9,2,3,12] rfl (aQ h0)) (bV [v0,v1,v2,v3] [9,9,1,9,9,2,3,11,51] [0] [9,9,1,50,9,9,2,3,12] [0] rfl (aQ h0.symm))
theorem aiV{v1 v2:Nat}{v0:Int}(h0:v0<0\/(v1:Int)<=v0)(h1:v2+1=v1):v0<0\/(v2:Int)+1<=v0:=by subst h1;exact h0
theorem ajz{v0 v1 v2 v3 v4:Nat}(h0:v0+1=v1)(h1:v2=v1)(h2:v1+(v3+v4+2)<=40000):v0+v2<100000:=lz [v0,v1,v2,v3,v4] [9,9,0,2,11] [100010] [9,0,11] [1] [2] [1] [9,1,9,9,3,4,12] [40010] [9,1,9,9,3,4,12] [40010] rfl (aQ h0) (aQ h1) h2 h2
theorem aiF{v0 v1 v2:Nat}(h0:v0+(v1+v2+2)<=20000):v0<20000:=bV [v0,v1,v2] [9,0,11] [20010] [9,0,9,9,1,2,12] [20010] rfl h0
theorem aj4{v0 v1 v2:Nat}:v0+(v1+v2+1)+40=v0+v2+1+40+v1:=cO (gh [v0,v1,v2] [9,9,0,9,9,1,2,11,50] [9,9,9,9,0,2,11,50,1] rfl) (gh [v0,v1,v2] [9,9,9,9,0,2,11,50,1] [9,9,0,9,9,1,2,11,50] rfl)
theorem akv{v0 v1 v2:Nat}(h0:v0+(v1+v2+2)<=100000):v0+v1<=100000:=bV [v0,v1,v2] [9,0,1] [100010] [9,0,9,9,1,2,12] [100010] rfl h0
theorem ajO{v0 v1 v2:Nat}(h0:v0+(v1+v2+2)<=20000):v0+1+v1<=20000:=bV [v0,v1,v2] [9,9,0,11,1] [20010] [9,0,9,9,1,2,12] [20010] rfl h0
theorem aiL{v0 v1 v2:Nat}(h0:v0+(v1+v2+2)<=40000):v0+1+v1<=40000:=bV [v0,v1,v2] [9,9,0,11,1] [40010] [9,0,9,9,1,2,12] [40010] rfl h0
theorem ai2{v0 v1 v2 v3 v4:Nat}(h0:v0+8*(v1+v2+2)+20<v3)(h1:v4<=v0+7):v4+8*v1+20<v3:=fV [v0,v1,v2,v3,v4] [9,9,9,4,7,18,1,30,11] [3] [9,9,9,0,7,18,9,9,1,2,12,30,11] [3] [4] [9,0,17] rfl h0 h1
theorem ajI{v0 v1:Nat}:v0+v1+1+40=v0+v1+41:=cO (gh [v0,v1] [9,9,9,0,1,11,50] [9,9,0,1,51] rfl) (gh [v0,v1] [9,9,0,1,51] [9,9,9,0,1,11,50] rfl)
theorem ahX{v0 v1 v2 v3 v4:Nat}(h0:v0+1=v1)(h1:v2=v1)(h2:v1+(v3+v4+2)<=40000):v0+1+v2<100000:=lz [v0,v1,v2,v3,v4] [9,9,9,0,11,2,11] [100010] [9,0,11] [1] [2] [1] [9,1,9,9,3,4,12] [40010] [9,1,9,9,3,4,12] [40010] rfl (aQ h0) (aQ h1) h2 h2
theorem akz{v0 v1 v2 v3 v4 v5:Nat}(h0:v0+8*(v1+v2+2)+20<v3)(h1:v4<=v0+7)(h2:v5<=v4+8*v1):v5+10<v3:=uT [v0,v1,v2,v3,v4,v5] [9,9,5,20,11] [3] [9,9,9,0,7,18,9,9,1,2,12,30,11] [3] [4] [9,0,17] [5] [9,4,7,18,1] rfl h0 h1 h2
theorem ajH{v0 v1 v2 v3 v4 v5 v6 v7:Nat}(h0:v0<=v1)(h1:v2≠v3/\v2≠v4/\v2≠v5/\v2≠v6)(h2:v7<=v2/\v2<v0):¬(v2=v3\/v2=v4\/v2=v5\/v2=v6\/v2=v1):=λh=>h.elim h1.1 λh=>h.elim h1.2.1 λh=>h.elim h1.2.2.1 λh=>h.elim h1.2.2.2 λh=>vE _ (dm h2.2 (h.symm▸h0))
theorem aix{v0 v1:Nat}:v0+v1+40=v0+40+v1:=cO (gh [v0,v1] [9,9,0,1,50] [9,9,0,50,1] rfl) (gh [v0,v1] [9,9,0,50,1] [9,9,0,1,50] rfl)
theorem ajh{v0 v1 v2 v3:Nat}(h0:v0+(v1+v2+2)<=100000)(h1:v3<=v1):v0+v3+v2<=100000:=fV [v0,v1,v2,v3] [9,9,0,3,2] [100010] [9,0,9,9,1,2,12] [100010] [3] [1] rfl h0 h1
theorem akI{v0 v1 v2 v3:Nat}(h0:v0+(v1+v2+2)<=20000)(h1:v3<=v0+1+v1):v3+v2<=20000:=fV [v0,v1,v2,v3] [9,3,2] [20010] [9,0,9,9,1,2,12] [20010] [3] [9,9,0,11,1] rfl h0 h1
theorem aiU{v0 v1 v2:Nat}(h0:v0+(v1+v2+2)<=40000):v0+v2<=40000:=bV [v0,v1,v2] [9,0,2] [40010] [9,0,9,9,1,2,12] [40010] rfl h0
theorem aiN{v0 v1 v2 v3 v4 v5 v6:Nat}(h0:v0+8*(v1+v2+2)+20<v3)(h1:v4<=v0+7)(h2:v5<=v4+8*v1)(h3:v6<=v5+1):v6+8*v2+20<v3:=lz [v0,v1,v2,v3,v4,v5,v6] [9,9,9,6,7,18,2,30,11] [3] [9,9,9,0,7,18,9,9,1,2,12,30,11] [3] [4] [9,0,17] [5] [9,4,7,18,1] [6] [9,5,11] rfl h0 h1 h2 h3
theorem akf{v0 v1 v2 v3 v4 v5 v6 v7:Nat}(h0:v0<=v1)(h1:v2<v0)(h2:v2=v3\/v2=v4\/v2=v5\/v2=v6\/v2=v1):v2=v3\/v2=v4\/v2=v5\/v2=v6\/v2=v7:=h2.elim .inl λh=>.inr (h.elim .inl λh=>.inr (h.elim .inl λh=>.inr (h.elim .inl λh=>absurd (h▸h1) (Nat.not_lt.mpr h0))))
theorem akh{v0 v1 v2 v3 v4:Nat}(h0:v0<=v1+1+v2)(h1:v3<=v0+v4):v3<=v1+(v2+v4+2):=fV [v0,v1,v2,v3,v4] [3] [9,1,9,9,2,4,12] [0] [9,9,1,11,2] [3] [9,0,4] rfl h0 h1
theorem aiv{v0 v1 v2 v3 v4 v5 v6:Nat}(h0:v0<=v1+7)(h1:v2<=v0+8*v3)(h2:v4<=v2+1)(h3:v5<=v4+8*v6):v5<=v1+8*(v3+v6+2):=lz [v0,v1,v2,v3,v4,v5,v6] [5] [9,1,7,18,9,9,3,6,12] [0] [9,1,17] [2] [9,0,7,18,3] [4] [9,2,11] [5] [9,4,7,18,6] rfl h0 h1 h2 h3
theorem aip{v0 v1:Nat}(h0:v0<v1)(h1:v1<=1000000):(v0:Int)<2 ^ 63:=Int.ofNat_lt.mpr (dm h0 (eo h1 (by decide)))
theorem ajv{v0 v1 v2 v3:Nat}(h0:v0=v1)(h1:v0+v2<=1000000)(h2:v2=v3):v1+v3<=1000000:=uT [v0,v1,v2,v3] [9,1,3] [1000010] [1] [0] [9,0,2] [1000010] [3] [2] rfl (aQ h0.symm) h1 (aQ h2.symm)
theorem ai3{v0 v1 v2:Nat}(h0:v0<=v1):v2+v1+85=v2+v1+55- v0+30+v0:=cO (bV [v0,v1,v2,(((v2+v1)+55)- v0)] [9,9,2,1,95] [9,9,3,40,0] [9,9,2,1,65] [9,3,0] rfl (Nat.sub_le_iff_le_add.mp (cN (((v2+v1)+55)- v0)))) (bV [v0,v1,v2,(((v2+v1)+55)- v0)] [9,9,3,40,0] [9,9,2,1,95] [9,3,0] [9,9,2,1,65] rfl (aQ (m6 (bV [v0,v1,v2] [0] [9,9,2,1,65] [0] [1] rfl h0))))
theorem ai5{v0 v1:Nat}:v0+v1+85=v0+25+v1+60:=cO (gh [v0,v1] [9,9,0,1,95] [9,9,9,0,35,1,70] rfl) (gh [v0,v1] [9,9,9,0,35,1,70] [9,9,0,1,95] rfl)
theorem ahY{v0 v1 v2:Nat}(h0:v0<=1000)(h1:v1<=19000)(h2:v2<=v1):v0+v2<=1000000:=uT [v0,v1,v2] [9,0,2] [1000010] [0] [1010] [1] [19010] [2] [1] rfl h0 h1 h2
theorem ajy{v0 v1:Nat}(h0:v0<=40):v1+196=v1+166- v0+30+v0:=cO (bV [v0,v1,((v1+166)- v0)] [9,1,206] [9,9,2,40,0] [9,1,176] [9,2,0] rfl (Nat.sub_le_iff_le_add.mp (cN ((v1+166)- v0)))) (bV [v0,v1,((v1+166)- v0)] [9,9,2,40,0] [9,1,206] [9,2,0] [9,1,176] rfl (aQ (m6 (bV [v0,v1] [0] [9,1,176] [0] [50] rfl h0))))
theorem aim{v0:Nat}(h0:v0<=40):0+v0<=100000:=bV [v0] [9,10,0] [100010] [0] [50] rfl h0
theorem I3{v0 v1:Nat}(h0:v0 % 2=0)(h1:v1+1≠v0+1)(h2:v1 % 2=0):v1 / 2≠v0 / 2:=λh=>h1 (congrArg (· +1) (by rw[<-tL v1 2,<-tL v0 2,h0,h2,h]))
theorem IG{v0 v1:Nat}(h0:¬v0 % 2=0)(h1:v1+1≠v0+1)(h2:¬v1 % 2=0):v1 / 2≠v0 / 2:=λh=>h1 (congrArg (· +1) (by rw[<-tL v1 2,<-tL v0 2,Nat.mod_two_ne_zero.mp h0,Nat.mod_two_ne_zero.mp h2,h]))
theorem TQ{v0 v1:Nat}(h0:v0+1+1<2 ^ v1*2):v0 / 2+1<2 ^ v1:=pG (aQ (Nat.add_div_right v0 (by decide:0<2)).symm) (Nat.div_lt_of_lt_mul (LV _ 2▸h0))
theorem ajD{v0 v1 v2:Nat}(h0:v0<=3/\v1<=v2):v1+1+v1<=2*v2+5:=fV [v1,v2] [9,9,0,11,0] [9,7,12,1,15] [0] [1] [0] [1] rfl h0.2 h0.2
theorem ajA{v0 v1 v2:Nat}(h0:v0<=3/\v1<=v2):1+v1+v1<=2*v2+5:=fV [v1,v2] [9,9,11,0,0] [9,7,12,1,15] [0] [1] [0] [1] rfl h0.2 h0.2
theorem ajT{v0 v1 v2:Nat}(h0:v0=v1+60+(v2+1)):v0=v1+v2+61:=cO (bV [v0,v1,v2] [0] [9,9,1,2,71] [0] [9,9,1,70,9,2,11] rfl (aQ h0)) (bV [v0,v1,v2] [9,9,1,2,71] [0] [9,9,1,70,9,2,11] [0] rfl (aQ h0.symm))
theorem akr{v0 v1 v2 v3 v4 v5 v6:Nat}(h0:v0+40*(v1+1)+1200<v2)(h1:v3=v0)(h2:v4=v3)(h3:v5=v4)(h4:v6<=v5+30):v6+40*v1+1200<v2:=bV [v0,v1,v2,v3,v4,v5,v6] [9,9,9,6,7,50,1,1210,11] [2] [9,9,9,9,9,9,9,0,7,50,9,1,11,1210,11,3,4,5,6] [9,9,9,9,2,0,3,4,9,5,40] rfl (bK (bK (bK (bK h0 (aQ h1)) (aQ h2)) (aQ h3)) h4)
theorem ajZ{v2:Nat}{v0 v1:Int}(h0:v0<=v1+1+(v2:Int)):v0<=v1+((v2+1:Nat):Int):=BF h0 (Int.le_of_eq ((ya _ _ _).trans (congrArg (v1+ ·) (yd _ _))))
theorem akg{v0 v1 v2 v3 v4 v5 v6:Nat}(h0:v0=v1)(h1:v2=v0)(h2:v3=v2)(h3:v4<=v3+30)(h4:v5<=v4+40*v6):v5<=v1+40*(v6+1):=bV [v0,v1,v2,v3,v4,v5,v6] [5] [9,1,7,50,9,6,11] [9,9,9,9,0,2,3,4,5] [9,9,9,9,1,0,2,9,3,40,9,4,7,50,6] rfl (bK (bK (bK (bK (aQ h0) (aQ h1)) (aQ h2)) h3) h4)
theorem SX{v0:Nat}(h0:2*v0+5+5<=1000):v0<=500:=tG λh=>absurd h0 (Nat.not_le_of_lt (bV [v0] [1011] [9,9,7,12,0,15,15] [7,12,511] [7,12,0] rfl (jb 2 h)))
theorem ajN{v0 v1 v2:Nat}(h0:v0+(v1+1)=v2+1):v0+1+v1=v2+1:=cO (dI [v0,v1,v2] 88091 829 80819 829 rfl (aQ h0)) (dI [v0,v1,v2] 829 88091 829 80819 rfl (aQ h0.symm))
theorem ake{v0 v1 v2:Nat}(h0:v0<=2*v1+v2):v0+0+2<=2*(v1+1)+v2:=bV [v0,v1,v2] [9,9,0,10,12] [9,7,12,9,1,11,2] [0] [9,7,12,1,2] rfl h0
theorem akC{v0 v1 v2:Nat}(h0:v0=v1+41+(v2+1)):v0=v1+v2+42:=cO (bV [v0,v1,v2] [0] [9,9,1,2,52] [0] [9,9,1,51,9,2,11] rfl (aQ h0)) (bV [v0,v1,v2] [9,9,1,2,52] [0] [9,9,1,51,9,2,11] [0] rfl (aQ h0.symm))
theorem aj6{v0 v1 v2 v3 v4 v5 v6 v7:Nat}(h0:v0+6*(v1+1)+10<v2)(h1:v3=v0)(h2:v4=v3)(h3:v5=v4+1)(h4:v6<=v5+5)(h5:v7=v6):v7+6*v1+10<v2:=qC [v0,v1,v2,v3,v4,v5,v6,v7] (.a (.a (.a (.v 7) (.m 6 (.v 1))) (.n 10)) (.n 1)) (.v 2) (.a (.a (.a (.a (.a (.a (.a (.a (.v 0) (.m 6 (.a (.v 1) (.n 1)))) (.n 10)) (.n 1)) (.v 3)) (.v 4)) (.v 5)) (.v 6)) (.v 7)) (.a (.a (.a (.a (.a (.v 2) (.v 0)) (.v 3)) (.a (.v 4) (.n 1))) (.a (.v 5) (.n 5))) (.v 6)) rfl (bK (bK (bK (bK (bK h0 (aQ h1)) (aQ h2)) (aQ h3)) h4) (aQ h5))
theorem ajo{v0 v1 v2 v3 v4 v5 v6 v7:Nat}(h0:v0=v1)(h1:v2=v0)(h2:v3=v2+1)(h3:v4<=v3+5)(h4:v5=v4)(h5:v6<=v5+6*v7):v6<=v1+6*(v7+1):=qC [v0,v1,v2,v3,v4,v5,v6,v7] (.v 6) (.a (.v 1) (.m 6 (.a (.v 7) (.n 1)))) (.a (.a (.a (.a (.a (.v 0) (.v 2)) (.v 3)) (.v 4)) (.v 5)) (.v 6)) (.a (.a (.a (.a (.a (.v 1) (.v 0)) (.a (.v 2) (.n 1))) (.a (.v 3) (.n 5))) (.v 4)) (.a (.v 5) (.m 6 (.v 7)))) rfl (bK (bK (bK (bK (bK (aQ h0) (aQ h1)) (aQ h2)) h3) (aQ h4)) h5)
theorem akq{v0 v1:Nat}:v0+v1+76=v0+16+v1+60:=cO (gh [v0,v1] [9,9,0,1,86] [9,9,9,0,26,1,70] rfl) (gh [v0,v1] [9,9,9,0,26,1,70] [9,9,0,1,86] rfl)
theorem ai6{v0 v1:Nat}(h0:v0<=40):v0- v1<=40:=fV [v0,(v0- v1)] [1] [50] [0] [50] [1] [0] rfl h0 (rV v0 v1)
theorem aje{v0:Nat}(h0:v0=948\/v0=943\/v0=936\/v0=931):v0=1000\/v0=931\/v0=936\/v0=943\/v0=948:=by rcases h0 with rfl|rfl|rfl|rfl<;>decide
theorem ajs{v0 v1:Nat}(h0:v0 % 2=0)(h1:v1 % 2=0)(h2:v1 / 2=v0 / 2):v1=v0:=by rw[<-tL v1 2,<-tL v0 2,h0,h1,h2]
theorem Sy{v0 v1:Nat}(h0:¬v0 / 2=v1 / 2):¬v0+1=v1+1:=λh=>h0 (qO h▸rfl)
theorem ajj{v0 v1:Nat}(h0:v0 % 2=0)(h1:¬v1 % 2=0):¬v1+1=v0+1:=λh=>h1 ((qO h).symm▸h0)
theorem aiy{v0 v1:Nat}(h0:¬v0 % 2=0)(h1:v1 % 2=0):¬v1+1=v0+1:=λh=>h0 (qO h▸h1)
theorem ail{v0 v1:Nat}(h0:¬v0 % 2=0)(h1:¬v1 % 2=0)(h2:v1 / 2=v0 / 2):v1=v0:=by rw[<-tL v1 2,<-tL v0 2,Nat.mod_two_ne_zero.mp h0,Nat.mod_two_ne_zero.mp h1,h2]
theorem akd{v0 v1:Nat}:v0+v1+41=v0+1+40+v1:=cO (gh [v0,v1] [9,9,0,1,51] [9,9,9,0,11,50,1] rfl) (gh [v0,v1] [9,9,9,0,11,50,1] [9,9,0,1,51] rfl)
theorem aju{v0 v1 v2 v3:Nat}(h0:v0=1170)(h1:v1=v0)(h2:v2=v1+1)(h3:v3=v2):1002≠v3:=iJ (lz [v0,v1,v2,v3] [9,1012,11] [3] [1180] [0] [0] [1] [9,1,11] [2] [2] [3] rfl (aQ h0.symm) (aQ h1.symm) (aQ h2.symm) (aQ h3.symm))
theorem aiz{v0 v1 v2 v3:Nat}(h0:v0=1170)(h1:v1=v0)(h2:v2=v1+1)(h3:v3=v2):1003≠v3:=iJ (lz [v0,v1,v2,v3] [9,1013,11] [3] [1180] [0] [0] [1] [9,1,11] [2] [2] [3] rfl (aQ h0.symm) (aQ h1.symm) (aQ h2.symm) (aQ h3.symm))
theorem ai4{v0 v1:Nat}(h0:v0<=6)(h1:v1<=v0):6996=6936-(1+v1)+60+(1+v1):=cO (bV [v1,(6936-(1+v1))] [7006] [9,9,1,70,9,11,0] [6946] [9,1,9,11,0] rfl (Nat.sub_le_iff_le_add.mp (cN (6936-(1+v1))))) (bV [v1,(6936-(1+v1))] [9,9,1,70,9,11,0] [7006] [9,1,9,11,0] [6946] rfl (aQ (m6 (fV [v0,v1] [9,11,1] [6946] [0] [16] [1] [0] rfl h0 h1))))
theorem aii{v0 v1 v2 v3 v4 v5 v6:Nat}(h0:v0<=6)(h1:v1=1170)(h2:1000000000=v2)(h3:v3<=v0)(h4:v4=v1)(h5:v5=v4+1)(h6:v6=v5+1):v6+40*(1+v3)+1200<v2:=bV [v0,v1,v2,v3,v4,v5,v6] [9,9,9,6,7,50,9,11,3,1210,11] [2] [9,9,9,9,9,9,7,50,0,1,1000000010,7,50,3,4,5,6] [9,9,9,9,9,9,7,50,16,1180,2,7,50,0,1,9,4,11,9,5,11] rfl (bK (bK (bK (bK (bK (bK (jb 40 h0) (aQ h1)) (aQ h2)) (jb 40 h3)) (aQ h4)) (aQ h5)) (aQ h6))
theorem ajd{v0 v1 v2 v3 v4 v5 v6 v7:Nat}(h0:v0<=6)(h1:v1=1170)(h2:1000000000=v2)(h3:v3<=v0)(h4:v4=v1)(h5:v5=v4+1)(h6:v6=v5+1)(h7:v7<=v6+40*(1+v3)):v7<v2:=qC [v0,v1,v2,v3,v4,v5,v6,v7] (.a (.v 7) (.n 1)) (.v 2) (.a (.a (.a (.a (.a (.a (.a (.m 40 (.v 0)) (.v 1)) (.n 1000000000)) (.m 40 (.v 3))) (.v 4)) (.v 5)) (.v 6)) (.v 7)) (.a (.a (.a (.a (.a (.a (.a (.m 40 (.n 6)) (.n 1170)) (.v 2)) (.m 40 (.v 0))) (.v 1)) (.a (.v 4) (.n 1))) (.a (.v 5) (.n 1))) (.a (.v 6) (.m 40 (.a (.n 1) (.v 3))))) rfl (bK (bK (bK (bK (bK (bK (bK (jb 40 h0) (aQ h1)) (aQ h2)) (jb 40 h3)) (aQ h4)) (aQ h5)) (aQ h6)) h7)
theorem ajp{v0:Nat}(h0:v0+5<=1000):6991=6911- v0+v0+80:=cO (bV [v0,(6911- v0)] [7001] [9,9,1,0,90] [6921] [9,1,0] rfl (Nat.sub_le_iff_le_add.mp (cN (6911- v0)))) (bV [v0,(6911- v0)] [9,9,1,0,90] [7001] [9,1,0] [6921] rfl (aQ (m6 (bV [v0] [0] [6921] [9,0,15] [1010] rfl h0))))
theorem aiI{v0 v1 v2 v3 v4 v5 v6 v7 v8 v9:Nat}(h0:v0<=6)(h1:v1=1170)(h2:1000000000=v2)(h3:v3<=v0)(h4:v4=v1)(h5:v5=v4+1)(h6:v6=v5+1)(h7:v7+5<=1000)(h8:v8<=v6+40*(1+v3))(h9:v9=v8+1):v9+8*v7+110<v2:=qC [v0,v1,v2,v3,v4,v5,v6,v7,v8,v9] (.a (.a (.a (.v 9) (.m 8 (.v 7))) (.n 110)) (.n 1)) (.v 2) (.a (.a (.a (.a (.a (.a (.a (.a (.a (.m 40 (.v 0)) (.v 1)) (.n 1000000000)) (.m 40 (.v 3))) (.v 4)) (.v 5)) (.v 6)) (.m 8 (.a (.v 7) (.n 5)))) (.v 8)) (.v 9)) (.a (.a (.a (.a (.a (.a (.a (.a (.a (.m 40 (.n 6)) (.n 1170)) (.v 2)) (.m 40 (.v 0))) (.v 1)) (.a (.v 4) (.n 1))) (.a (.v 5) (.n 1))) (.m 8 (.n 1000))) (.a (.v 6) (.m 40 (.a (.n 1) (.v 3))))) (.a (.v 8) (.n 1))) rfl (bK (bK (bK (bK (bK (bK (bK (bK (bK (jb 40 h0) (aQ h1)) (aQ h2)) (jb 40 h3)) (aQ h4)) (aQ h5)) (aQ h6)) (jb 8 h7)) h8) (aQ h9))
theorem aia{v0 v1 v2 v3 v4 v5 v6 v7 v8 v9 v10:Nat}(h0:v0<=6)(h1:v1=1170)(h2:1000000000=v2)(h3:v3<=v0)(h4:v4=v1)(h5:v5=v4+1)(h6:v6=v5+1)(h7:v7+5<=1000)(h8:v8<=v6+40*(1+v3))(h9:v9=v8+1)(dO:v10<=v9+(8*v7+60)):v10<v2:=qC [v0,v1,v2,v3,v4,v5,v6,v7,v8,v9,v10] (.a (.v 10) (.n 1)) (.v 2) (.a (.a (.a (.a (.a (.a (.a (.a (.a (.a (.m 40 (.v 0)) (.v 1)) (.n 1000000000)) (.m 40 (.v 3))) (.v 4)) (.v 5)) (.v 6)) (.m 8 (.a (.v 7) (.n 5)))) (.v 8)) (.v 9)) (.v 10)) (.a (.a (.a (.a (.a (.a (.a (.a (.a (.a (.m 40 (.n 6)) (.n 1170)) (.v 2)) (.m 40 (.v 0))) (.v 1)) (.a (.v 4) (.n 1))) (.a (.v 5) (.n 1))) (.m 8 (.n 1000))) (.a (.v 6) (.m 40 (.a (.n 1) (.v 3))))) (.a (.v 8) (.n 1))) (.a (.v 9) (.a (.m 8 (.v 7)) (.n 60)))) rfl (bK (bK (bK (bK (bK (bK (bK (bK (bK (bK (jb 40 h0) (aQ h1)) (aQ h2)) (jb 40 h3)) (aQ h4)) (aQ h5)) (aQ h6)) (jb 8 h7)) h8) (aQ h9)) dO)
theorem akc{v0:Nat}(h0:v0+5<=1000):6993=6903- v0+v0+90:=cO (bV [v0,(6903- v0)] [7003] [9,9,1,0,100] [6913] [9,1,0] rfl (Nat.sub_le_iff_le_add.mp (cN (6903- v0)))) (bV [v0,(6903- v0)] [9,9,1,0,100] [7003] [9,1,0] [6913] rfl (aQ (m6 (bV [v0] [0] [6913] [9,0,15] [1010] rfl h0))))
theorem aj9{v0 v1 v2 v3 v4 v5 v6 v7 v8 v9 v10 v11:Nat}(h0:v0<=6)(h1:v1=1170)(h2:1000000000=v2)(h3:v3<=v0)(h4:v4=v1)(h5:v5=v4+1)(h6:v6=v5+1)(h7:v7+5<=1000)(h8:v8<=v6+40*(1+v3))(h9:v9=v8+1)(dO:v10<=v9+(8*v7+60))(h11:v11=v10+1):v11+8*v7+110<v2:=qC [v0,v1,v2,v3,v4,v5,v6,v7,v8,v9,v10,v11] (.a (.a (.a (.v 11) (.m 8 (.v 7))) (.n 110)) (.n 1)) (.v 2) (.a (.a (.a (.a (.a (.a (.a (.a (.a (.a (.a (.m 40 (.v 0)) (.v 1)) (.n 1000000000)) (.m 40 (.v 3))) (.v 4)) (.v 5)) (.v 6)) (.m 16 (.a (.v 7) (.n 5)))) (.v 8)) (.v 9)) (.v 10)) (.v 11)) (.a (.a (.a (.a (.a (.a (.a (.a (.a (.a (.a (.m 40 (.n 6)) (.n 1170)) (.v 2)) (.m 40 (.v 0))) (.v 1)) (.a (.v 4) (.n 1))) (.a (.v 5) (.n 1))) (.m 16 (.n 1000))) (.a (.v 6) (.m 40 (.a (.n 1) (.v 3))))) (.a (.v 8) (.n 1))) (.a (.v 9) (.a (.m 8 (.v 7)) (.n 60)))) (.a (.v 10) (.n 1))) rfl (bK (bK (bK (bK (bK (bK (bK (bK (bK (bK (bK (jb 40 h0) (aQ h1)) (aQ h2)) (jb 40 h3)) (aQ h4)) (aQ h5)) (aQ h6)) (jb 16 h7)) h8) (aQ h9)) dO) (aQ h11))
theorem aiX{v0 v1 v2 v3 v4:Nat}(h0:1115<v0/\1116<v0/\v1<v0)(h1:v2=v0+1)(h2:v2<=v3)(h3:v4=v3):1115≠v4:=iJ (lz [v0,v2,v3,v4] [9,1125,11] [3] [9,1125,11] [0] [9,0,11] [1] [1] [2] [2] [3] rfl h0.1 (aQ h1.symm) h2 (aQ h3.symm))
theorem ajS{v0 v1:Nat}{v2:Int}(h0:v0<=6)(h1:v1<=v0)(h2:v2<=9+((1+v1:Nat):Int)):v2+1<=29:=BF (WK h2 1) (Int.ofNat_le.mpr (fV [v0,v1] [9,9,19,9,11,1,11] [39] [1] [0] [0] [16] rfl h1 h0))
theorem aka{v0 v1 v2:Nat}(h0:v0<=6)(h1:v1<=v0)(h2:v2<=3+(1+v1)):v2<=10:=uT [v0,v1,v2] [2] [20] [0] [16] [1] [0] [2] [9,13,9,11,1] rfl h0 h1 h2
theorem ah9{v0 v1 v2 v3 v4 v5 v6 v7 v8 v9 v10 v11 Jl:Nat}(h0:v0<=6)(h1:v1=1170)(h2:v2<=v0)(h3:v3=v1)(h4:v4=v3+1)(h5:v5=v4+1)(h6:v6+5<=1000)(h7:v7<=v5+40*(1+v2))(h8:v8=v7+1)(h9:v9<=v8+(8*v6+60))(dO:v10=v9+1)(h11:v11<=v10+8*v6+60)(h12:Jl=v11):Jl<=100000:=qC [v0,v1,v2,v3,v4,v5,v6,v7,v8,v9,v10,v11,Jl] (.v 12) (.n 100000) (.a (.a (.a (.a (.a (.a (.a (.a (.a (.a (.a (.a (.m 40 (.v 0)) (.v 1)) (.m 40 (.v 2))) (.v 3)) (.v 4)) (.v 5)) (.m 16 (.a (.v 6) (.n 5)))) (.v 7)) (.v 8)) (.v 9)) (.v 10)) (.v 11)) (.v 12)) (.a (.a (.a (.a (.a (.a (.a (.a (.a (.a (.a (.a (.m 40 (.n 6)) (.n 1170)) (.m 40 (.v 0))) (.v 1)) (.a (.v 3) (.n 1))) (.a (.v 4) (.n 1))) (.m 16 (.n 1000))) (.a (.v 5) (.m 40 (.a (.n 1) (.v 2))))) (.a (.v 7) (.n 1))) (.a (.v 8) (.a (.m 8 (.v 6)) (.n 60)))) (.a (.v 9) (.n 1))) (.a (.a (.v 10) (.m 8 (.v 6))) (.n 60))) (.v 11)) rfl (bK (bK (bK (bK (bK (bK (bK (bK (bK (bK (bK (bK (jb 40 h0) (aQ h1)) (jb 40 h2)) (aQ h3)) (aQ h4)) (aQ h5)) (jb 16 h6)) h7) (aQ h8)) h9) (aQ dO)) h11) (aQ h12))
theorem aik{v0 v1 v2 v3 v4:Nat}(h0:v0=v1)(h1:v0=v2+(v3-(v3-(v1- v2))))(h2:v2=v4):v4<=v1:=fu [v1,v2,v4,(v1- v2)] 2 0 2 1 831 0 rfl (aQ h2.symm) (aQ (m6 (fu [v0,v1,v2,(v3-(v3-(v1- v2)))] 2 1 0 1 823 0 rfl (aQ h0) (aQ h1.symm))))
theorem ajw{v0 v1 v2 v3 v4 v5:Nat}(h0:v0=v1)(h1:v0=v2+(v3-(v3-(v1- v2))))(h2:v2=v4)(h3:v5=v3):v1<=v4+v5:=dI [v0,v1,v2,v3,v4,v5,(v3-(v3-(v1- v2)))] 1 845 888810236 88880826453 rfl (bK (bK (bK (bK (aQ h0.symm) (aQ h1)) (aQ h2)) (aQ h3.symm)) (rV v3 (v3-(v1- v2))))
theorem ajt{v0 v1 v2 v3 v4 v5:Nat}(h0:v0=v1)(h1:v0=v2+(v3-(v3-(v1- v2))))(h2:v2=v4)(h3:v5=v3):v1=v4+(v5-(v5-(v1- v4))):=by subst h0;subst h2;subst h3;exact h1
theorem aji{v0 v1:Nat}:v0- v1<=v0:=dI [v0,(v0- v1)] 1 0 1 0 rfl (rV v0 v1)
theorem ajf{v0 v1:Nat}(h0:1170<=v0)(h1:v1=v0):1000≠v1:=iJ (fV [v0,v1] [9,1010,11] [1] [1180] [0] [0] [1] rfl h0 (aQ h1.symm))
theorem JN{x0 x1:Nat}(h0:x0=x1+30+0):x0=x1+29+1:=cO (bV [x0,x1] [0] [9,9,1,39,11] [0] [9,9,1,40,10] rfl (aQ h0)) (bV [x0,x1] [9,9,1,39,11] [0] [9,9,1,40,10] [0] rfl (aQ h0.symm))
theorem vh{x0 x1 x2:Nat}(h0:x0+(x1+1)=x2):x0+1+x1=x2:=cO (dI [x0,x1,x2] 88091 2 80819 2 rfl (aQ h0)) (dI [x0,x1,x2] 2 88091 2 80819 rfl (aQ h0.symm))
theorem Ec{x0 x1:Nat}:x0+x1+30=x0+30+x1:=ED x0 x1 30
theorem Vb{x0 x1:Nat}(h0:x0+(x1+1)<=100000):x0<=1000000:=bV [x0,x1] [0] [1000010] [9,0,9,1,11] [100010] rfl h0
theorem DP{x0 x1:Nat}(h0:x0+(x1+1)<=100000):x0+1+x1<=100000:=bV [x0,x1] [9,9,0,11,1] [100010] [9,0,9,1,11] [100010] rfl h0
theorem Ut{x0 x1 x2:Nat}(h0:x0+4*(x1+1)+8<x2):x0<x2:=bV [x0,x1,x2] [9,0,11] [2] [9,9,9,0,7,14,9,1,11,18,11] [2] rfl h0
theorem Uq{x0 x1 x2 x3 x4:Nat}(h0:x0=x1)(h1:x0=x2)(h2:x2=x3):x1<=x3+x4:=VK [x0,x1,x2,x3,x4] 1 834 1 0 0 2 2 3 rfl (aQ h0.symm) (aQ h1) (aQ h2)
theorem TF{x0 x1:Nat}(h0:x0=0):x0<=x1:=dI [x0,x1] 0 1 0 7 rfl (aQ h0)
theorem ajL{x0 x1:Nat}(h0:(↑x0:Int)<mu x1):False:=(Int.negSucc_not_nonneg (x1+x0).succ).mp h0
theorem ajF{x0 x1:Nat}:mu x0<(↑x1:Int):=Int.compare_eq_gt.mp rfl
theorem aiD{x0 x1:Nat}(h0:x0<x1):mu x1<mu x0:=Int.neg_lt_neg (Int.ofNat_lt.mpr (Nat.succ_lt_succ h0))
theorem aiW{x0 x1:Nat}(h0:¬x0<x1):mu x0<=mu x1:=Int.neg_le_neg (Int.ofNat_le.mpr (Lj (tG h0)))
theorem aiw{x0 x1 x2:Int}:x0+(x1+x2)=x1+(x0+x2):=Int.add_left_comm x0 x1 x2
theorem aiS{x0 x1 x2:Int}:x0+(x1+x2)=x0+x1+x2:=yN (ya x0 x1 x2)
theorem aj5{x0 x1 x2:Int}:x0+(x1- x2)=x0+x1- x2:=yN (Int.add_sub_assoc x0 x1 x2)
theorem ah3{x0:Nat}{x1:Int}(h0:x0*x1.toNat<=2 ^ 24):¬x0*x1.toNat > (2 ^ 63- 1) / 8:=Nat.not_lt_of_le (eo h0 (by decide))
theorem SA{x0:Nat}:(0:Int)<=(↑x0:Int):=EB x0
theorem ait{x0:Nat}(h0:x0<1000):(↑x0:Int)<=(1000000:Int):=Int.ofNat_le.mpr (Nat.le_of_lt (dm h0 (by decide)))
theorem aio{x0:Nat}(h0:x0<1000):(↑x0:Int).natAbs<2 ^ 64:=dm h0 (by decide)
theorem ahV{x0:Nat}: -(2:Int) ^ 63<=(↑x0:Int):=Int.neg_ofNat_le_natCast (2 ^ 63) x0
theorem ai0{x0:Nat}(h0:x0<=1000000):(↑x0:Int)<(2:Int) ^ 63:=Int.ofNat_lt.mpr (pG h0 (by decide))
theorem ah8{x0 x1:Nat}(h0:x0*x1<=1000000):x0*x1<=2 ^ 24:=eo h0 (by decide)
theorem ahZ{x0 x1:Nat}(h0:x0+x1<100000):x1<1000000:=bV [x0,x1] [9,1,11] [1000010] [9,9,0,1,11] [100010] rfl h0
theorem akH{x0:Nat}(h0:x0<100000):x0+1<=1000000:=bV [x0] [9,0,11] [1000010] [9,0,11] [100010] rfl h0
theorem ajx{x0 x1:Nat}(h0:x0+x1<100000):x1<=1000000:=bV [x0,x1] [1] [1000010] [9,9,0,1,11] [100010] rfl h0
theorem ai1{x0:Nat}(h0:¬(↑63:Int)<(↑x0:Int)):x0<=1000:=eo (Int.ofNat_le.mp (Int.not_lt.mp h0)) (by decide)
theorem Ip{x0:Nat}:x0 % 2=0\/x0 % 2=1:=Nat.mod_two_eq_zero_or_one x0
theorem ajc{x0:Nat}:x0 % 30<12\/12<=x0 % 30/\x0 % 30<21\/21<=x0 % 30/\x0 % 30<30:=(by decide:∀x,x<30->(x<12\/12<=x/\x<21\/21<=x/\x<30)) _ (yo _ (by decide))
theorem ahS{x0:Nat}(h0:x0<12):x0=0\/x0=1\/x0=2\/x0=3\/x0=4\/x0=5\/x0=6\/x0=7\/x0=8\/x0=9\/x0=10\/x0=11:=(by decide:∀x,x<12->(x=0\/x=1\/x=2\/x=3\/x=4\/x=5\/x=6\/x=7\/x=8\/x=9\/x=10\/x=11)) _ h0
theorem akx{x0:Nat}(h0:12<=x0/\x0<21):x0=12\/x0=13\/x0=14\/x0=15\/x0=16\/x0=17\/x0=18\/x0=19\/x0=20:=(by decide:∀x,x<21->12<=x->(x=12\/x=13\/x=14\/x=15\/x=16\/x=17\/x=18\/x=19\/x=20)) _ h0.2 h0.1
theorem aid{x0:Nat}(h0:21<=x0/\x0<30):x0=21\/x0=22\/x0=23\/x0=24\/x0=25\/x0=26\/x0=27\/x0=28\/x0=29:=(by decide:∀x,x<30->21<=x->(x=21\/x=22\/x=23\/x=24\/x=25\/x=26\/x=27\/x=28\/x=29)) _ h0.2 h0.1
theorem Up{x0:Nat}:x0 % 3=0\/x0 % 3=1\/x0 % 3=2:=(by decide:∀x,x<3->(x=0\/x=1\/x=2)) _ (yo _ (by decide))
theorem TY{x0:Nat}(h0:x0<=1000):x0+100+100<=1000000:=bV [x0] [9,9,0,110,110] [1000010] [0] [1010] rfl h0
theorem ais{x0:Nat}:x0 % 4=0\/x0 % 4=1\/x0 % 4=2\/x0 % 4=3:=(by decide:∀x,x<4->(x=0\/x=1\/x=2\/x=3)) _ (yo _ (by decide))
theorem aku{x0:Nat}:x0 % 8=0\/x0 % 8=1\/x0 % 8=2\/x0 % 8=3\/x0 % 8=4\/x0 % 8=5\/x0 % 8=6\/x0 % 8=7:=(by decide:∀x,x<8->(x=0\/x=1\/x=2\/x=3\/x=4\/x=5\/x=6\/x=7)) _ (yo _ (by decide))
theorem aj2{x0 x1:Nat}(h0:x0<x1):x1-(x0+1)<x1:=Nat.sub_lt (pG (BO _) h0) (BG _)
theorem TN{x0:Nat}:mu x0<(0:Int):=Int.negSucc_lt_zero x0
theorem akF{x0 x1:Nat}:(mu x0+(↑x1:Int)).toNat=x1-(x0+1):=(congrArg Int.toNat (yd _ _)).trans (Int.toNat_sub x1 (x0+1))
theorem ajJ{x0 x1:Nat}(h0:¬x0<x1):0=x1-(-mu x0).toNat:=(WG (Ld (tG h0))).symm
theorem aie{x0:Int}(h0:x0<(9000000000000000000:Int)):x0<(2:Int) ^ 63:=E2 h0 (by decide)
theorem ako{x0 x1:Nat}{x2:Int}(h0:x0<x1)(h1:(x2+(↑x1:Int)).toNat=x0):x2<(0:Int):=Int.lt_of_not_ge λh=>vE _ (dm h0 (h1▸Int.ofNat_le.mp (BF (Int.le_add_of_nonneg_left h) (Int.self_le_toNat _))))
theorem akB{x0 x1:Nat}{x2:Int}(h0:x0=x1)(h1: -(↑x0:Int)<=x2): -(↑x1:Int)<=x2:=h0▸h1
theorem aiY{x0:Int}(h0:(-9000000000000000000:Int)<x0): -(2:Int) ^ 63<=x0:=BF (by decide) (ye h0)
theorem akw{x0 x1:Nat}(h0:x0+x1<=1000000):x0+x1<=16777216+1:=bV [x0,x1] [9,0,1] [9,16777226,11] [9,0,1] [1000010] rfl h0
theorem SE{x0 x1 x2 x3:Nat}(h0:x0=x1)(h1:x0+x2<=1000000)(h2:x2=x3):x1+x3<=1000000:=uT [x0,x1,x2,x3] [9,1,3] [1000010] [1] [0] [9,0,2] [1000010] [3] [2] rfl (aQ h0.symm) h1 (aQ h2.symm)
theorem ah2{x0 x1 x2:Nat}(h0:x0<=1000000)(h1:x0=x1)(h2:x2=0):x2+x1<=1000000:=uT [x0,x1,x2] [9,2,1] [1000010] [0] [1000010] [1] [0] [2] [10] rfl h0 (aQ h1.symm) (aQ h2)
theorem aiG{x0:Nat}:(-18446744073709551616:Int)<(↑x0:Int):=Rat.intCast_lt_intCast.mp rfl
theorem ajr{x0:Nat}(h0:x0<1000000000000):(↑x0:Int)<(18446744073709551616:Int):=E2 (Int.ofNat_lt.mpr h0) (by decide)
theorem IP{x0:Nat}:0<x0+1:=Nat.zero_lt_succ x0
theorem aks{x0 x1 x2:Nat}(h0:x0<=1099)(h1:x1=x2)(h2:x2<=3):2*x0+x1<=2201:=lz [x0,x1,x2] [9,7,12,0,1] [2211] [0] [1109] [0] [1109] [1] [2] [2] [13] rfl h0 h0 (aQ h1) h2
theorem ajX{x0 x1:Nat}(h0:x0+10<100000)(h1:x1<=3):x0+1+1+x1<100000:=fV [x0,x1] [9,9,9,9,0,11,11,1,11] [100010] [9,9,0,20,11] [100010] [1] [13] rfl h0 h1
theorem aib{x0 x1:Nat}(h0:x0<=3):x1+1+1+x0+1<=x1+10:=bV [x0,x1] [9,9,9,9,1,11,11,0,11] [9,1,20] [0] [13] rfl h0
theorem ajk{x0 x1:Nat}:x0<=x0+1+1+x1+1:=UM [x0,x1] 0 888809919 rfl
theorem ajC{x0:Int}:x0<=x0+(1:Int)+(1:Int)+(1:Int):=EV (EV (EV (yj _)))
theorem ah4{x0:Int}:x0+(1:Int)+(1:Int)+(1:Int)<=x0+(10:Int):=by rw[ya,ya];exact Int.add_le_add_left (by decide) _
theorem akb{x0:Nat}(h0:x0<=3):0+x0<=1000:=bV [x0] [9,10,0] [1010] [0] [13] rfl h0
theorem ajq{x0:Nat}(h0:x0<=1000):x0<=1000000:=bV [x0] [0] [1000010] [0] [1010] rfl h0
theorem aki{x0 x1:Nat}:Min.min x0 x1<=x0:=Lp x0 x1
theorem ajl{x0 x1 x2:Nat}(h0:x0<=x1):Min.min x2 x1-(x1- x0)=Min.min (x2-(x1- x0)) x0:=by rw[<-Nat.sub_min_sub_right,Nat.sub_sub_self h0]
theorem aiO{x0:Nat}:(-9000000000000000000:Int)<(↑x0:Int):=Rat.intCast_lt_intCast.mp rfl
theorem aif{x0:Nat}(h0:x0<1000000000):(↑x0:Int)<(9000000000000000000:Int):=E2 (Int.ofNat_lt.mpr h0) (by decide)
theorem ah0{x0:Nat}:¬x0+1=0:=Nat.add_one_ne_zero x0
theorem ajY{x0 x1 x2 x3 x4 x5:Nat}(h0:x0+x1<=x2)(h1:x3<=x4+x0)(h2:x5<=x3+x1):x5<=x4+x2:=VK [x0,x1,x2,x3,x4,x5] 5 842 801 2 3 840 5 831 rfl h0 h1 h2
theorem akD{x0 x1 x2 x3:Nat}(h0:x0<=x1)(h1:x2<=x3+x0):x2<=x3+x1:=fu [x0,x1,x2,x3] 2 831 0 1 2 830 rfl h0 h1
theorem aiZ{x0 x1 x2 x3:Nat}(h0:x0<=x1)(h1:x2<=x3):x0+x2<=x1+x3+2:=fV [x0,x1,x2,x3] [9,0,2] [9,9,1,3,12] [0] [1] [2] [3] rfl h0 h1
theorem aj7{x0:Nat}:x0<=x0+0:=Bp x0 0
theorem akk{x0:Nat}:x0<=x0+8*0:=Bp x0 (8*0)
theorem air{x0 x1 x2:Nat}(h0:x0=x1+40+(x2+1)):x0=x1+x2+41:=cO (bV [x0,x1,x2] [0] [9,9,1,2,51] [0] [9,9,1,50,9,2,11] rfl (aQ h0)) (bV [x0,x1,x2] [9,9,1,2,51] [0] [9,9,1,50,9,2,11] [0] rfl (aQ h0.symm))
theorem Jg{x0 x1:Nat}:x0+x1+40=x0+40+x1:=ED x0 x1 40
theorem Rb{x0 x1:Nat}(h0:x0+(x1+1)<=20000):x0+1+x1<=20000:=bV [x0,x1] [9,9,0,11,1] [20010] [9,0,9,1,11] [20010] rfl h0
theorem Rp{x0:Nat}:6+8*x0<=8*(x0+1):=gh [x0] [9,16,7,18,0] [7,18,9,0,11] rfl
theorem agw{x0 x1:Int}:x0- x1-(1:Int)=x0-(x1+(1:Int)):=Int.sub_sub x0 x1 1
theorem ago{x0 x1:Int}(h0:x0<x1)(h1:¬x0+(1:Int)<x1):x1- x0-(1:Int)=(0:Int):=Int.sub_eq_zero_of_eq (by rw[Int.sub_eq_iff_eq_add];exact(Int.le_antisymm (Int.not_lt.mp h1) h0).trans (yd _ _))
theorem Qt{x0 x1 x2:Nat}(h0:x0=x1)(h1:x0<=x2):x1<=x2:=h0▸h1
theorem af0{x0:Int}(h0:(-1000000000000:Int)<x0): -(2:Int) ^ 62<=x0:=BF (by decide) (ye h0)
theorem afz{x0:Int}(h0:x0<(1000000000000:Int)):x0<(2:Int) ^ 62:=E2 h0 (by decide)
theorem RI{x0:Nat}:(Max.max (0:Int) (↑x0:Int)).toNat=x0:=LU x0
theorem QN{x0 x1:Nat}(h0:x0+x1<=1000000):x1<=16777216+1:=bV [x0,x1] [1] [9,16777226,11] [9,0,1] [1000010] rfl h0
theorem aeQ{x0 x1 x2:Nat}(h0:x0=x1)(h1:x2<x0):(↑x2:Int)<(↑x1:Int):=Int.ofNat_lt.mpr (h0▸h1)
theorem aeR{x0 x1 x2:Nat}(h0:x0<=x1):x0+1<=x2+x1+2:=bV [x0,x1,x2] [9,0,11] [9,9,2,1,12] [0] [1] rfl h0
theorem HK{x0:Nat}:0+x0=x0:=rT x0
theorem agb{x0:Nat}(h0:x0<=1000):0+x0<=100000:=bV [x0] [9,10,0] [100010] [0] [1010] rfl h0
theorem Qu{x0 x1 x2:Nat}(h0:x0+4*(x1+1)+8<x2):x0+1+4*x1+8<x2:=bV [x0,x1,x2] [9,9,9,9,0,11,7,14,1,18,11] [2] [9,9,9,0,7,14,9,1,11,18,11] [2] rfl h0
theorem af1{x0 x1 x2:Nat}(h0:x0+40*(x1+1)+40<x2):x0+1+40*x1+40<x2:=bV [x0,x1,x2] [9,9,9,9,0,11,7,50,1,50,11] [2] [9,9,9,0,7,50,9,1,11,50,11] [2] rfl h0
theorem ahf{x0 x1:Nat}(h0:x0=x1+40+0):x0=x1+39+1:=cO (bV [x0,x1] [0] [9,9,1,49,11] [0] [9,9,1,50,10] rfl (aQ h0)) (bV [x0,x1] [9,9,1,49,11] [0] [9,9,1,50,10] [0] rfl (aQ h0.symm))
theorem Dk{x0 x1 x2:Nat}(h0:x0+(x1+1)=x2):(↑x0:Int)<(↑x2:Int):=Int.ofNat_lt.mpr (h0▸Nat.lt_add_of_pos_right (BG _))
theorem afc{x0 x1:Nat}(h0:x0=x1)(h1:¬40<x0):x1<=40:=fV [x0,x1] [1] [50] [1] [0] [0] [50] rfl (aQ h0.symm) (tG h1)
theorem RP{x0:Nat}:Min.min 40 x0<=40:=Lp 40 x0
theorem Q4{x0 x1:Int}(h0:x0=x1):x1<=x0:=Int.le_of_eq (id (yN h0))
theorem agC{x0:Nat}:2*x0+5=x0+(x0+0+2+1)+2:=cO (gh [x0] [9,7,12,0,15] [9,9,0,9,9,9,0,10,12,11,12] rfl) (gh [x0] [9,9,0,9,9,9,0,10,12,11,12] [9,7,12,0,15] rfl)
theorem aeZ{x0:Nat}:2*x0+5=x0+(x0+0+2)+2+1:=cO (gh [x0] [9,7,12,0,15] [9,9,9,0,9,9,0,10,12,12,11] rfl) (gh [x0] [9,9,9,0,9,9,0,10,12,12,11] [9,7,12,0,15] rfl)
theorem afU{x0:Nat}(h0:x0<1000000000):x0+1<2 ^ 40:=pG h0 (by decide)
theorem agM{x0 x1:Int}:x0+(x1- x0)+(0:Int)=x1:=by rw[Int.add_zero,yd,Int.sub_add_cancel]
theorem agO{x0:Nat}(h0:x0<=40):0+x0<=100:=bV [x0] [9,10,0] [110] [0] [50] rfl h0
theorem agV{x0 x1 x2:Nat}(h0:x0<=500)(h1:x1<=3/\x2<=x0):x2+1+x2<=1000000:=lz [x0,x2] [9,9,1,11,1] [1000010] [0] [510] [0] [510] [1] [0] [1] [0] rfl h0 h0 h1.2 h1.2
theorem Rr{x0 x1 x2:Nat}(h0:x0<=3/\x1<=x2):x0<=1000000:=bV [x0] [0] [1000010] [0] [13] rfl h0.1
theorem ae8{x0 x1 x2:Nat}(h0:x0<=500)(h1:x1<=3/\x2<=x0):1+x2<=1000000:=fV [x0,x2] [9,11,1] [1000010] [0] [510] [1] [0] rfl h0 h1.2
theorem aeW{x0 x1 x2:Nat}(h0:x0<=500)(h1:x1<=3/\x2<=x0):1+x2+x2<=1000000:=lz [x0,x2] [9,9,11,1,1] [1000010] [0] [510] [0] [510] [1] [0] [1] [0] rfl h0 h0 h1.2 h1.2
theorem agx{x0 x1:Nat}(h0:x0=x1+60+0):x0=x1+59+1:=cO (bV [x0,x1] [0] [9,9,1,69,11] [0] [9,9,1,70,10] rfl (aQ h0)) (bV [x0,x1] [9,9,1,69,11] [0] [9,9,1,70,10] [0] rfl (aQ h0.symm))
theorem afS{x0:Int}:x0<=x0+(↑0:Int):=Int.le.intro 0 rfl
theorem ae0{x0:Nat}:2*x0+5+5=(x0+5)*2:=by rw[Nat.add_mul,LV]
theorem agi{x0 x1:Nat}:x0+x1+60=x0+60+x1:=cO (gh [x0,x1] [9,9,0,1,70] [9,9,0,70,1] rfl) (gh [x0,x1] [9,9,0,70,1] [9,9,0,1,70] rfl)
theorem QC{x0 x1:Nat}(h0:x0+(x1+1)<100000):x0+1+x1<100000:=bV [x0,x1] [9,9,9,0,11,1,11] [100010] [9,9,0,9,1,11,11] [100010] rfl h0
theorem aga{x0 x1 x2 x3 x4 x5:Nat}(h0:x0=x1)(h1:x2=x0)(h2:x3=x2)(h3:x3<=x4)(h4:x4<=x5):x1<=x5:=eo (aQ (h0.symm.trans (h1.symm.trans h2.symm))) (eo h3 h4)
theorem agR{x1:Nat}{x0:Int}(h0:x0<(1000000000:Int)):x0≠(1000000000:Int)+(↑x1:Int):=Int.ne_of_lt (Bl h0 (Wo (EB _)))
theorem afG{x1:Nat}{x0:Int}(h0:x0<(1000000000:Int)):(1000000000:Int)+(↑x1:Int)≠x0:=(Int.ne_of_lt (Bl h0 (Wo (EB _)))).symm
theorem af4{x0 x1:Nat}(h0:x0+1≠x1+1):(1000000000:Int)+(↑x0:Int)≠(1000000000:Int)+(↑x1:Int):=λh=>h0 (congrArg (· +1) (LA (WT h)))
theorem RN{x0:Nat}:x0<x0+1:=Nat.lt_add_one x0
theorem agn{x0 x1:Nat}:2*(x0+1)+x1=2*x0+x1+0+2:=cO (gh [x0,x1] [9,7,12,9,0,11,1] [9,9,9,7,12,0,1,10,12] rfl) (gh [x0,x1] [9,9,9,7,12,0,1,10,12] [9,7,12,9,0,11,1] rfl)
theorem ahC{x0:Nat}:x0<=2*0+x0:=Nat.le_add_left x0 (2*0)
theorem agS{x0 x1:Nat}:1<=2*(x0+1)+x1:=gh [x0,x1] [11] [9,7,12,9,0,11,1] rfl
theorem ahy{x0 x1 x2:Nat}(h0:x0+(x1+1)=x2+1):(↑x0:Int)<=(↑x2:Int):=Int.ofNat_le.mpr (qO h0▸Bp _ _)
theorem ag0{x0:Nat}:x0<=x0+6*0:=Bp x0 (6*0)
theorem ahG{x0 x1:Nat}:x0+x1+41=x0+41+x1:=ED x0 x1 41
theorem ahi{x0 x1:Nat}:x0+x1+57=x0+13+x1+44:=cO (gh [x0,x1] [9,9,0,1,67] [9,9,9,0,23,1,54] rfl) (gh [x0,x1] [9,9,9,0,23,1,54] [9,9,0,1,67] rfl)
theorem aeS{x0:Nat}(h0:x0=948\/x0=943\/x0=936\/x0=931):x0<1190:=by rcases h0 with rfl|rfl|rfl|rfl<;>decide
theorem Ry{x0 x1:Nat}:x0+(x1+1)=x0+1+x1:=yN (Wt x0 x1)
theorem Rq{x0:Nat}(h0:x0=948\/x0=943\/x0=936\/x0=931):x0<1000:=by rcases h0 with rfl|rfl|rfl|rfl<;>decide
theorem ahA{x0:Int}(h0:x0<(0:Int)): -x0=(↑x0.natAbs:Int):=(Int.ofNat_natAbs_of_nonpos (ye h0)).symm
theorem ahz{x0:Int}(h0:¬x0<(0:Int)):x0=(↑x0.natAbs:Int):=(Int.natAbs_of_nonneg (Int.not_lt.mp h0)).symm
theorem aeM{x0 x1:Nat}(h0:x0<=1000000)(h1:x0=x1):(↑x1:Int)<(2:Int) ^ 63:=Int.ofNat_lt.mpr (pG (h1▸h0) (by decide))
theorem aeJ{x0 x1 x2:Int}(h0:x0=x1):x2+x0=x2+x1:=(Int.add_right_inj x2).mpr h0
theorem agZ{x0 x1:Nat}:(↑(x0+x1):Int)+(↑0:Int)=(↑x0:Int)+(↑x1:Int):=rfl
theorem HG{x0 x1 x2:Nat}(h0:x0+(x1+1)<x2):x0+1+x1<x2:=dI [x0,x1,x2] 8880919 2 8808199 2 rfl h0
theorem ahP{x0:Nat}(h0:x0<=19000):0+x0<=100000:=bV [x0] [9,10,0] [100010] [0] [19010] rfl h0
theorem ahD{x0:Nat}(h0:x0<=19000):0+x0<=20000:=bV [x0] [9,10,0] [20010] [0] [19010] rfl h0
theorem ag5{x0:Nat}(h0:x0<=19000):1+x0<=40000:=bV [x0] [9,11,0] [40010] [0] [19010] rfl h0
theorem afy{x0 x1 x2:Nat}(h0:x0+4*x1+8<x2):x0+4*0+8<x2:=bV [x0,x1,x2] [9,9,9,0,7,14,10,18,11] [2] [9,9,9,0,7,14,1,18,11] [2] rfl h0
theorem agf{x0 x1 x2:Nat}(h0:x0+40*x1+40<x2):x0+40*0+40<x2:=bV [x0,x1,x2] [9,9,9,0,7,50,10,50,11] [2] [9,9,9,0,7,50,1,50,11] [2] rfl h0
theorem ahg{x0 x1:Nat}(h0:x0<=1000)(h1:x1<=x0+1):x1<=16777216+1:=fV [x0,x1] [1] [9,16777226,11] [0] [1010] [1] [9,0,11] rfl h0 h1
theorem Rm{x0:Nat}:(-1000000000000:Int)<(↑x0:Int):=Rat.intCast_lt_intCast.mp rfl
theorem QS{x0:Nat}(h0:x0<=10000):(↑x0:Int)<(1000000000000:Int):=Int.ofNat_lt.mpr (pG h0 (by decide))
theorem afI{x0 x1:Nat}:x0+x1+57=x0+16+41+x1:=cO (gh [x0,x1] [9,9,0,1,67] [9,9,9,0,26,51,1] rfl) (gh [x0,x1] [9,9,9,0,26,51,1] [9,9,0,1,67] rfl)
theorem Q8{x0:Nat}:(-1000000000000:Int)<(↑(1+x0):Int):=Rat.intCast_lt_intCast.mp rfl
theorem QO{x0 x1:Nat}(h0:x0<=6)(h1:x1<=x0):(↑(1+x1):Int)<(1000000000000:Int):=Int.ofNat_lt.mpr (pG (vA (eo h1 h0) 1) (by decide))
theorem afW{x0 x1 x2 x3:Nat}(h0:x0=x1)(h1:x2=x1+1)(h2:x3=x2+1)(h3:0+(1170+(0+(1+1)))<=x3+(0+(0+(0+0)))):1002≠x0:=iJ (lz [x0,x1,x2,x3] [9,1012,11] [0] [1] [0] [2] [9,1,11] [3] [9,2,11] [9,10,9,1180,9,10,9,11,11] [9,3,9,10,9,10,9,10,10] rfl (aQ h0.symm) (aQ h1) (aQ h2) h3)
theorem af7{x0 x1 x2 x3:Nat}(h0:x0=x1)(h1:x2=x1+1)(h2:x3=x2+1)(h3:0+(1170+(0+(1+1)))<=x3+(0+(0+(0+0)))):1003≠x0:=iJ (lz [x0,x1,x2,x3] [9,1013,11] [0] [1] [0] [2] [9,1,11] [3] [9,2,11] [9,10,9,1180,9,10,9,11,11] [9,3,9,10,9,10,9,10,10] rfl (aQ h0.symm) (aQ h1) (aQ h2) h3)
theorem ahK{x0 x1:Nat}(h0:x0<=6)(h1:x1<=x0):1+x1<=7:=fV [x0,x1] [9,11,1] [17] [0] [16] [1] [0] rfl h0 h1
theorem agm{x0:Nat}:0+(1+x0)=1+x0:=BE 0 (1+x0)
theorem aeI{x0:Nat}:0<1+x0:=Nat.pos_of_neZero (1+x0)
theorem agp{x0:Nat}(h0:2 ^ (1+x0)<=2 ^ 7):(2+5)*2 ^ (1+x0)<=1000:=eo (jb 7 h0) (by decide)
theorem agh{x0 x1:Nat}(h0:x0<=6)(h1:x1<=x0):3+(1+x1)<100000:=fV [x0,x1] [9,9,13,9,11,1,11] [100010] [0] [16] [1] [0] rfl h0 h1
theorem ag6{x0 x1:Nat}(h0:0+(1170+(0+(1+1)))<=x0+(0+(0+(0+0))))(h1:x1<1115):x1<x0:=fV [x0,x1] [9,1,11] [0] [9,10,9,1180,9,10,9,11,11] [9,0,9,10,9,10,9,10,10] [9,1,11] [1125] rfl h0 h1
theorem af3{x0 x1 x2 x3:Nat}(h0:x0=x1)(h1:x2=x1+1)(h2:0+(1170+(0+(1+1)))<=x2+(0+(0+(0+0))))(h3:x3<1115):x3≠x0:=iJ (lz [x0,x1,x2,x3] [9,3,11] [0] [1] [0] [2] [9,1,11] [9,10,9,1180,9,10,9,11,11] [9,2,9,10,9,10,9,10,10] [9,3,11] [1125] rfl (aQ h0.symm) (aQ h1) h2 h3)
theorem agj:1002<1115:=WH rfl
theorem ahx:1002≠1005:=KR rfl
theorem agJ:1003<1115:=WH rfl
theorem afr:1003≠1005:=Ne.symm (KR rfl)
theorem ae4{x0 x1 x2 x3 x4:Nat}(h0:1115<x0/\1116<x0/\x1<x0)(h1:x0+(1+(0+1))<=x2+(0+(0+0)))(h2:x2<=x3)(h3:x4=x3):1002<x4/\1003<x4:=⟨lz [x0,x2,x3,x4] [9,1012,11] [3] [9,1125,11] [0] [9,0,9,11,9,10,11] [9,1,9,10,9,10,10] [1] [2] [2] [3] rfl h0.1 h1 h2 (aQ h3.symm),lz [x0,x2,x3,x4] [9,1013,11] [3] [9,1125,11] [0] [9,0,9,11,9,10,11] [9,1,9,10,9,10,10] [1] [2] [2] [3] rfl h0.1 h1 h2 (aQ h3.symm)⟩
theorem agW{x0 x1 x2 x3 x4:Nat}(h0:0+(1170+(0+(1+1)))<=x0+(0+(0+(0+0))))(h1:x0<=x1)(h2:x1+(1+(0+1))<=x2+(0+(0+0)))(h3:x2<=x3)(h4:x4=x3):1170<=x4:=h4▸eo (eo (eo (eo (by decide) h0) h1) (eo (Bp _ _) h2)) h3
theorem aeO{x0 x1:Nat}(h0:x0<=0)(h1:x1<=0):x0=x1:=cO (dI [x0,x1] 0 1 0 7 rfl h0) (dI [x0,x1] 1 0 1 7 rfl h1)
theorem Ru{x0 x1:Nat}(h0:x0+1<=x1+1):(x0+1) / 256<=x1:=EH (dm (Nat.div_lt_self (BG _) (by decide)) h0)
theorem af2{x0 x1 x2 x3 x4 x5:Nat}(h0:1001<=x0)(h1:x1=x2)(h2:(x3<1001->x1=x3)/\(x3=1002->x1=x0)/\(x3=1003->x1=x4))(h3:(x5<1001->x2=x5)/\(x5=1002->x2=x0)/\(x5=1003->x2=x4))(h4:x3<1001)(h5:x5=1002):x3=x5:=absurd (h2.1 h4) (vH (dm h4 (h1.trans (h3.2.1 h5)▸h0)))
theorem ahE{x0 x1 x2 x3 x4 x5:Nat}(h0:1001<=x0)(h1:x1=x2)(h2:(x3<1001->x1=x3)/\(x3=1002->x1=x4)/\(x3=1003->x1=x0))(h3:(x5<1001->x2=x5)/\(x5=1002->x2=x4)/\(x5=1003->x2=x0))(h4:x3<1001)(h5:x5=1003):x3=x5:=absurd (h2.1 h4) (vH (dm h4 (h1.trans (h3.2.2 h5)▸h0)))
theorem ahh{x0 x1 x2 x3 x4 x5:Nat}(h0:1001<=x0)(h1:x1=x2)(h2:(x3<1001->x1=x3)/\(x3=1002->x1=x0)/\(x3=1003->x1=x4))(h3:(x5<1001->x2=x5)/\(x5=1002->x2=x0)/\(x5=1003->x2=x4))(h4:x3=1002)(h5:x5<1001):x3=x5:=absurd (h3.1 h5) (vH (dm h5 (h1.symm.trans (h2.2.1 h4)▸h0)))
theorem af8{x0 x1:Nat}(h0:x0=1002)(h1:x1=1002):x0=x1:=cO (fV [x0,x1] [0] [1] [0] [1012] [1012] [1] rfl (aQ h0) (aQ h1.symm)) (fV [x0,x1] [1] [0] [1012] [0] [1] [1012] rfl (aQ h0.symm) (aQ h1))
theorem agl{x0 x1 x2 x3 x4 x5:Nat}(h0:x0≠x1)(h1:x2=x3)(h2:(x4<1001->x2=x4)/\(x4=1002->x2=x0)/\(x4=1003->x2=x1))(h3:(x5<1001->x3=x5)/\(x5=1002->x3=x0)/\(x5=1003->x3=x1))(h4:x4=1002)(h5:x5=1003):x4=x5:=absurd ((h2.2.1 h4).symm.trans (h1.trans (h3.2.2 h5))) h0
theorem aeY{x0 x1 x2 x3 x4 x5:Nat}(h0:1001<=x0)(h1:x1=x2)(h2:(x3<1001->x1=x3)/\(x3=1002->x1=x4)/\(x3=1003->x1=x0))(h3:(x5<1001->x2=x5)/\(x5=1002->x2=x4)/\(x5=1003->x2=x0))(h4:x3=1003)(h5:x5<1001):x3=x5:=absurd (h3.1 h5) (vH (dm h5 (h1.symm.trans (h2.2.2 h4)▸h0)))
theorem afx{x0 x1 x2 x3 x4 x5:Nat}(h0:x0≠x1)(h1:x2=x3)(h2:(x4<1001->x2=x4)/\(x4=1002->x2=x0)/\(x4=1003->x2=x1))(h3:(x5<1001->x3=x5)/\(x5=1002->x3=x0)/\(x5=1003->x3=x1))(h4:x4=1003)(h5:x5=1002):x4=x5:=absurd ((h3.2.1 h5).symm.trans (h1.symm.trans (h2.2.2 h4))) h0
theorem afa{x0 x1:Nat}(h0:x0=1003)(h1:x1=1003):x0=x1:=cO (fV [x0,x1] [0] [1] [0] [1013] [1013] [1] rfl (aQ h0) (aQ h1.symm)) (fV [x0,x1] [1] [0] [1013] [0] [1] [1013] rfl (aQ h0.symm) (aQ h1))
theorem ae7{x0 x1 x2 x3:Nat}(h0:x0<=x1)(h1:x2<x0/\x3<x0):x2<x1/\x3<x1:=⟨fu [x0,x1,x2] 829 1 0 1 829 0 rfl h0 h1.1,fu [x0,x1,x3] 829 1 0 1 829 0 rfl h0 h1.2⟩
theorem ags{x0 x1:Nat}(h0:x0=x1+1):x1<=x0:=Nat.le.intro (id (yN h0))
theorem aeX{x0 x1 x2 x3:Nat}(h0:x0<x1/\x2<x1)(h1:x3=x1):x0≠x3:=iJ (fu [x0,x1,x3] 809 2 809 1 1 2 rfl h0.1 (aQ h1.symm))
theorem afZ{x0 x1 x2 x3:Nat}(h0:x0<x1/\x2<x1)(h1:x3=x1):x2≠x3:=iJ (fu [x1,x2,x3] 819 2 819 0 0 2 rfl h0.2 (aQ h1.symm))
theorem afB{x0 x1 x2:Nat}(h0:x0+40*(x1+1)+40<x2):x0+3+40*x1+40<x2:=bV [x0,x1,x2] [9,9,9,9,0,13,7,50,1,50,11] [2] [9,9,9,0,7,50,9,1,11,50,11] [2] rfl h0
theorem aeU{x0 x1:Nat}(h0:x0<=10000000000)(h1:x1<100000):x0+x1<100000000000:=fV [x0,x1] [9,9,0,1,11] [100000000010] [0] [10000000010] [9,1,11] [100010] rfl h0 h1
theorem ahs{x0 x1:Nat}(h0:x0+(x1+1)<=1000):x0<=1000000:=bV [x0,x1] [0] [1000010] [9,0,9,1,11] [1010] rfl h0
theorem agv{x0 x1:Nat}(h0:x0+(x1+1)<=1000):x0+1+x1<=1000:=bV [x0,x1] [9,9,0,11,1] [1010] [9,0,9,1,11] [1010] rfl h0
theorem afH{x0 x1:Nat}:x0+1+x1=x0+(x1+1):=Wt x0 x1
theorem agg{x0:Nat}(h0:x0<=20):x0+10<100000:=bV [x0] [9,9,0,20,11] [100010] [0] [30] rfl h0
theorem ahm{x0:Int}(h0:x0<=(29:Int)):x0+(1:Int)<(1000000000:Int):=Int.lt_of_le_of_lt (WK h0 1) (by decide)
theorem agT{x0 x1:Nat}(h0:1000000000=x0)(h1:x1<=200000):x1+60000<x0:=fV [x0,x1] [9,9,1,60010,11] [0] [1000000010] [0] [1] [200010] rfl (aQ h0) h1
theorem ahu{x0 x1:Nat}(h0:x0<=20)(h1:x1<=x0+10):x1<=40:=fV [x0,x1] [1] [50] [0] [30] [1] [9,0,20] rfl h0 h1
end Mine
end
section
set_option backward.match.sparseCases true
namespace Mine
open PySem PySem.W PySem.Calls PyProof.Rows
noncomputable section
noncomputable def goN(st:jK->mF->Option (jK×mF))(ok:mF->Bool):Nat->jK->mF->Option (jK×mF)
 |0,s,t=>aa (s,t)
 |n+1,s,t=>match through t with
  |true=>aa (s,t)
  |false=>match ok t with
   |false=>af
   |true=>match st s t with
    |some (s',t')=>goN st ok n s' t'
    |none=>af
noncomputable def GR{I:Type}(x:Nat)(f:Nat->I):I:=match x with
 |0=>f 0
 |k+1=>f (k+1)
theorem M9{I:Type}(x:Nat)(f:Nat->I):GR x f=f x:=by cases x<;>rfl
noncomputable def norm{I:Type}(os:jL)(s:jK)(f:jK->Option I):Option I:=match aH s.gens.size 0 with
 |true=>GR s.n λn=>GR s.toks λk=>f ⟨s.tree,n,s.life,#[],s.drawn,k,os⟩
 |false=>af
noncomputable def wY(os:jL)(st:jK->mF->Option (jK×mF))(ok:mF->Bool)(c:Nat):Nat->jK->mF->Option (jK×mF)
 |0,s,t=>aa (s,t)
 |m+1,s,t=>match goN st ok c s t with
  |some (s',t')=>norm os s' λs''=>wY os st ok c m s'' t'
  |none=>af
section
variable{p:yO}{w:bX}{n0_:Nat}{ann:Option ay}{tb:String->Option Builtin}
theorem agc{t:mF}(h:stepOk n0_ ann t=ah):(match t.cur with| .os .. =>ak|_=>ah)=ah:=by have h:=(Bool.and_eq_true_iff.mp h).2;generalize t.cur=c at h ⊢;cases c<;>first|rfl|exact h
theorem abI:∀{n N:Nat} {s s':jK} {r:aE} {t t':mF},goN (stepT (denote tb) p w) (stepOk n0_ ann) n s t=aa (s',t')->s'.os=s.os/\(topRun tb p w n0_ ann N s'.abs t'=aa r->topRun tb p w n0_ ann (n+N) s.abs t=aa r):=by
 intro n;induction n with
 |zero=>intro N s s' r t t' h;cases h;exact⟨rfl,λk=>by rw[rT];exact k⟩
 |succ n ih=>
  intro N s s' r t t' h;unfold goN at h;cases ht:through t with
  |true=>rw[ht]at h;cases h;exact⟨rfl,λk=>by rw[BE];exact topRun_mono _ _ _ _ _ k⟩
  |false=>
   rw[ht]at h;cases hk:stepOk n0_ ann t with
   |false=>rw[hk]at h;cases h
   |true=>
    rw[hk]at h;cases hs:stepT (denote tb) p w s t with
    |none=>rw[hs]at h;cases h
    |some x=>obtain⟨s2_,t2_⟩:=x;rw[hs]at h;have a:=stepT_spec hs;have b:=ih (N:=N) (r:=r) h;refine⟨b.1.trans (step_os_same a (agc hk)),λk=>?_⟩;rw[show n+1+N=n+N+1 from ED n 1 N];unfold topRun;rw[ht,hk,a];exact b.2 k
theorem acg(c:Nat):∀{m N:Nat} {s s':jK} {r:aE} {t t':mF},wY s.os (stepT (denote tb) p w) (stepOk n0_ ann) c m s t=aa (s',t')->topRun tb p w n0_ ann N s'.abs t'=aa r->topRun tb p w n0_ ann (c*m+N) s.abs t=aa r:=by
 intro m;induction m with
 |zero=>intro N s s' r t t' h k;cases h;rw[Nat.mul_zero,rT];exact k
 |succ m ih=>
  intro N s s' r t t' h k;unfold wY at h;cases hs:goN (stepT (denote tb) p w) (stepOk n0_ ann) c s t with
  |none=>rw[hs]at h;cases h
  |some x=>
   obtain⟨s2_,t2_⟩:=x;rw[hs]at h;have h:norm s.os s2_ (λs''=>wY s.os (stepT (denote tb) p w) (stepOk n0_ ann) c m s'' t2_)=aa (s',t'):=h;unfold norm at h;cases hg:aH s2_.gens.size 0 with
   |false=>rw[hg]at h;cases h
   |true=>
    rw[hg]at h;have h:wY s.os (stepT (denote tb) p w) (stepOk n0_ ann) c m ⟨s2_.tree,s2_.n,s2_.life,#[],s2_.drawn,s2_.toks,s.os⟩ t2_=aa (s',t'):=by rw[<-h];dsimp only;rw[M9,M9]
    have g:s2_.gens= #[]:=Wm (cG hg);have b:=abI (N:=c*m+N) (r:=r) hs;rw[Nat.mul_succ,BE (c*m) c,Nat.add_assoc];refine b.2 ?_;have e:=ih (s:=⟨s2_.tree,s2_.n,s2_.life,#[],s2_.drawn,s2_.toks,s.os⟩) h k;rw[<-b.1,<-g]at e;exact e
end
noncomputable def SY{I:Type}:List I->List I
 |a::_::l=>a::SY l
 |l=>l
noncomputable def QJ{I:Type}:List I->List I
 |_::b::l=>b::QJ l
 |_=>[]
noncomputable def bt:Nat->List Obj->BT
 |0,_=>.nil
 |_,[]=>.nil
 |n+1,o::l=>.node o (bt n (SY l)) (bt n (QJ l))
noncomputable abbrev pr:yO:=PySem.Challenge.pw_pq0494_01
noncomputable abbrev lw:=PySem.Challenge.rw_pq0494_01
noncomputable def q0:yO:=view pr [89]
@[irreducible] noncomputable def sX(w:bX):jL:=match fencedOpening treeTable pr w 8001 with
 |some s=>s.os
 |none=>default
noncomputable def D8(w:bX):jK:=⟨bt 6 (iV w.params).objs.toList,11,(iV w.params).life,#[],yp,yv,sX w⟩
noncomputable abbrev Qy:=@PySem.W.Fast.tw10156331382660048174
noncomputable abbrev Wc:=@PySem.W.Fast.tw6613529449190102663
noncomputable abbrev TG:=@PySem.W.Fast.tw11892475500146522536
noncomputable abbrev TS:=@PySem.W.Fast.tw14364793385576792824
@[irreducible] noncomputable def fin(w:bX):Option (jK×mF):=wY (sX w) (Qy (TG TS) pr w) (Wc 11 (aa (.ref 6))) 250 32 (D8 w) (topStub pr)
@[irreducible] noncomputable def endOf(w:bX):Option jK:=match fin w with
 |some (s,t)=>(match through t with|true=>aa s|false=>af)
 |none=>af
theorem boot_abs(P:Params):absHeap (bt 6 (iV P).objs.toList) 11 (iV P).life=iV P:=by kernel_rfl
theorem abY(w:bX):(D8 w).abs=⟨iV w.params,#[],yp,yv,sX w⟩:=by show Shared.mk (absHeap (bt 6 (iV w.params).objs.toList) 11 (iV w.params).life) _ _ _ _=_;rw[boot_abs];rfl
theorem Zj{w:bX}{s:jK}(h:endOf w=aa s):topRun treeTable pr w 11 (aa (.ref 6)) 8001 ⟨iV w.params,#[],yp,yv,sX w⟩ (topStub pr)=aa s.abs:=by
 unfold endOf at h;cases hf:fin w with
 |none=>rw[hf]at h;cases h
 |some x=>
  obtain⟨s',t'⟩:=x;rw[hf]at h;cases ht:through t' with
  |false=>dsimp only at h;rw[ht]at h;cases h
  |true=>
   dsimp only at h;rw[ht]at h;cases h;unfold fin at hf;rw[show Qy=@stepT from PySem.W.Fast.te10156331382660048174.symm,show Wc=@stepOk from PySem.W.Fast.te6613529449190102663.symm,show TG=@denote from PySem.W.Fast.te11892475500146522536.symm,show TS=@treeTable from PySem.W.Fast.te14364793385576792824.symm]at hf;have k:topRun treeTable pr w 11 (aa (.ref 6)) 1 s.abs t'=aa s.abs:=by unfold topRun;rw[ht]
   have e:=acg 250 (s:=D8 w) hf k;rw[abY]at e;exact e
theorem Zf(w:bX):fencedOpening treeTable pr w 8001=aa ⟨iV w.params,#[],yp,yv,sX w⟩:=by
 have h:=boot_open (p:=pr) (N:=8001) (by kernel_rfl) (by decide) (λs=>by kernel_rfl) w;refine aV (Option.map_eq_some_iff.mp h) λdQ e e'=>?_;obtain⟨h,gs,d,k,os⟩:=dQ;obtain⟨rfl,rfl,rfl,rfl⟩:h=iV w.params/\gs= #[]/\d=yp/\k=yv:=by simpa using e'
 rw[show sX w=os from by unfold sX;rw[e]];exact e
theorem Zh(P:Params):((iV P).isNs eY,(iV P).objs.size,(iV P).nsMap eY "__annotations__")=(ah,11,aa (.ref 6)):=by kernel_rfl
theorem abT{q:yO}{loose:List Str}{Xt:aE->Bool}{I:Type}{Yf:aE->I}{Ya:bX->I}
  (looks:∀w:bX,∃s,endOf w=aa s/\(staticsOk (importedModules pr.main.body) (iV w.params) s.abs.heap&&namesBound pr s.abs.heap&&gensDone s.abs&&laidKept (iV w.params) s.abs.heap)=ah/\
   openSeen q loose (importedModules pr.main.body) Xt ah s.abs=openGood q loose/\Yf s.abs=Ya w):LeftO pr q loose Xt Yf Ya 8001:=λw=>by
 refine C9 (looks w) λs hs l1 l2 l3=>?_;have z:=Zh w.params;have z1:=congrArg Prod.fst z;have z2:=congrArg (λx=>x.2.1) z;have z3:=congrArg (λx=>x.2.2) z;dsimp only at z1 z2 z3;have t:topFrom treeTable pr w 8001 ⟨iV w.params,#[],yp,yv,sX w⟩=aa s.abs:=by unfold topFrom;dsimp only;rw[z1,z2,z3,Zj hs];show(match staticsOk (importedModules pr.main.body) (iV w.params) s.abs.heap&&namesBound pr s.abs.heap&&gensDone s.abs&&laidKept (iV w.params) s.abs.heap with|true=>_|false=>_)=_;rw[l1]
 unfold openEnds;rw[Zf w];show(topFrom treeTable pr w 8001 _).map _=_;rw[t];exact congrArg aa (Prod.ext l2 l3)
end
end Mine
end
section
namespace Mine
open PySem PySem.W PySem.Calls PyProof.Rows
theorem q1:sreFenced pr.main=ah:=by rw[show sreFenced=_ from Fast.te11788848310118352699];kernel_rfl
theorem q2:((moduleNames pr.main.body).isEmpty||lookedIntoSs (moduleNames pr.main.body) pr.main.body)=ah:=by kernel_rfl
theorem q3:namesResolve pr=ah:=by rw[show namesResolve=_ from Fast.te8377067652309620493];kernel_rfl
theorem q4:pr.boundNames.all (λn=> !worldNames.contains n)=ah:=by rw[show worldNames=_ from Fast.te14412699480532031325];kernel_rfl
theorem q5:noRoadLSs {strict:= !(importedModules pr.main.body).all cThrough.contains,foot:=af,bare:=(["vars", "dir", "locals"]:List Str).filter (readsOut pr pr.main.body)} pr.main.body=ah:=by rw[show noRoadLSs=_ from Wq,show readsOut=_ from Fast.te13343964577679436407];kernel_rfl
theorem q6:(namesMeet pr pr.main.body λ_ n=>attrL n)=ah:=by rw[show namesMeet=_ from Ep,show attrL=_ from Fast.te17868728402115742887];kernel_rfl
theorem p1:OpenRow.wellSaid lw.row=ah:=by
 have hl:looksOpen lw.row.prog=ah:=by unfold looksOpen;exact BW (BW (BW (BW (BW q1 q2) q3) q4) q5) q6
 unfold OpenRow.wellSaid OpenRow.partSaid;rw[hl];kernel_rfl
theorem p6:noRoadLSs {strict:=ah,foot:=aa lw.bound',writes:=lw.writes,may:=lw.may} lw.footing=ah:=by rw[show noRoadLSs=_ from Wq];kernel_rfl
theorem p9:lw.bound'.all (λn=> !builtinNamed n||lw.about==[n]|| !lw.reads n)=ah:=by rw[show builtinNamed=_ from Fast.named_eq];kernel_rfl
theorem sN:(namesMeet lw.prog lw.footing (λsc n=>(!(["type", "isinstance", "issubclass", "getattr", "hasattr"]:List Str).contains n||sc.names.lookup n==aa .globalImplicit)&&
  (lw.may != aa n||sc.kind== .module||sc.names.lookup n==aa .globalImplicit)))=ah:=by rw[show namesMeet=_ from Ep];kernel_rfl
theorem sW:lw.own.all (λn=> !builtinNamed n)=ah:=by rw[show builtinNamed=_ from Fast.named_eq];kernel_rfl
theorem oW:namesMeet lw.prog lw.above (λ_ n=> !lw.own.contains n)=ah:=by rw[show namesMeet=_ from Ep];kernel_rfl
theorem rF:(namesMeet lw.prog lw.footing λsc n=>sc.kind== .module||sc.names.lookup n != aa .globalExplicit)=ah:=by rw[show namesMeet=_ from Ep];kernel_rfl
theorem said:lw.wellSaid=ah:=by unfold OpenLaw.wellSaid;rewrite[p1,p6,p9,sN,sW,oW,rF];kernel_rfl
theorem akl:importsNone q0=ah:=by kernel_rfl
theorem ok0:(chainsOk q0&&opensWell pr&&(frees lw.row.toRowW&&lw.row.toRowW.within.isEmpty))=ah:=by kernel_rfl
theorem ag8:lw.row.toRowW.prog.bare:=⟨rfl,rfl,rfl,rfl,rfl,by decide+kernel⟩
theorem ajK:lw.row.toRowW.promised:=⟨[ofPy (PyData.list [])],by decide+kernel,by decide+kernel⟩
inductive AI where
 |lit (i:Int)
 |var (k:Nat) (off:Int)
 deriving DecidableEq
inductive AV where
 |none
 |bool (b:Bool)
 |int (i:AI)
 |str (s:List Nat)
 |ref (x:Nat)
 |adr (a:Nat)
 |bi (k:Nat)
 |ty (k:Nat)
 |top
inductive CE where
 |none
 |tt (b:Bool)
 |int (i:Int)
 |str (s:List Nat)
 |loc (k:Nat)
 |bh (k:Nat)
 |az (a:AV)
 |gu (a b:CE)
 |iZ (a b:CE)
 |neg (e:CE)
 |dU (e:CE)
 |bin (o:jI) (a b:CE)
 |ite (t a b:CE)
 |cmp (a:CE) (o:lO) (b:CE)
 |k8 (a:CE) (o:lO) (b:CE) (o':lO) (c:CE)
 |list (es:List CE)
 |tup (es:List CE)
 |dict (kvs:List (CE×CE))
 |call (f:CE) (as:List CE)
 |aY (o:CE) (m:Nat) (as:List CE)
 |attr (o:CE) (a:Nat)
 |sub (o i:CE)
 |slice (l u:Option CE)
 |comp (elt:CE) (tgt:Nat) (own:Bool) (src:CE) (test:Option CE) (free:List Nat)
 |lam (line col:Nat) (body:CE) (free:List Nat)
 |jx (es:List CE)
 |fmt (e:CE)
 |bad
inductive CT where
 |nm (k:Nat) (cell:Bool)
 |at(o:CE) (a:Nat)
 |sb (o i:CE)
 |tp (ts:List CT)
inductive CS where
 |expr (e:CE)
 |ret (e:CE)
 |asg (t:CT) (e:CE)
 |sD (t:CT) (e:CE)
 |iO (ks:List Nat) (e:CE)
 |aug (o:CE) (a:Nat) (op:jI) (e:CE)
 |iff (t:CE) (a b:List CS)
 |dS (t:CE) (b:List CS)
 |eF (t:CT) (e:CE) (b:List CS)
 |Dq (e:CE)
 |IU (b:List CS) (cls:CE) (name:Nat) (h:List CS)
 |uK (k:Nat) (cell:Bool) (op:jI) (e:CE)
 |cont
 |brk
 |bad
inductive AK where
 |str (s:List Nat)
 |int (i:AI)
inductive AO where
 |list (xs:List AV)
 |tup (xs:List AV)
 |ns (kvs:List (Nat×AV))
 |dict (kvs:List (AK×AV))
 |inst (C:aG) (d:Nat)
 |cell (v:Option AV)
 |jO (src:Nat) (i:Nat)
 |nD (src:AV) (i:Nat)
 |lY (stop:Int)
 |gX (cur stop:Int)
 |slice (l u:AV)
 |exc (C:aG) (d:Option Nat) (a:Nat) (tb:Option Nat)
 |fQ (fl:Option Nat)
 |fn (own:Nat) (cells:List (Nat×Nat)) (code:Nat) (body:CE)
 |tab (made:List (Nat×Nat×Nat))
 |code (own:Nat)
 |gw (l:Nat) (j:Nat)
 |gZ (j:Nat)
 |rep (n:Nat) (i:Int)
 |iD
 |any
structure St where
 get:Nat->Option AO
 next:Nat
noncomputable def St.put(U:St)(x:Nat)(o:AO):St:=⟨λy=>if y=x then aa o else U.get y,U.next⟩
noncomputable def St.add(U:St)(o:AO):St:=⟨λy=>if y=U.next then aa o else U.get y,U.next+1⟩
structure WS where
 prog:yO
 w:bX
 h0_:cy
 K:ef
 th:Nat->Int
 os:jL
 fr:List aG
 tabs:List Nat
 rest:List Nat
 cnt:Nat
 qual:Nat->Str
 lam:aS->cu->CE->Prop
noncomputable def dig:Nat->Nat->List Nat
 |0,_=>[]
 |f+1,n=>match n with
  |0=>[]
  |m+1=>((m+1) % 256)::dig f ((m+1) / 256)
theorem OH:∀(f g n m:Nat),n<=f->m<=g->dig f n=dig g m->n=m
 |0,0,n,m,hn,hm,_=>by exact aeO hn hm
 |0,g+1,n,m,hn,hm,e=>by
  have:n=0:=by exact KS hn
  subst this;cases m with
  |zero=>rfl
  |succ m=>simp[dig]at e
 |f+1,0,n,m,hn,hm,e=>by
  have:m=0:=by exact KS hm
  subst this;cases n with
  |zero=>rfl
  |succ n=>simp[dig]at e
 |f+1,g+1,n,m,hn,hm,e=>by
  cases n with
  |zero=>
   cases m with
   |zero=>rfl
   |succ m=>simp[dig]at e
  |succ n=>
   cases m with
   |zero=>simp[dig]at e
   |succ m=>simp only[dig,ER]at e;have:=OH f g _ _ (Ru hn) (Ru hm) e.2;omega
noncomputable def AI.at(W:WS):AI->Int
 | .lit i=>i
 | .var k o=>W.th k+o
noncomputable def strOf(l:List Nat):Str:=⟨l.toArray⟩
theorem Cc{l m:List Nat}(h:strOf l=strOf m):l=m:=by
 have:l.toArray=m.toArray:=congrArg Str.cps h
 simpa using this
noncomputable def nm(n:Nat):Str:=strOf (dig n n)
theorem O3{n m:Nat}(h:nm n=nm m):n=m:=OH _ _ _ _ (cN _) (cN _) (Cc h)
noncomputable def KJ:Nat->String
 |0=> "abs"
 |1=> "isinstance"
 |2=> "len"
 |3=> "max"
 |4=> "min"
 |_=> "ValueError.__init__"
noncomputable def Az:Nat->String
 |0=> "BaseException"
 |1=> "Exception"
 |2=> "ValueError"
 |3=> "bool"
 |4=> "int"
 |5=> "list"
 |6=> "object"
 |7=> "range"
 |_=> "str"
noncomputable def VR(W:WS)(n:Nat)(Y:Nat->aG):AV->ay->Prop
 | .none,v=>v= .none
 | .bool b,v=>v= .bool b
 | .int i,v=>∃t,v= .int (i.at W) t
 | .str s,v=>∃t,v= .str (strOf s) t
 | .ref x,v=>x<n/\v= .ref (Y x)
 | .adr a,v=>v= .ref a
 | .bi k,v=>v= .builtin (KJ k)
 | .ty k,v=>v= .type (Az k)
 | .top,_=>True
inductive aO{I H:Type}(R:I->H->Prop):List I->List H->Prop where
 |nil:aO R [] []
 |cons {a b l m}:R a b->aO R l m->aO R (a::l) (b::m)
theorem aO.length{I H:Type}{R:I->H->Prop}{l:List I}{m:List H}(h:aO R l m):l.length=m.length:=by
 induction h with
 |nil=>rfl
 |cons _ _ ih=>rw[lH,lH,ih]
theorem aO.mono{I H:Type}{R R':I->H->Prop}{l:List I}{m:List H}(h:aO R l m)(f:∀a b,R a b->R' a b):aO R' l m:=by
 induction h with
 |nil=>exact .nil
 |cons h _ ih=>exact .cons (f _ _ h) ih
theorem aO.append{I H:Type}{R:I->H->Prop}{l l':List I}{m m':List H}(h:aO R l m)(h':aO R l' m'):aO R (l++l') (m++m'):=by
 induction h with
 |nil=>exact h'
 |cons h _ ih=>exact .cons h ih
theorem aO.get{I H:Type}{R:I->H->Prop}{l:List I}{m:List H}(h:aO R l m):∀{i:Nat} {a:I},l[i]?=aa a->∃b,m[i]?=aa b/\R a b:=by
 induction h with
 |nil=>intro i a e;exact aN e
 |cons h _ ih=>
  intro i a e;cases i with
  |zero=>(injection e with e;subst e);exact⟨_,rfl,h⟩
  |succ i=>exact ih e
noncomputable def rq(W:WS)(n:Nat)(Y:Nat->aG)(p:Nat×AV)(e:nc):Prop:=
 (∃t,e.key= .str (nm p.1) t)/\VR W n Y p.2 e.val
noncomputable def QA:Str ⊕ Int->ay->Bool
 | .inl x,v=>qK x v
 | .inr i,v=>Fe i v
theorem tP{k:Str ⊕ Int}{v:ay}(h:QA k v=ah):(∃x t,k= .inl x/\v= .str x t)\/(∃i t,k= .inr i/\v= .int i t):=by
 cases k with
 |inl x=>obtain⟨t,rfl⟩:=K8 h;exact .inl ⟨x,t,rfl,rfl⟩
 |inr i=>obtain⟨t,rfl⟩:=Le h;exact .inr ⟨i,t,rfl,rfl⟩
noncomputable def su(prog:yO)(w:bX):KeyKind prog w (Str ⊕ Int)where
 is:=QA
 hash:=λk=>match k with
  | .inl x=>hashStr w x
  | .inr i=>hashInt i
 inj:=λv a b ha hb=>by rcases tP ha with⟨x,t,rfl,rfl⟩|⟨x,t,rfl,rfl⟩<;>rcases tP hb with⟨y,u,rfl,e⟩|⟨y,u,rfl,e⟩<;>cases e<;>rfl
 byValue:=λk v h=>by rcases tP h with⟨x,t,rfl,rfl⟩|⟨x,t,rfl,rfl⟩<;>rfl
 pyHash:=λhv h=>by
  rcases tP hv with⟨x,t,rfl,rfl⟩|⟨x,t,rfl,rfl⟩
  ·exact wpAny_pyHash_str h
  ·exact wpAny_pyHash_int h
 eqBool:=λ{A E s a b u v Q} hu hv h=>by
  rcases tP hu with⟨x,t,rfl,rfl⟩|⟨x,t,rfl,rfl⟩<;>rcases tP hv with⟨y,q,rfl,rfl⟩|⟨y,q,rfl,rfl⟩
  ·exact wpAny_eqBool_str (by rw[decide_eq_decide.mpr (show x=y ↔ (Sum.inl x:Str ⊕ Int)= .inl y from⟨λe=>by rw[e],λe=>Sum.inl.inj e⟩)];exact h)
  ·exact SeqAt.EqAt.str_int x t y q prog w E Q (by rw[decide_eq_false (show¬(Sum.inl x:Str ⊕ Int)= .inr y from nofun)]at h;exact h)
  ·exact SeqAt.EqAt.int_str x t y q prog w E Q (by rw[decide_eq_false (show¬(Sum.inr x:Str ⊕ Int)= .inl y from nofun)]at h;exact h)
  ·exact wpAny_eqBool_int (by rw[show(x==y)=decide ((Sum.inr x:Str ⊕ Int)= .inr y)from(decide_eq_decide.mpr (show x=y ↔ (Sum.inr x:Str ⊕ Int)= .inr y from⟨λe=>by rw[e],λe=>Sum.inr.inj e⟩))];exact h)
 «strs» :=λk x t v h=>by
  rcases tP h with⟨y,u,rfl,e⟩|⟨y,u,rfl,e⟩
  ·(injection e with e;subst e);cases v<;>rfl
  ·contradiction
noncomputable def AK.at(W:WS):AK->Str ⊕ Int
 | .str s=>.inl (strOf s)
 | .int i=>.inr (i.at W)
noncomputable def qj(W:WS)(n:Nat)(Y:Nat->aG)(p:AK×AV)(e:(Str ⊕ Int)×ay):Prop:=e.1=p.1.at W/\VR W n Y p.2 e.2
noncomputable def oh(n:Nat)(Y:Nat->aG)(p:Nat×Nat)(q:Str×aG):Prop:=q.1=nm p.1/\q.2=Y p.2/\p.2<n
noncomputable def noParams:Arguments:=⟨[],[],af,[],[],af,[]⟩
noncomputable def tZ(cur stop:Int):Int:=if cur<stop then stop- cur else 0
noncomputable def afO(n:Nat)(Y:Nat->aG)(d:Option Nat)(o:Option aG):Prop:=match d with
 |some d=>o=aa (Y d)/\d<n
 |none=>o=af
noncomputable def OR(W:WS)(n:Nat)(Y:Nat->aG):AO->Obj->Prop
 | .list xs,o=>∃vs m,o={cls:=.type "list",dict:=af,data:=.seq vs m,slots:= #[]}/\aO (VR W n Y) xs vs.toList
 | .tup xs,o=>o.cls= .type "tuple" /\∃vs m,o.data= .seq vs m/\aO (VR W n Y) xs vs.toList
 | .ns kvs,o=>∃es m,o.data= .dict es m/\aO (rq W n Y) kvs es.toList
 | .dict kvs,o=>∃ps,o.IsDictOf (su W.prog W.w) ps/\aO (qj W n Y) kvs ps
 | .inst C d,o=>o.cls= .ref C/\o.dict=aa (Y d)/\d<n/\o.data= .plain
 | .cell v,o=>∃v',o.data= .cell v'/\(match v,v' with|some a,aa b=>VR W n Y a b|none,af=>True|_,_=>False)
 | .jO x i,o=>o.cls= .type "list_iterator" /\o.data= .fields #[.ref (Y x),.int i 0]/\x<n
 | .nD x i,o=>o.cls= .type "tuple_iterator" /\∃v,o.data= .fields #[v,.int i 0]/\VR W n Y x v
 | .lY c,o=>∃t u v,o={cls:=.type "range",dict:=af,data:=.fields #[.int 0 t,.int c u,.int 1 v],slots:= #[]}
 | .gX a c,o=>o={cls:=.type "range_iterator",dict:=af,data:=.fields #[rawInt a,rawInt (tZ a c),rawInt 1],slots:= #[]}
 | .slice l u,o=>o.cls= .type "slice" /\∃a b,o.data= .fields #[a,b,.none]/\VR W n Y l a/\VR W n Y u b
 | .exc C d a tb,o=>o.cls= .ref C/\afO n Y d o.dict/\True/\a<n/\∃vs,o.data= .fields vs/\vs[0]?=aa (.ref (Y a))/\(match tb with|some t=>t<n/\vs[1]?=aa (.ref (Y t))|none=>vs[1]?=aa .none)
 | .fQ fl,o=>o.cls= .type "traceback" /\∃vs,o.data= .fields vs/\(match fl with|some f=>f<n/\vs[3]?=aa (rawInt (Y f))|none=>vs[3]?=aa .none)
 | .fn own cells code b,o=>code<n/\∃body scope clos pm ct,W.lam body scope b/\aO (oh n Y) cells clos/\o=kla_obj "<lambda>" (W.qual own++ "<lambda>") noParams body scope clos pm (Y code) ct
 | .tab made,o=>∃ps,o=tabObj ps/\ps.toList=made.flatMap (λp=>[rawInt p.1,rawInt p.2.1,.ref (Y p.2.2)])/\∀p∈made,p.2.2<n
 | .code own,o=>∃vs t,o.data= .fields vs/\vs[1]?=aa (.str (W.qual own++ "<lambda>") t)
 | .gw l j,o=>l<n/\∃vs m t,o={cls:=.type "list",dict:=af,data:=.seq vs m,slots:= #[]}/\vs.toList=[.ref (Y l),.int (W.cnt+j) t]
 | .gZ j,o=>∃vs m,o={cls:=.type "list",dict:=af,data:=.seq vs m,slots:= #[]}/\vP vs.toList ((W.rest.drop j).map gU)
 | .rep k i,o=>∃vs m,o={cls:=.type "list",dict:=af,data:=.seq vs m,slots:= #[]}/\aO (VR W n Y) (nU k (.int (.lit i))) vs.toList
 | .iD,o=>∃(es:Array nc) (ep:Nat),o.data= .dict es ep/\∀e∈es,∃n t,e.key= .str n t
 | .any,_=>True
noncomputable def isNs:AO->Bool
 | .ns _=>ah
 | .iD=>ah
 |_=>ak
noncomputable def mK(o:Obj):Prop:=∀vs,o.data≠ .fields vs
structure Rel(W:WS)(U:St)(Y:Nat->aG)(s:aE):Prop where
 base:∀b o,W.h0_.get? b=aa o->s.heap.get? b=aa o
 obj:∀x o,U.get x=aa o->∃r,s.heap.get? (Y x)=aa r/\OR W U.next Y o r
 new:∀x o,U.get x=aa o->W.h0_.get? (Y x)=af
 inj:∀x y o p,U.get x=aa o->U.get y=aa p->Y x=Y y->x=y
 lt:∀x o,U.get x=aa o->x<U.next
 gens:s.gens= #[]
 os:s.os=W.os
structure Ext(W:WS)(U:St)(Y:Nat->aG)(h:cy)(σ':St)(ρ':Nat->aG)(h':cy):Prop where
 le:U.next<=σ'.next
 ag:∀x,x<U.next->ρ' x=Y x
 mono:∀x o,U.get x=aa o->∃o',σ'.get x=aa o'/\(isNs o=ah->isNs o'=ah)
 fresh:∀x o,σ'.get x=aa o->(∃o',U.get x=aa o')\/h.get? (ρ' x)=af
 keep:∀b o,h.get? b=aa o->(∀x p,U.get x=aa p->Y x≠b)->b ∉ W.fr->h'.get? b=aa o
 slot:∀b o,h.get? b=aa o->(∀x p,U.get x=aa p->Y x≠b)->b∈W.fr->∃sl,h'.get? b=aa {o with slots:=sl}
 there:∀b o,h.get? b=aa o->∃o',h'.get? b=aa o'/\(mK o->mK o')
theorem Ext.refl{W:WS}{U:St}{Y:Nat->aG}{h:cy}:Ext W U Y h U Y h:=
 ⟨cN _,λ_ _=>rfl,λ_ _ e=>⟨_,e,id⟩,λ_ _ e=>.inl ⟨_,e⟩,λ_ _ e _ _=>e,λ_ o e _ _=>⟨o.slots,e⟩,λ_ _ e=>⟨_,e,λx=>x⟩⟩
theorem Ext.trans{W:WS}{U σ' wL:St}{Y ρ' IB:Nat->aG}{h h' h'':cy}(hl:∀x o,U.get x=aa o->x<U.next)(hl':∀x o,σ'.get x=aa o->x<σ'.next)
  (a:Ext W U Y h σ' ρ' h') (b:Ext W σ' ρ' h' wL IB h''):Ext W U Y h wL IB h'':=by
 have off:∀c o,h.get? c=aa o->(∀x p,U.get x=aa p->Y x≠c)->∀x p,σ'.get x=aa p->ρ' x≠c:=by
  intro c o e hn x p hx q;rcases a.fresh x p hx with⟨o',ho'⟩|hf
  ·exact hn x o' ho' ((a.ag x (hl x o' ho')).symm.trans q)
  ·rw[q,e]at hf;exact lV hf
 refine⟨eo a.le b.le,λx hx=>(b.ag x (dm hx a.le)).trans (a.ag x hx),λx o e=>?_,λx o e=>?_,λc o e hn hf=>?_,λc o e hn hf=>?_,λc o e=>?_⟩
 ·refine aV (a.mono x o e) λo' e' i1=>?_;refine aV (b.mono x o' e') λJy e'' i2=>?_;exact⟨Jy,e'',λz=>i2 (i1 z)⟩
 ·rcases b.fresh x o e with⟨o',ho'⟩|hf
  ·rcases a.fresh x o' ho' with hh|hf
   ·exact .inl hh
   ·exact .inr (by rw[b.ag x (hl' x o' ho')];exact hf)
  ·refine .inr ?_;cases q:h.get? (IB x)with
   |none=>rfl
   |some o1_=>refine aV (a.there _ _ q) λo2_ e2_ _=>?_;rw[hf]at e2_;exact aN e2_
 ·exact b.keep c o (a.keep c o e hn hf) (off c o e hn) hf
 ·obtain⟨sl,e1⟩:=a.slot c o e hn hf;obtain⟨sl',e2⟩:=b.slot c _ e1 (off c o e hn) hf;exact⟨sl',e2⟩
 ·refine aV (a.there c o e) λo' e' n'=>?_;refine aV (b.there c o' e') λJy e'' n''=>?_;exact⟨Jy,e'',λx=>n'' (n' x)⟩
section
variable{W:WS}{n n':Nat}{Y ρ':Nat->aG}
theorem VR.mono(le:n<=n')(ag:∀x,x<n->ρ' x=Y x){a:AV}{v:ay}(h:VR W n Y a v):VR W n' ρ' a v:=by
 cases a<;>first|exact h|skip
 obtain⟨h1,h2⟩:=h;exact⟨dm h1 le,by rw[h2,ag _ h1]⟩
theorem OR.mono(le:n<=n')(ag:∀x,x<n->ρ' x=Y x){a:AO}{o:Obj}(h:OR W n Y a o):OR W n' ρ' a o:=by
 have V:=λa v=>@VR.mono W n n' Y ρ' le ag a v;have L:∀{x},x<n->x<n':=λh=>dm h le;cases a with
 |list xs=>refine dB h λvs m h2 h3=>?_;try clear h;exact⟨vs,m,h2,h3.mono V⟩
 |tup xs=>refine HM h λh1 vs m h2 h3=>?_;try clear h;exact⟨h1,vs,m,h2,h3.mono V⟩
 |ns kvs=>refine dB h λes m h2 h3=>?_;try clear h;exact⟨es,m,h2,h3.mono λa b q=>⟨q.1,V _ _ q.2⟩⟩
 |dict kvs=>refine aV h λps h1 h3=>?_;try clear h;exact⟨ps,h1,h3.mono λa b q=>⟨q.1,V _ _ q.2⟩⟩
 |inst C d=>refine Dz h λh1 h2 h3 h4=>?_;try clear h;exact⟨h1,by rw[ag d h3];exact h2,L h3,h4⟩
 |cell v=>
  refine aV h λv' h1 h2=>?_;try clear h
  refine⟨v',h1,?_⟩;cases v<;>cases v'<;>first|exact h2|exact V _ _ h2
 |jO x i=>refine cU h λh1 h2 h3=>?_;try clear h;exact⟨h1,by rw[ag x h3];exact h2,L h3⟩
 |nD x i=>refine iY h λh1 v h2 h3=>?_;try clear h;exact⟨h1,v,h2,V _ _ h3⟩
 |slice l u=>refine za h λh1 a b h2 h3 h4=>?_;try clear h;exact⟨h1,a,b,h2,V _ _ h3,V _ _ h4⟩
 |exc C d a tb=>
  refine Gm h λh1 h2 h3 h4 vs h5 h6 h7=>?_;try clear h
  refine⟨h1,by
   cases d with
   |none=>exact h2
   |some d=>exact⟨by rw[ag d h2.2];exact h2.1,L h2.2⟩,h3,L h4,vs,h5,by rw[ag a h4];exact h6,?_⟩
  cases tb with
  |none=>exact h7
  |some t=>exact⟨L h7.1,by rw[ag t h7.1];exact h7.2⟩
 |fQ fl=>
  refine iY h λh1 vs h5 h7=>?_;try clear h
  refine⟨h1,vs,h5,?_⟩;cases fl with
  |none=>exact h7
  |some t=>exact⟨L h7.1,by rw[ag t h7.1];exact h7.2⟩
 |fn own cells code b=>
  refine F7 h λh1 body scope clos pm ct h2 h3 h4=>?_;try clear h
  exact⟨L h1,body,scope,clos,pm,ct,h2,h3.mono λa b q=>⟨q.1,by rw[ag _ q.2.2];exact q.2.1,L q.2.2⟩,by rw[ag _ h1];exact h4⟩
 |tab made=>
  refine fS h λps h1 h2 h3=>?_;try clear h
  refine⟨ps,h1,?_,λp hp=>L (h3 p hp)⟩;rw[h2];clear h2 h1;induction made with
  |nil=>rfl
  |cons p r ih=>rw[rP,rP,ih λq hq=>h3 q (.tail _ hq),ag _ (h3 p (.head _))]
 |gw l j=>refine CN h λh2 vs m t h3 h4=>?_;try clear h;exact⟨L h2,vs,m,t,h3,by rw[ag l h2];exact h4⟩
 |lY c=>exact h
 |gX a c=>exact h
 |code own=>exact h
 |gZ j=>exact h
 |rep k i=>refine dB h λvs m h2 h3=>?_;try clear h;exact⟨vs,m,h2,h3.mono V⟩
 |iD=>exact h
 |any=>exact h
end
section
variable{W:WS}{U:St}{Y:Nat->aG}{s:aE}
theorem Rel.tok(R:Rel W U Y s)(t:Nat):Rel W U Y {s with toks:=t}:=⟨R.base,R.obj,R.new,R.inj,R.lt,R.gens,R.os⟩
theorem Rel.Px(R:Rel W U Y s){x:Nat}{o:AO}(e:U.get x=aa o):Y x<s.heap.objs.size:=by refine aV (R.obj x o e) λr h _=>?_;exact E3 h
theorem B5{h:cy}:h.get? h.objs.size=af:=by
 cases q:h.get? h.objs.size with
 |none=>rfl
 |some o=>exact absurd (E3 q) (vE _)
theorem ZS(R:Rel W U Y s):W.h0_.get? s.heap.objs.size=af:=by
 cases q:W.h0_.get? s.heap.objs.size with
 |none=>rfl
 |some o=>exact absurd (E3 (R.base _ _ q)) (vE _)
noncomputable def dK(Y:Nat->aG)(x:Nat)(a:aG):Nat->aG:=λy=>if y=x then a else Y y
theorem dw{Y:Nat->aG}{n:Nat}{a:aG}:∀x,x<n->dK Y n a x=Y x:=λx hx=>if_neg (iJ hx)
theorem mw{Y:Nat->aG}{n:Nat}{a:aG}:dK Y n a n=a:=if_pos rfl
theorem St.add_get{U:St}{o:AO}{x:Nat}{p:AO}(e:(U.add o).get x=aa p):(x=U.next/\p=o)\/(x≠U.next/\U.get x=aa p):=by
 unfold St.add at e
 by_cases h:x=U.next
 ·simp only[h,if_true]at e;(injection e with e;subst e);exact .inl ⟨h,rfl⟩
 ·simp only[h,if_false]at e;exact .inr ⟨h,e⟩
theorem St.OE{U:St}{o:AO}{x:Nat}(h:x<U.next):(U.add o).get x=U.get x:=if_neg (iJ h)
theorem Rel.add(R:Rel W U Y s){o:AO}{r:Obj}(hf:r.isFreed=ak)(hr:OR W (U.next+1) (dK Y U.next s.heap.objs.size) o r):
  Rel W (U.add o) (dK Y U.next s.heap.objs.size) {s with heap:=s.heap.push r}:=by
 refine⟨λb p e=>jo _ (R.base b p e),λx p e=>?_,λx p e=>?_,λx y p q ex ey h=>?_,λx p e=>?_,R.gens,R.os⟩
 ·rcases St.add_get e with⟨rfl,rfl⟩|⟨hx,e⟩
  ·exact⟨r,by rw[mw];exact Bk _ hf,hr⟩
  ·refine aV (R.obj x p e) λr' h1 h2=>?_;have hl:=R.lt x p e;exact⟨r',by rw[dw x hl];exact jo _ h1,h2.mono (iA _) dw⟩
 ·rcases St.add_get e with⟨rfl,rfl⟩|⟨hx,e⟩
  ·rw[mw];exact ZS R
  ·rw[dw x (R.lt x p e)];exact R.new x p e
 ·rcases St.add_get ex with⟨hx,_⟩|⟨_,ex'⟩<;>rcases St.add_get ey with⟨hy,_⟩|⟨_,rJ⟩
  ·rw[hx,hy]
  ·rw[hx,mw,dw y (R.lt y q rJ)]at h;exact absurd h (vH (R.Px rJ))
  ·rw[hy,mw,dw x (R.lt x p ex')]at h;exact absurd h (iJ (R.Px ex'))
  ·rw[dw x (R.lt x p ex'),dw y (R.lt y q rJ)]at h;exact R.inj x y p q ex' rJ h
 ·rcases St.add_get e with⟨rfl,rfl⟩|⟨hx,e⟩
  ·exact EL _
  ·exact m7 (R.lt x p e)
theorem Ext.add(hl:∀x o,U.get x=aa o->x<U.next){h:cy}{o:AO}{r:Obj}:Ext W U Y h (U.add o) (dK Y U.next h.objs.size) (h.push r):=by
 refine⟨iA _,dw,λx p e=>⟨p,?_,id⟩,λx p e=>?_,λ_ _ e _ _=>jo _ e,λ_ o e _ _=>⟨o.slots,jo _ e⟩,λ_ _ e=>⟨_,jo _ e,λx=>x⟩⟩
 ·rw[St.OE (hl x p e)];exact e
 ·rcases St.add_get e with⟨rfl,rfl⟩|⟨hx,e⟩
  ·right;rw[mw];exact B5
  ·exact .inl ⟨p,e⟩
theorem St.ni{U:St}{o:AO}{x y:Nat}{p:AO}(e:(U.put x o).get y=aa p):(y=x/\p=o)\/(y≠x/\U.get y=aa p):=by
 unfold St.put at e
 by_cases h:y=x
 ·simp only[h,if_true]at e;(injection e with e;subst e);exact .inl ⟨h,rfl⟩
 ·simp only[h,if_false]at e;exact .inr ⟨h,e⟩
theorem Rel.put(R:Rel W U Y s){x:Nat}{o o':AO}{r:Obj}{f:Obj->Obj}(e:U.get x=aa o)(hr:s.heap.get? (Y x)=aa r)(hf:(f r).isFreed=ak)(ho:OR W U.next Y o' (f r)):
  Rel W (U.put x o') Y {s with heap:=s.heap.update (Y x) f}:=by
 have ne:∀b p,W.h0_.get? b=aa p->b≠Y x:=λb p q z=>by have:=R.new x o e;rw[<-z,q]at this;exact lV this
 refine⟨λb p q=>(tE _ _ _ _ (ne b p q)).trans (R.base b p q),λy p q=>?_,λy p q=>?_,λy z p q ey ez h=>?_,λy p q=>?_,R.gens,R.os⟩
 ·rcases St.ni q with⟨rfl,rfl⟩|⟨hy,q⟩
  ·exact⟨f r,tD f hr hf,ho⟩
  ·refine aV (R.obj y p q) λr' h1 h2=>?_;exact⟨r',(tE _ _ _ _ λz=>hy (R.inj y x p o q e z)).trans h1,h2⟩
 ·rcases St.ni q with⟨rfl,rfl⟩|⟨hy,q⟩
  ·exact R.new y o e
  ·exact R.new y p q
 ·have a:∃p',U.get y=aa p':=by rcases St.ni ey with⟨rfl,rfl⟩|⟨_,q⟩<;>exact⟨_,by assumption⟩
  have b:∃p',U.get z=aa p':=by rcases St.ni ez with⟨rfl,rfl⟩|⟨_,q⟩<;>exact⟨_,by assumption⟩
  obtain⟨p',a⟩:=a;obtain⟨q',b⟩:=b;exact R.inj y z p' q' a b h
 ·rcases St.ni q with⟨rfl,rfl⟩|⟨hy,q⟩
  ·exact R.lt y o e
  ·exact R.lt y p q
theorem Ext.put{h:cy}{x:Nat}{o o':AO}{r:Obj}{f:Obj->Obj}(e:U.get x=aa o)(hr:h.get? (Y x)=aa r)(hf:(f r).isFreed=ak)(hn:mK r->mK (f r))
  (hi:isNs o=ah->isNs o'=ah:=by intro z;first|rfl|exact absurd z nR|assumption):Ext W U Y h (U.put x o') Y (h.update (Y x) f):=by
 refine⟨cN _,λ_ _=>rfl,λy p q=>?_,λy p q=>?_,λb p q hb _=>?_,λb p q hb _=>⟨p.slots,?_⟩,λb p q=>?_⟩
 ·by_cases hy:y=x
  ·refine⟨o',if_pos hy,λz=>hi ?_⟩;subst hy;rw[e]at q;obtain rfl:=aX q;exact z
  ·exact⟨p,(if_neg hy).trans q,id⟩
 ·rcases St.ni q with⟨rfl,rfl⟩|⟨hy,q⟩
  ·exact .inl ⟨_,e⟩
  ·exact .inl ⟨_,q⟩
 ·exact(tE _ _ _ _ λz=>hb x o e z.symm).trans q
 ·exact(tE _ _ _ _ λz=>hb x o e z.symm).trans q
 ·by_cases hb:b=Y x
  ·subst hb;rw[hr]at q;(injection q with q;subst q);exact⟨f r,tD f hr hf,hn⟩
  ·exact⟨p,(tE _ _ _ _ hb).trans q,λx=>x⟩
end
end Mine
end
section
namespace Mine
open PySem PySem.W PySem.Calls PyProof.Rows Builtin
noncomputable def bN(l:List (Nat×AV))(k:Nat):Option AV:=@Ga (Nat×AV) (λ_=>Option AV) af (λp _ ih=>@ee (λ_=>Option AV) ih (aa p.2) (aH p.1 k)) l
theorem pS(p:Nat×AV)(l:List (Nat×AV))(k:Nat):bN (p::l) k=match aH p.1 k with|true=>aa p.2|false=>bN l k:=by show @ee (λ_=>Option AV) (bN l k) (aa p.2) (aH p.1 k)=_;cases aH p.1 k<;>rfl
noncomputable def putN(l:List (Nat×AV))(k:Nat)(v:AV):List (Nat×AV):=@Ga (Nat×AV) (λ_=>List (Nat×AV)) [(k,v)] (λp l ih=>@ee (λ_=>List (Nat×AV)) (p::ih) ((p.1,v)::l) (aH p.1 k)) l
theorem ND(k:Nat)(v:AV):putN [] k v=[(k,v)]:=rfl
theorem yC(p:Nat×AV)(l:List (Nat×AV))(k:Nat)(v:AV):putN (p::l) k v=match aH p.1 k with|true=>(p.1,v)::l|false=>p::putN l k v:=by show @ee (λ_=>List (Nat×AV)) (p::putN l k v) ((p.1,v)::l) (aH p.1 k)=_;cases aH p.1 k<;>rfl
theorem fT(a b:Nat):aH a b=decide (a=b):=by
 by_cases h:a=b
 ·subst h;simp
 ·rw[decide_eq_false h];cases q:aH a b with
  |false=>rfl
  |true=>exact absurd (cG q) h
section
variable{W:WS}{n:Nat}{Y:Nat->aG}
theorem rq.str{p:Nat×AV}{e:nc}(h:rq W n Y p e)(k:Nat):e.key.isStr (nm k)=aH p.1 k:=by
 obtain⟨⟨t,h1⟩,_⟩:=h;rw[h1,fT];show(nm p.1==nm k)=_
 by_cases q:p.1=k
 ·subst q;simp
 ·rw[decide_eq_false q];exact beq_eq_false_iff_ne.mpr λz=>q (O3 z)
theorem rq.noRef{p:Nat×AV}{e:nc}(h:rq W n Y p e):e.refKey=ak:=by obtain⟨⟨t,h1⟩,_⟩:=h;simp[DictEntry.refKey,h1]
theorem M8{kvs:List (Nat×AV)}{es:List nc}(h:aO (rq W n Y) kvs es)(k:Nat):
  (∃av e,bN kvs k=aa av/\es.find? (·.key.isStr (nm k))=aa e/\VR W n Y av e.val)\/(bN kvs k=af/\es.find? (·.key.isStr (nm k))=af):=by
 induction h with
 |nil=>exact .inr ⟨rfl,rfl⟩
 |cons h _ ih=>
  rw[pS,List.find?_cons,h.str k];cases aH _ k with
  |true=>exact .inl ⟨_,_,rfl,rfl,h.2⟩
  |false=>exact ih
theorem FJ{kvs:List (Nat×AV)}{es:List nc}(h:aO (rq W n Y) kvs es):es.any (·.refKey)=ak:=by
 induction h with
 |nil=>rfl
 |cons h _ ih=>rw[EX,h.noRef,ih];rfl
theorem F5{o:Obj}{kvs:List (Nat×AV)}(h:OR W n Y (.ns kvs) o)(k:Nat):
  (∃av v,bN kvs k=aa av/\lookIn (nm k) o=aa (aa v)/\VR W n Y av v)\/(bN kvs k=af/\lookIn (nm k) o=aa af):=by
 refine dB h λes m hd h2=>?_;try clear h
 unfold lookIn;rw[hd];dsimp only;rcases M8 h2 k with⟨av,e,h3,h4,h5⟩|⟨h3,h4⟩
 ·rw[h4];exact .inl ⟨av,e.val,h3,rfl,h5⟩
 ·rw[h4,FJ h2];exact .inr ⟨h3,rfl⟩
theorem Q5{h:cy}{a:aG}{o:Obj}{kvs:List (Nat×AV)}(ho:h.get? a=aa o)(q:OR W n Y (.ns kvs) o):
  ∃m,h.Ns a m/\∀k,(∃av v,bN kvs k=aa av/\m (nm k)=aa v/\VR W n Y av v)\/(bN kvs k=af/\m (nm k)=af):=by
 refine dB q λes ep hd h2=>?_;try clear q
 refine⟨λx=>nsFind es x,⟨o,es,ep,ho,hd,?_,λ_=>rfl⟩,λk=>?_⟩
 ·have:∀e∈es.toList,∃n t,e.key= .str n t:=by
   clear hd;generalize es.toList=l at h2;induction h2 with
   |nil=>intro e he;cases he
   |cons h _ ih=>
    intro e he;cases he with
    |head=>obtain⟨⟨t,h1⟩,_⟩:=h;exact⟨_,t,h1⟩
    |tail _ he=>exact ih e he
  exact λe he=>this e (Array.mem_toList_iff.mpr he)
 ·unfold nsFind findBy;dsimp only;rw[<-WZ];rcases M8 h2 k with⟨av,e,h3,h4,h5⟩|⟨h3,h4⟩
  ·rw[h4];exact .inl ⟨av,e.val,h3,rfl,h5⟩
  ·rw[h4];exact .inr ⟨h3,rfl⟩
theorem abK{kvs:List (Nat×AV)}{es:List nc}(h:aO (rq W n Y) kvs es)(k:Nat){av:AV}{v:ay}(hv:VR W n Y av v)(hash:Int)(t:Tok):
  aO (rq W n Y) (putN kvs k av) (match es.findIdx? (·.key.isStr (nm k))with|some i=>es.modify i (λe=>{e with val:=v})|none=>es++[⟨hash,.str (nm k) t,v⟩]):=by
 induction h with
 |nil=>exact .cons ⟨⟨t,rfl⟩,hv⟩ .nil
 |@cons p e l m h q ih=>
  rw[List.findIdx?_cons,h.str k,yC];cases aH p.1 k with
  |true=>exact .cons ⟨h.1,hv⟩ q
  |false=>
   simp only[Bm,if_false];cases z:m.findIdx? (·.key.isStr (nm k))with
   |none=>rw[z]at ih;exact .cons h ih
   |some i=>rw[z]at ih;exact .cons h ih
theorem OR.putName{o:Obj}{kvs:List (Nat×AV)}(h:OR W n Y (.ns kvs) o)(k:Nat){av:AV}{v:ay}(hv:VR W n Y av v)(hash:Int)(t:Tok):
  OR W n Y (.ns (putN kvs k av)) (Me (nm k) hash (.str (nm k) t) v o)/\(Me (nm k) hash (.str (nm k) t) v o).isFreed=ak/\mK (Me (nm k) hash (.str (nm k) t) v o):=by
 refine dB h λes ep hd h2=>?_;try clear h
 have key:=abK h2 k hv hash t;obtain⟨c,d,dt,sl⟩:=o;dsimp only at hd;subst hd;have e1:es.findIdx? (λe=>e.key.isStr (nm k))=es.toList.findIdx? (λe=>e.key.isStr (nm k)):=by cases es;simp
 rw[Obj.putName_eq];unfold Obj.putNameByArray;dsimp only;cases z:es.findIdx? (λe=>e.key.isStr (nm k))with
 |none=>rw[<-e1,z]at key;dsimp only at key ⊢;refine⟨⟨_,_,rfl,?_⟩,rfl,λvs q=>by contradiction⟩;rw[Lf];exact key
 |some i=>rw[<-e1,z]at key;dsimp only at key ⊢;refine⟨⟨_,_,rfl,?_⟩,rfl,λvs q=>by contradiction⟩;rw[Array.toList_modify];exact key
end
end Mine
end
section
namespace Mine
open PySem PySem.W PySem.Calls PyProof.Rows Builtin Builtin.ObjectAttr
noncomputable def GN(K:ef)(C:aG):Bool:=
 findIn K (.ref C) "__getattribute__" ==aa (aa (.builtin "object.__getattribute__"))&&findIn K (.ref C) "__setattr__" ==aa (aa (.builtin "object.__setattr__"))&&
 findIn K (.ref C) "__getattr__" ==aa af&&plainOver K C&&(clsIn K C).any (·.hasDict)
structure t6(K:ef)(C:aG):Prop where
 ga:findIn K (.ref C) "__getattribute__" =aa (aa (.builtin "object.__getattribute__"))
 sa:findIn K (.ref C) "__setattr__" =aa (aa (.builtin "object.__setattr__"))
 gg:findIn K (.ref C) "__getattr__" =aa af
 po:plainOver K C=ah
 hd:(clsIn K C).any (·.hasDict)=ah
theorem t6.of{K:ef}{C:aG}(h:GN K C=ah):t6 K C:=by unfold GN at h;simp only[bJ,beq_iff_eq]at h;exact⟨h.1.1.1.1,h.1.1.1.2,h.1.1.2,h.1.2,h.2⟩
structure WS.Ok(W:WS):Prop where
 K:W.K.In W.h0_
 lim:W.h0_.NoLimit
theorem aba(kvs:List (Nat×AV))(a:Nat)(av:AV):(putN kvs a av).length<=kvs.length+1:=by
 induction kvs with
 |nil=>exact cN _
 |cons p l ih=>
  rw[yC];cases aH p.1 a with
  |true=>exact iA _
  |false=>exact Lj ih
noncomputable def AV.handed:AV->Bool
 | .top=>ak
 | .bi _=>ak
 |_=>ah
section
variable{W:WS}{U:St}{Y:Nat->aG}{s:aE}{A:cR}{E:ay->aE->Prop}
theorem Rel.X(R:Rel W U Y s)(O:W.Ok):W.K.In s.heap:=O.K.keeps R.base
theorem VR.handed{n:Nat}{a:AV}{v:ay}(h:VR W n Y a v)(q:a.handed=ah):handedIn v=ah:=by
 cases a with
 |adr a=>have e:v= .ref a:=h;subst e;rfl
 |ty k=>have e:v= .type (Az k):=h;subst e;rfl
 |bi k=>exact cB q
 |int i=>obtain⟨t,rfl⟩:=h;rfl
 |str i=>obtain⟨t,rfl⟩:=h;rfl
 |ref x=>obtain⟨_,rfl⟩:=h;rfl
 |none=>obtain rfl:=h;rfl
 |bool b=>obtain rfl:=h;rfl
 |top=>exact cB q
theorem Rel.inst(R:Rel W U Y s){x d:Nat}{C:aG}{kvs:List (Nat×AV)}(hx:U.get x=aa (.inst C d))(hd:U.get d=aa (.ns kvs)):
  ∃ox od,InstAt s.heap (Y x) ox C (aa od)/\ox.dict=aa (Y d)/\s.heap.get? (Y d)=aa od/\OR W U.next Y (.ns kvs) od:=by
 refine acv (R.obj _ _ hx) λox h1 h2 h3 h4 h5=>?_;refine aV (R.obj _ _ hd) λod h6 h7=>?_;refine⟨ox,od,⟨h1,h2,?_,?_⟩,h3,h6,h7⟩
 ·unfold notCls;rw[h5]
 ·rw[h3];exact h6
theorem Xp{K:ef}{C:aG}{od:Obj}{name:Str}{v:ay}(ak9:t6 K C)(hf:findIn K (.ref C) name=aa af)(hl:lookIn name od=aa (aa v)):
  findObj K C (aa od) name=aa (.value v):=by
 refine aV (yF ak9.hd) λcd hc hd=>?_;unfold findObj;rw[hc,xQ,hf,xQ];dsimp only[xQ];unfold PySem.W.ownOf;rw[hd,if_pos rfl];dsimp only;rw[hl];rfl
theorem ZZ{x d a:Nat}{C:aG}{kvs:List (Nat×AV)}{av:AV}{expr:Bool}{Q:ay->aE->Prop}(O:W.Ok)(R:Rel W U Y s)(hx:U.get x=aa (.inst C d))(hd:U.get d=aa (.ns kvs))
  (ak9:t6 W.K C) (hf:findIn W.K (.ref C) (nm a)=aa af) (hl:bN kvs a=aa av) (hh:av.handed=ah)
  (k:∀v,VR W U.next Y av v->Q v {s with toks:=s.toks+1}):aC (model W.prog W.w) A (getAttr (.ref (Y x)) (nm a) expr) Q E s:=by
 refine pY (R.inst hx hd) λox od IA h3 h6 h7=>?_;rcases F5 h7 a with⟨Vp,v,h8,h9,dO⟩|⟨h8,_⟩
 ·rw[hl]at h8;obtain rfl:=aX h8;exact get_value (R.X O) IA ak9.ga (Xp ak9 hf h9) (dO.handed hh) (k v dO)
 ·rw[hl]at h8;exact lV h8
theorem FH{d a:Nat}{D:aG}{kvs:List (Nat×AV)}{av:AV}{v:ay}{nt:Tok}{Qf:Fin->aE->Prop}(eD:Y d=D)(R:Rel W U Y s)(hd:U.get d=aa (.ns kvs))(hv:VR W U.next Y av v)(hz:kvs.length<=1000)
  (k:∀h' t,Rel W (U.put d (.ns (putN kvs a av))) Y {s with heap:=h',toks:=t}->Ext W U Y s.heap (U.put d (.ns (putN kvs a av))) Y h'->Qf (.done (.ret .none)) {s with heap:=h',toks:=t}):aC (model W.prog W.w) A (Builtin.ObjectAttr.storeInDict D (.str (nm a) nt) (nm a) v) Qf E s:=by
 subst eD;refine aV (R.obj _ _ hd) λod h6 h7=>?_;refine cU (h7.putName a hv (xX W.w.params (nm a)) s.toks) λp1 p2 p3=>?_;have U1:=R.put hd h6 p2 p1;have U2:=Ext.put (W:=W) (o':=.ns (putN kvs a av)) hd h6 p2 λ_=>p3;refine aF (bu (aF ?_));unfold nsSet;refine aF (aF (wpAny_askSetting (bu (aF (LW (aF (xY h6 ?_)))))));refine dB h7 λes m q hes=>?_;rw[q];dsimp only;rw[Wy,show(!es.any (·.key.isStr (nm a))&&es.any (·.refKey))=ak from by rw[show es.any (·.refKey)=ak from by rw[<-Array.any_toList];exact FJ hes,EW]];refine wpAny_updatePart h6 ?_;refine qX (U1.obj d _ (if_pos rfl)) λr hr es' m' e' ajU=>?_;refine aF (wpAny_lookBehind hr (by rw[e'];refine pastItsLine_dict ?_;have l1:=ajU.length;have l2:=aba kvs a av;rw[<-EA,<-l1,gp];exact ahg hz l2) ?_)
 exact bu (k _ _ (U1.tok _) U2)
theorem ZQ{x d a:Nat}{C:aG}{kvs:List (Nat×AV)}{av:AV}{v:ay}{Q:Unit->aE->Prop}(O:W.Ok)(R:Rel W U Y s)(hx:U.get x=aa (.inst C d))(hd:U.get d=aa (.ns kvs))
  (ak9:t6 W.K C) (hf:takerIn W.K C (nm a)=aa af) (hv:VR W U.next Y av v) (hz:kvs.length<=1000)
  (k:∀h' t,Rel W (U.put d (.ns (putN kvs a av))) Y {s with heap:=h',toks:=t}->Ext W U Y s.heap (U.put d (.ns (putN kvs a av))) Y h'->Q () {s with heap:=h',toks:=t}):
  aC (model W.prog W.w) A (setAttr (.ref (Y x)) (nm a) v) Q E s:=by
 refine pY (R.inst hx hd) λox od IA h3 h6 h7=>?_;have X:=R.X O;refine set_plain X IA ak9.sa ?_;refine osa_open (s:={s with toks:=s.toks+1}) X IA ak9.po hf λb=>?_;refine aV (yF ak9.hd) λcd hc hd'=>?_;obtain⟨hx',hcl,hn,-⟩:=IA;obtain⟨oc,VQ,VH,osl⟩:=ox;dsimp only at hcl h3;subst hcl h3;refine aF (bu (aF (aF (xY hx' (aF (Mu (s:={s with toks:=s.toks+1}) (Ff X hc) ?_))))));rw[hd'];exact bu (a:=aa (Y d)) (FH rfl (R.tok _) hd hv hz k)
end
end Mine
end
section
namespace Mine
open PySem
noncomputable def C6:List Nat->Nat
 | []=>0
 |a::l=>a+256*C6 l
noncomputable def D5:List Nat->List Nat->Bool
 | [],[]=>ah
 |a::l,b::m=>match aH a b with|true=>D5 l m|false=>ak
 |_,_=>ak
noncomputable def codeN(s:Str):Option Nat:=match D5 (dig (C6 s.cps.toList) (C6 s.cps.toList)) s.cps.toList&& !(s==("__debug__" :Str))&& !(s==("__classdict__" :Str))with
 |true=>aa (C6 s.cps.toList)
 |false=>af
noncomputable def bB{I H:Type}(f:I->Option H):List I->Option (List H)
 | []=>aa []
 |a::l=>(f a).bind λb=>(bB f l).map λm=>b::m
noncomputable def RA(g:Nat->Option AV)(k:Nat):Option pU->Option CE
 |none=>af
 |some t=>match t with
  | .local=>aa (.loc k)
  | .cell=>aa (.bh k)
  | .free=>aa (.bh k)
  | .globalImplicit=>(g k).map .az
  | .globalExplicit=>af
noncomputable def Q0(g:Nat->Option AV)(sc:cu)(id:Str):Option CE:=(codeN id).bind λk=>RA g k (sc.names.lookup id)
noncomputable def oq(sc:cu):Option (List Nat):=bB codeN ((sc.names.filter λp=>p.2== .free).map (·.1)).reverse
noncomputable def cOpt{I H:Type}(f:I->Option H):Option I->Option (Option H)
 |none=>aa af
 |some a=>(f a).map aa
noncomputable def two{I H γ:Type}(f:I->H->γ)(a:Option I)(b:Option H):Option γ:=a.bind λx=>b.map λy=>f x y
noncomputable def three{I H γ δ:Type}(f:I->H->γ->δ)(a:Option I)(b:Option H)(c:Option γ):Option δ:=a.bind λx=>b.bind λy=>c.map λz=>f x y z
@[elab_as_elim] theorem ju{I H γ:Type}{P:γ->Prop}{k:I->H->γ}{a:Option I}{b:Option H}{c:γ}(h:two k a b=aa c)(K:∀x y,a=aa x->b=aa y->P (k x y)):P c:=
 oE h λx hx h=>oM h λy hy=>K x y hx hy
@[elab_as_elim] theorem qb{I H γ δ:Type}{P:δ->Prop}{k:I->H->γ->δ}{a:Option I}{b:Option H}{c:Option γ}{r:δ}(h:three k a b c=aa r)(K:∀x y z,a=aa x->b=aa y->c=aa z->P (k x y z)):P r:=
 oE h λx hx h=>oE h λy hy h=>oM h λz hz=>K x y z hx hy hz
@[elab_as_elim] theorem pZ{I H:Type}{P:List H->Prop}{f:I->Option H}{a:I}{l:List I}{r:List H}(h:bB f (a::l)=aa r)(K:∀b m,f a=aa b->bB f l=aa m->P (b::m)):P r:=
 oE h λb hb h=>oM h λm hm=>K b m hb hm
noncomputable def mR:BoolOp->CE->CE->CE
 | .And=>.gu
 | .Or=>.iZ
noncomputable def zc(sc:cu):List Str:=(sc.names.filter λp=>p.2== .cell).map (·.1)
noncomputable def zj:List Str->List Str->Bool
 | [],[]=>ah
 |a::l,b::m=>match a==b with|true=>zj l m|false=>ak
 |_,_=>ak
noncomputable def t9(sc:cu)(cells:List Str):Bool:=zj (zc sc) cells&&sc.kind== .function&&(sc.names.all λp=> !(p.2== .local)||sc.names.lookup p.1==aa .local)
noncomputable def sd(sc:cu):Bool:=zj (zc sc) []&&sc.kind== .function&& !sc.isGenerator&& !sc.isCoroutine
noncomputable def pW:aS->Bool
 | .Call (.Name _ _) [] [] _=>ak
 |_=>ah
noncomputable def kindB:Option pU->Option Bool
 |some .local=>aa ak
 |some .cell=>aa ah
 |_=>af
theorem Cd{o:Option pU}{b:Bool}(h:kindB o=aa b):o=aa (cond b .cell .local):=by
 cases o with
 |none=>exact aN h
 |some k=>cases k<;>first|exact aN h|(obtain rfl:=aX h;rfl)
noncomputable def Ij:aS->Option (List aS)
 | .Tuple ts _ _=>aa ts
 |_=>af
noncomputable def nameOf:aS->Option Str
 | .Name id _=>aa id
 |_=>af
noncomputable def C4(F:cu->aS->Option CE)(sc sc':cu)(elt src:aS)(t:Str)(te:Option aS):Option CE:=
 (cOpt (F sc') te).bind λq=>(codeN t).bind λk=>(kindB (sc'.names.lookup t)).bind λown=>cond (t9 sc' (cond own [t] [])) (three (λx s fr=>.comp x k own s q fr) (F sc' elt) (F sc src) (oq sc')) af
noncomputable def ad9(F:cu->aS->Option CE)(sc sc':cu)(elt src:aS)(t:Str)(ifs:List aS):Option CE:=match ifs with
 | []=>C4 F sc sc' elt src t af
 |z::l=>(match l with
  | []=>C4 F sc sc' elt src t (aa z)
  |_::_=>aa .bad)
noncomputable def HR(F:cu->aS->Option CE)(sc sc':cu)(elt:aS)(gn:Bx):Option CE:=
 (nameOf gn.target).elim (aa .bad) λt=>cond (decide (gn.is_async=0)) (ad9 F sc sc' elt gn.iter t gn.ifs) (aa .bad)
noncomputable def cE(g:Nat->Option AV):Nat->cu->aS->Option CE
 |0,_,_=>af
 |n+1,sc,e=>match e with
  | .Constant c _ _=>(match c with
   | .none=>aa .none
   | .bool b=>aa (.tt b)
   | .int i=>aa (.int i)
   | .str s=>aa (.str s.cps.toList)
   |_=>af)
  | .Name id _=>Q0 g sc id
  | .BoolOp op [a,b] _=>two (mR op) (cE g n sc a) (cE g n sc b)
  | .BoolOp op [a,b,c] _=>three (λx y z=>mR op x (mR op y z)) (cE g n sc a) (cE g n sc b) (cE g n sc c)
  | .UnaryOp .Not a _=>(cE g n sc a).map .dU
  | .UnaryOp .USub a _=>(cE g n sc a).map .neg
  | .BinOp a o b _=>two (λx y=>.bin o x y) (cE g n sc a) (cE g n sc b)
  | .IfExp t a b _=>three .ite (cE g n sc t) (cE g n sc a) (cE g n sc b)
  | .Compare a [o] [b] _=>two (λx y=>.cmp x o y) (cE g n sc a) (cE g n sc b)
  | .Compare a [o,o'] [b,c] _=>three (λx y z=>.k8 x o y o' z) (cE g n sc a) (cE g n sc b) (cE g n sc c)
  | .List es _=>(bB (cE g n sc) es).map .list
  | .Tuple es _ _=>(bB (cE g n sc) es).map .tup
  | .Dict ks vs _=>(match ks,vs with
   | [],[]=>aa (.dict [])
   | [aa k],[v]=>two (λa b=>.dict [(a,b)]) (cE g n sc k) (cE g n sc v)
   |_,_=>af)
  | .Call (.Attribute o m ap) as [] p=>cond (pW o&&decide (as.length<30)&&ap.endLine==p.line) (three .aY (cE g n sc o) (codeN m) (bB (cE g n sc) as)) af
  | .Call f as [] _=>two .call (cE g n sc f) (bB (cE g n sc) as)
  | .Attribute o a _=>cond (pW o) (two .attr (cE g n sc o) (codeN a)) af
  | .Starred _ _=>af
  | .Set _ _ _=>af
  | .SetComp .. =>af
  | .DictComp .. =>af
  | .Subscript o i _=>two .sub (cE g n sc o) (cE g n sc i)
  | .Slice l u af _=>two .slice (cOpt (cE g n sc) l) (cOpt (cE g n sc) u)
  | .ListComp elt gens sc' _=>(match gens with
   | [gn]=>HR (cE g n) sc sc' elt gn
   |_=>aa .bad)
  | .Lambda params body sc' p=>(match params with
   |⟨[],[],af,[],[],af,[]⟩=>cond (sd sc') (two (λb fr=>.lam p.line p.col b fr) (cE g n sc' body) (oq sc')) af
   |_=>af)
  | .JoinedStr es _=>(bB (cE g n sc) es).map .jx
  | .FormattedValue e conv spec _=>cond (decide (conv= -1)) (spec.elim ((cE g n sc e).map .fmt) λ_=>af) af
  |_=>aa .bad
noncomputable def cT(g:Nat->Option AV):Nat->cu->aS->Option CT
 |0,_,_=>af
 |n+1,sc,e=>match e with
  | .Name id _=>two (λk b=>.nm k b) (codeN id) (kindB (sc.names.lookup id))
  | .Attribute o a _=>two .at (cE g n sc o) (codeN a)
  | .Subscript o i _=>two .sb (cE g n sc o) (cE g n sc i)
  | .Tuple es _ _=>(bB (cT g n sc) es).map .tp
  |_=>af
noncomputable def afd(sc:cu)(line:Nat)(x:aS):Option Str:=match x with
 | .Name id pos=>if sc.names.lookup id==aa .local&&pos.line==line then aa id else af
 |_=>af
noncomputable def xo(sc:cu)(ts:List aS):List Str:=ts.filterMap (afd sc ((ts.head?.map (·.pos.line)).getD 0))
set_option backward.match.sparseCases true in
noncomputable def isStar:aS->Bool
 | .Starred .. =>ah
 |_=>ak
noncomputable def sf(sc:cu)(ts vs:List aS):Option (Option (List Str)):=
 cond ((!(ts.length==2||ts.length==3)||vs.length != ts.length)||vs.any isStar||((xo sc ts).length != ts.length||(xo sc ts).eraseDups.length != (xo sc ts).length)||vs.all (foldedForSure 8)) (aa af) (cond (vs.all (constantsAlone 8)) af (aa (aa (xo sc ts))))
noncomputable def nA:aS->Bool
 | .ListComp .. =>ah
 | .SetComp .. =>ah
 | .DictComp .. =>ah
 |_=>ak
noncomputable def isName:aS->Bool
 | .Name .. =>ah
 |_=>ak
noncomputable def isBad:Option CE->Bool
 |some .bad=>ah
 |_=>ak
noncomputable def Ia(hs:List WU)(els fin:List fR):Option (aS×Str×fR×List fR):=match hs with
 | [.ExceptHandler (aa c) (aa x) (h0::h) _]=>cond (els.isEmpty&&fin.isEmpty) (aa (c,x,h0,h)) af
 |_=>af
theorem Z5{hs:List WU}{els fin:List fR}{p:aS×Str×fR×List fR}(h:Ia hs els fin=aa p):∃hp,hs=[.ExceptHandler (aa p.1) (aa p.2.1) (p.2.2.1::p.2.2.2) hp]/\els=[]/\fin=[]:=by
 cases hs with
 |nil=>exact aN h
 |cons a l=>cases l with
  |cons _ _=>obtain⟨_|_,_|_,_|_,_⟩:=a<;>exact aN h
  |nil=>
   obtain⟨_|_,_|_,_|_,_⟩:=a
   ·exact aN h
   ·exact aN h
   ·exact aN h
   ·exact aN h
   ·exact aN h
   ·exact aN h
   ·exact aN h
   ·refine bE h λq h=>?_;rw[bJ,Lk,Lk]at q;rw[<-aX h];exact⟨_,rfl,q.1,q.2⟩
noncomputable def IX(t:Option CT)(c:Option CE)(k:Bool):Option CS:=cond k (cond (isBad c) (aa .bad) (two .sD t c)) (two .asg t c)
noncomputable def ahT(F:aS->Option CE)(T:aS->Option CT)(t e:aS)(r:Option (Option (List Str))):Option CS:=
 r.bind λo=>o.elim (two .asg (T t) (F e)) λnames=>two .iO (bB codeN names) (F e)
noncomputable def SS(F:aS->Option CE)(T:aS->Option CT)(sc:cu)(t e:aS):Option CS:=
 (Ij t).elim (IX (T t) (F e) (isName t&&nA e)) λts=>(Ij e).elim (IX (T t) (F e) (isName t&&nA e)) λvs=>ahT F T t e (sf sc ts vs)
noncomputable def cS(g:Nat->Option AV):Nat->cu->fR->Option CS
 |0,_,_=>af
 |n+1,sc,s=>match s with
  | .Expr e _=>cond (nA e) af ((cE g n sc e).map .expr)
  | .Return o _=>(match o with
   |none=>af
   |some e=>(cE g n sc e).map .ret)
  | .Assign ts e _=>(match ts with
   | [t]=>SS (cE g n sc) (cT g n sc) sc t e
   |_=>af)
  | .AugAssign t op e _=>(match t with
   | .Attribute o a _=>three (λx y z=>.aug x y op z) (cE g n sc o) (codeN a) (cE g n sc e)
   | .Name id _=>three (λk b z=>.uK k b op z) (codeN id) (kindB (sc.names.lookup id)) (cE g n sc e)
   |_=>af)
  | .If t a b _=>three .iff (cE g n sc t) (bB (cS g n sc) a) (bB (cS g n sc) b)
  | .While t a els _=>(match els with
   | []=>two .dS (cE g n sc t) (bB (cS g n sc) a)
   |_=>af)
  | .For t e b els _=>(match t,els with
   | .Name id p,[]=>three .eF (cT g n sc (.Name id p)) (cE g n sc e) (bB (cS g n sc) b)
   |_,_=>af)
  | .Raise exc cause _=>(match exc,cause with
   |some e,af=>(cE g n sc e).map .Dq
   |_,_=>af)
  | .Try b hs els fin _=>(Ia hs els fin).bind λp=>(codeN p.2.1).bind λk=>cond (decide (sc.names.lookup p.2.1=aa .local)) (three (λy z w=>.IU y z k w) (bB (cS g n sc) b) (cE g n sc p.1) (bB (cS g n sc) (p.2.2.1::p.2.2.2))) af
  | .Continue _=>aa .cont
  | .Break _=>aa .brk
  |_=>aa .bad
inductive Tr where
 |nil
 |node (v:Option AO) (l r:Tr)
noncomputable def Tr.get(t:Tr):Nat->Option AO:=@Tr.rec (λ_=>Nat->Option AO) (λ_=>af)
 (λv _ _ l r i=>@qV (λ_=>Option AO) v (λj _=>@ee (λ_=>Nat->Option AO) r l (aH (Nat.mod j 2) 0) (vQ j 2)) i) t
noncomputable def Tr.put(n:Nat):Tr->Nat->AO->Tr:=@qV (λ_=>Tr->Nat->AO->Tr) (λt _ _=>t)
 (λ_ ih t i o=>@Tr.rec (λ_=>Tr)
  (@qV (λ_=>Tr) (.node (aa o) .nil .nil) (λj _=>@ee (λ_=>Tr) (.node af .nil (ih .nil (vQ j 2) o)) (.node af (ih .nil (vQ j 2) o) .nil) (aH (Nat.mod j 2) 0)) i)
  (λv l r _ _=>@qV (λ_=>Tr) (.node (aa o) l r) (λj _=>@ee (λ_=>Tr) (.node v l (ih r (vQ j 2) o)) (.node v (ih l (vQ j 2) o) r) (aH (Nat.mod j 2) 0)) i) t) n
noncomputable def Tr.upd(o:AO)(t:Tr):Nat->Tr:=@Tr.rec (λ_=>Nat->Tr) (λ_=>.nil)
 (λv l r il ir i=>@qV (λ_=>Tr) (.node (aa o) l r) (λj _=>@ee (λ_=>Tr) (.node v l (ir (vQ j 2))) (.node v (il (vQ j 2)) r) (aH (Nat.mod j 2) 0)) i) t
structure ES where
 t:Tr
 next:Nat
noncomputable def ES.get(U:ES)(x:Nat):Option AO:=U.t.get x
noncomputable def ES.put(U:ES)(x:Nat)(o:AO):ES:=⟨Tr.upd o U.t x,U.next⟩
noncomputable def ES.add(U:ES)(o:AO):Nat×ES:=match U.next with
 |0=>(0,⟨Tr.put 40 U.t 0 o,1⟩)
 |m+1=>(m+1,⟨Tr.put 40 U.t (m+1) o,m+2⟩)
theorem oK{H:Type}{o:AO}{k:Nat}{f:o.ctorIdx=k->Option H}{p:H}(e:(dite (o.ctorIdx=k) f λ_=>af)=aa p):∃h:o.ctorIdx=k,f h=aa p:=by
 by_cases h:o.ctorIdx=k
 ·rw[dif_pos h]at e;exact⟨h,e⟩
 ·rw[dif_neg h]at e;exact aN e
noncomputable def Rk:Nat->Option Nat
 |0=>af
 |n+1=>aa n
theorem ZN{n m:Nat}(h:Rk n=aa m):n=m+1:=by
 cases n with
 |zero=>exact aN h
 |succ n=>rw[<-aX h]
noncomputable def Uy(o:AO):Bool:=aH o.ctorIdx 13
theorem ab4{o:AO}(h:Uy o=ah):∃a b c d,o= .fn a b c d:=AO.fn.elim (motive:=λo=>∃a b c d,o= .fn a b c d) o (cG h) λa b c d=>⟨a,b,c,d,rfl⟩
noncomputable def uB(o:AO):Option (List AV):=dite (o.ctorIdx=0) (λh=>AO.list.elim (motive:=λ_=>Option (List AV)) o h λa=>aa a) λ_=>af
theorem vL{o:AO}{p:List AV}(e:uB o=aa p):o= .list p:=
 (oK e).elim λh e=>AO.list.elim (motive:=λo=>∀h,AO.list.elim (motive:=λ_=>Option (List AV)) o h (λa=>aa a)=aa p->o= .list p) o h (λa _ e=>by rw[<-aX e]) h e
noncomputable def D4(o:AO):Option (List (Nat×AV)):=dite (o.ctorIdx=2) (λh=>AO.ns.elim (motive:=λ_=>Option (List (Nat×AV))) o h λa=>aa a) λ_=>af
theorem GH{o:AO}{p:List (Nat×AV)}(e:D4 o=aa p):o= .ns p:=
 (oK e).elim λh e=>AO.ns.elim (motive:=λo=>∀h,AO.ns.elim (motive:=λ_=>Option (List (Nat×AV))) o h (λa=>aa a)=aa p->o= .ns p) o h (λa _ e=>by rw[<-aX e]) h e
noncomputable def zk(o:AO):Option (aG×Nat):=dite (o.ctorIdx=4) (λh=>AO.inst.elim (motive:=λ_=>Option (aG×Nat)) o h λa b=>aa (a,b)) λ_=>af
theorem Ce{o:AO}{p:aG×Nat}(e:zk o=aa p):o= .inst p.1 p.2:=
 (oK e).elim λh e=>AO.inst.elim (motive:=λo=>∀h,AO.inst.elim (motive:=λ_=>Option (aG×Nat)) o h (λa b=>aa (a,b))=aa p->o= .inst p.1 p.2) o h (λa b _ e=>by rw[<-aX e]) h e
noncomputable def We(o:AO):Option (AV×AV):=dite (o.ctorIdx=10) (λh=>AO.slice.elim (motive:=λ_=>Option (AV×AV)) o h λa b=>aa (a,b)) λ_=>af
theorem ab2{o:AO}{p:AV×AV}(e:We o=aa p):o= .slice p.1 p.2:=
 (oK e).elim λh e=>AO.slice.elim (motive:=λo=>∀h,AO.slice.elim (motive:=λ_=>Option (AV×AV)) o h (λa b=>aa (a,b))=aa p->o= .slice p.1 p.2) o h (λa b _ e=>by rw[<-aX e]) h e
noncomputable def Sl(o:AO):Option (aG×Option Nat×Nat×Option Nat):=dite (o.ctorIdx=11) (λh=>AO.exc.elim (motive:=λ_=>Option (aG×Option Nat×Nat×Option Nat)) o h λa b c d=>aa (a,b,c,d)) λ_=>af
theorem aaX{o:AO}{p:aG×Option Nat×Nat×Option Nat}(e:Sl o=aa p):o= .exc p.1 p.2.1 p.2.2.1 p.2.2.2:=
 (oK e).elim λh e=>AO.exc.elim (motive:=λo=>∀h,AO.exc.elim (motive:=λ_=>Option (aG×Option Nat×Nat×Option Nat)) o h (λa b c d=>aa (a,b,c,d))=aa p->o= .exc p.1 p.2.1 p.2.2.1 p.2.2.2) o h (λa b c d _ e=>by rw[<-aX e]) h e
noncomputable def uC(o:AO):Option (List (AK×AV)):=dite (o.ctorIdx=3) (λh=>AO.dict.elim (motive:=λ_=>Option (List (AK×AV))) o h λa=>aa a) λ_=>af
theorem Cf{o:AO}{p:List (AK×AV)}(e:uC o=aa p):o= .dict p:=
 (oK e).elim λh e=>AO.dict.elim (motive:=λo=>∀h,AO.dict.elim (motive:=λ_=>Option (List (AK×AV))) o h (λa=>aa a)=aa p->o= .dict p) o h (λa _ e=>by rw[<-aX e]) h e
noncomputable def oTup(o:AO):Option (List AV):=dite (o.ctorIdx=1) (λh=>AO.tup.elim (motive:=λ_=>Option (List AV)) o h λa=>aa a) λ_=>af
theorem abc{o:AO}{p:List AV}(e:oTup o=aa p):o= .tup p:=
 (oK e).elim λh e=>AO.tup.elim (motive:=λo=>∀h,AO.tup.elim (motive:=λ_=>Option (List AV)) o h (λa=>aa a)=aa p->o= .tup p) o h (λa _ e=>by rw[<-aX e]) h e
noncomputable def Uj(o:AO):Option (Int):=dite (o.ctorIdx=8) (λh=>AO.lY.elim (motive:=λ_=>Option (Int)) o h λa=>aa a) λ_=>af
theorem aaA{o:AO}{p:Int}(e:Uj o=aa p):o= .lY p:=
 (oK e).elim λh e=>AO.lY.elim (motive:=λo=>∀h,AO.lY.elim (motive:=λ_=>Option (Int)) o h (λa=>aa a)=aa p->o= .lY p) o h (λa _ e=>by rw[<-aX e]) h e
noncomputable def J5(o:AO):Option (Nat×Nat):=dite (o.ctorIdx=6) (λh=>AO.jO.elim (motive:=λ_=>Option (Nat×Nat)) o h λa b=>aa (a,b)) λ_=>af
theorem Gw{o:AO}{p:Nat×Nat}(e:J5 o=aa p):o= .jO p.1 p.2:=
 (oK e).elim λh e=>AO.jO.elim (motive:=λo=>∀h,AO.jO.elim (motive:=λ_=>Option (Nat×Nat)) o h (λa b=>aa (a,b))=aa p->o= .jO p.1 p.2) o h (λa b _ e=>by rw[<-aX e]) h e
noncomputable def J0(o:AO):Option (AV×Nat):=dite (o.ctorIdx=7) (λh=>AO.nD.elim (motive:=λ_=>Option (AV×Nat)) o h λa b=>aa (a,b)) λ_=>af
theorem Gz{o:AO}{p:AV×Nat}(e:J0 o=aa p):o= .nD p.1 p.2:=
 (oK e).elim λh e=>AO.nD.elim (motive:=λo=>∀h,AO.nD.elim (motive:=λ_=>Option (AV×Nat)) o h (λa b=>aa (a,b))=aa p->o= .nD p.1 p.2) o h (λa b _ e=>by rw[<-aX e]) h e
noncomputable def JX(o:AO):Option (Int×Int):=dite (o.ctorIdx=9) (λh=>AO.gX.elim (motive:=λ_=>Option (Int×Int)) o h λa b=>aa (a,b)) λ_=>af
theorem GF{o:AO}{p:Int×Int}(e:JX o=aa p):o= .gX p.1 p.2:=
 (oK e).elim λh e=>AO.gX.elim (motive:=λo=>∀h,AO.gX.elim (motive:=λ_=>Option (Int×Int)) o h (λa b=>aa (a,b))=aa p->o= .gX p.1 p.2) o h (λa b _ e=>by rw[<-aX e]) h e
noncomputable def Af(o:AO):Option (Nat×Int):=dite (o.ctorIdx=18) (λh=>AO.rep.elim (motive:=λ_=>Option (Nat×Int)) o h λa b=>aa (a,b)) λ_=>af
theorem Cq{o:AO}{p:Nat×Int}(e:Af o=aa p):o= .rep p.1 p.2:=
 (oK e).elim λh e=>AO.rep.elim (motive:=λo=>∀h,AO.rep.elim (motive:=λ_=>Option (Nat×Int)) o h (λa b=>aa (a,b))=aa p->o= .rep p.1 p.2) o h (λa b _ e=>by rw[<-aX e]) h e
noncomputable def VW(o:AO):Option (Option Nat):=dite (o.ctorIdx=12) (λh=>AO.fQ.elim (motive:=λ_=>Option (Option Nat)) o h λa=>aa a) λ_=>af
theorem abj{o:AO}{p:Option Nat}(e:VW o=aa p):o= .fQ p:=
 (oK e).elim λh e=>AO.fQ.elim (motive:=λo=>∀h,AO.fQ.elim (motive:=λ_=>Option (Option Nat)) o h (λa=>aa a)=aa p->o= .fQ p) o h (λa _ e=>by rw[<-aX e]) h e
noncomputable def oCell(o:AO):Option (Option AV):=dite (o.ctorIdx=5) (λh=>AO.cell.elim (motive:=λ_=>Option (Option AV)) o h λa=>aa a) λ_=>af
theorem FT{o:AO}{p:Option AV}(e:oCell o=aa p):o= .cell p:=
 (oK e).elim λh e=>AO.cell.elim (motive:=λo=>∀h,AO.cell.elim (motive:=λ_=>Option (Option AV)) o h (λa=>aa a)=aa p->o= .cell p) o h (λa _ e=>by rw[<-aX e]) h e
noncomputable def zY(o:AO):Option (List (Nat×Nat×Nat)):=dite (o.ctorIdx=14) (λh=>AO.tab.elim (motive:=λ_=>Option (List (Nat×Nat×Nat))) o h λa=>aa a) λ_=>af
theorem Ci{o:AO}{p:List (Nat×Nat×Nat)}(e:zY o=aa p):o= .tab p:=
 (oK e).elim λh e=>AO.tab.elim (motive:=λo=>∀h,AO.tab.elim (motive:=λ_=>Option (List (Nat×Nat×Nat))) o h (λa=>aa a)=aa p->o= .tab p) o h (λa _ e=>by rw[<-aX e]) h e
noncomputable def zp(o:AO):Option (Nat×Nat):=dite (o.ctorIdx=16) (λh=>AO.gw.elim (motive:=λ_=>Option (Nat×Nat)) o h λa b=>aa (a,b)) λ_=>af
theorem F0{o:AO}{p:Nat×Nat}(e:zp o=aa p):o= .gw p.1 p.2:=
 (oK e).elim λh e=>AO.gw.elim (motive:=λo=>∀h,AO.gw.elim (motive:=λ_=>Option (Nat×Nat)) o h (λa b=>aa (a,b))=aa p->o= .gw p.1 p.2) o h (λa b _ e=>by rw[<-aX e]) h e
noncomputable def zF(o:AO):Option (Nat):=dite (o.ctorIdx=17) (λh=>AO.gZ.elim (motive:=λ_=>Option (Nat)) o h λa=>aa a) λ_=>af
theorem FW{o:AO}{p:Nat}(e:zF o=aa p):o= .gZ p:=
 (oK e).elim λh e=>AO.gZ.elim (motive:=λo=>∀h,AO.gZ.elim (motive:=λ_=>Option (Nat)) o h (λa=>aa a)=aa p->o= .gZ p) o h (λa _ e=>by rw[<-aX e]) h e
noncomputable def To(o:AO):Option (Nat×List (Nat×Nat)×Nat×CE):=dite (o.ctorIdx=13) (λh=>AO.fn.elim (motive:=λ_=>Option (Nat×List (Nat×Nat)×Nat×CE)) o h λa b c d=>aa (a,b,c,d)) λ_=>af
theorem aa2{o:AO}{p:Nat×List (Nat×Nat)×Nat×CE}(e:To o=aa p):o= .fn p.1 p.2.1 p.2.2.1 p.2.2.2:=
 (oK e).elim λh e=>AO.fn.elim (motive:=λo=>∀h,AO.fn.elim (motive:=λ_=>Option (Nat×List (Nat×Nat)×Nat×CE)) o h (λa b c d=>aa (a,b,c,d))=aa p->o= .fn p.1 p.2.1 p.2.2.1 p.2.2.2) o h (λa b c d _ e=>by rw[<-aX e]) h e
noncomputable def Rx(o:AO):Option (Nat):=dite (o.ctorIdx=15) (λh=>AO.code.elim (motive:=λ_=>Option (Nat)) o h λa=>aa a) λ_=>af
theorem ZD{o:AO}{p:Nat}(e:Rx o=aa p):o= .code p:=
 (oK e).elim λh e=>AO.code.elim (motive:=λo=>∀h,AO.code.elim (motive:=λ_=>Option (Nat)) o h (λa=>aa a)=aa p->o= .code p) o h (λa _ e=>by rw[<-aX e]) h e
noncomputable def ES.gT(U:ES)(x:Nat):Option (List AV):=(U.get x).bind oTup
theorem G7{U:ES}{x:Nat}{xs:List AV}(h:U.gT x=aa xs):U.get x=aa (.tup xs):=oE h λo e h=>by rw[e,abc h]
theorem ag9{U:ES}{x:Nat}{xs:List AV}(h:U.get x=aa (.tup xs)):U.gT x=aa xs:=by unfold ES.gT;rw[h];rfl
noncomputable def ES.gL(U:ES)(x:Nat):Option (List AV):=(U.get x).bind uB
noncomputable def ES.gN(U:ES)(x:Nat):Option (List (Nat×AV)):=(U.get x).bind D4
noncomputable def ES.gI(U:ES)(x:Nat):Option (aG×Nat):=(U.get x).bind zk
noncomputable def ES.gS(U:ES)(x:Nat):Option (AV×AV):=(U.get x).bind We
noncomputable def ES.gD(U:ES)(x:Nat):Option (List (AK×AV)):=(U.get x).bind uC
noncomputable def ES.gE(U:ES)(x:Nat):Option (aG×Option Nat×Nat×Option Nat):=(U.get x).bind Sl
noncomputable def ES.gR(U:ES)(x:Nat):Option (Nat×Int):=(U.get x).bind Af
noncomputable def ES.gB(U:ES)(x:Nat):Option (Option Nat):=(U.get x).bind VW
noncomputable def ES.gC(U:ES)(x:Nat):Option (Option AV):=(U.get x).bind oCell
theorem CO{U:ES}{x:Nat}{p:Nat×Int}(h:U.gR x=aa p):U.get x=aa (.rep p.1 p.2):=oE h λo e h=>by rw[e,Cq h]
theorem Qd{U:ES}{x:Nat}{p:Option Nat}(h:U.gB x=aa p):U.get x=aa (.fQ p):=oE h λo e h=>by rw[e,abj h]
theorem Hv{U:ES}{x:Nat}{p:Option AV}(h:U.gC x=aa p):U.get x=aa (.cell p):=oE h λo e h=>by rw[e,FT h]
theorem RB{U:ES}{x:Nat}{a:Option AV}(h:U.get x=aa (.cell a)):U.gC x=aa a:=by unfold ES.gC;rw[h];rfl
theorem jM{U:ES}{x:Nat}{xs:List AV}(h:U.gL x=aa xs):U.get x=aa (.list xs):=oE h λo e h=>by rw[e,vL h]
theorem kQ{U:ES}{x:Nat}{kvs:List (Nat×AV)}(h:U.gN x=aa kvs):U.get x=aa (.ns kvs):=oE h λo e h=>by rw[e,GH h]
theorem GS{U:ES}{x:Nat}{p:aG×Nat}(h:U.gI x=aa p):U.get x=aa (.inst p.1 p.2):=oE h λo e h=>by rw[e,Ce h]
theorem PU{U:ES}{x:Nat}{p:AV×AV}(h:U.gS x=aa p):U.get x=aa (.slice p.1 p.2):=oE h λo e h=>by rw[e,ab2 h]
theorem qZ{U:ES}{x:Nat}{kvs:List (AK×AV)}(h:U.gD x=aa kvs):U.get x=aa (.dict kvs):=oE h λo e h=>by rw[e,Cf h]
theorem r9{U:ES}{x:Nat}{p:aG×Option Nat×Nat×Option Nat}(h:U.gE x=aa p):U.get x=aa (.exc p.1 p.2.1 p.2.2.1 p.2.2.2):=oE h λo e h=>by rw[e,aaX h]
theorem lP{U:ES}{x:Nat}{xs:List AV}(h:U.get x=aa (.list xs)):U.gL x=aa xs:=by unfold ES.gL;rw[h];rfl
theorem qi{U:ES}{x:Nat}{kvs:List (Nat×AV)}(h:U.get x=aa (.ns kvs)):U.gN x=aa kvs:=by unfold ES.gN;rw[h];rfl
theorem zq{U:ES}{x:Nat}{K:aG}{d:Nat}(h:U.get x=aa (.inst K d)):U.gI x=aa (K,d):=by unfold ES.gI;rw[h];rfl
theorem QB{U:ES}{x:Nat}{l u:AV}(h:U.get x=aa (.slice l u)):U.gS x=aa (l,u):=by unfold ES.gS;rw[h];rfl
theorem Di{U:ES}{x:Nat}{kvs:List (AK×AV)}(h:U.get x=aa (.dict kvs)):U.gD x=aa kvs:=by unfold ES.gD;rw[h];rfl
noncomputable def iH(a:AV):Option Int:=match a with| .int i=>(match i with| .lit i=>aa i|_=>af)|_=>af
theorem qT{a:AV}{i:Int}(h:iH a=aa i):a= .int (.lit i):=by
 cases a with
 |int q=>cases q<;>first|exact aN h|(rw[<-aX h])
 |_=>exact aN h
noncomputable def ry(i:Int):Option Nat:=match i with| .ofNat n=>aa n|_=>af
theorem yK{i:Int}{n:Nat}(h:ry i=aa n):i= .ofNat n:=by
 cases i with
 |ofNat m=>rw[<-aX h]
 |negSucc m=>exact aN h
noncomputable def AV.isNil:AV->Bool
 | .none=>ah
 |_=>ak
theorem yy{a:AV}(h:a.isNil=ah):a= .none:=by cases a<;>first|rfl|exact cB h
noncomputable def fU:AV->Option Nat
 | .ref x=>aa x
 |_=>af
noncomputable def lu:AV->Option aG
 | .adr x=>aa x
 |_=>af
noncomputable def mQ:AV->Option (List Nat)
 | .str x=>aa x
 |_=>af
noncomputable def AU:AV->Option Nat
 | .bi x=>aa x
 |_=>af
noncomputable def vd:AV->Option Nat
 | .ty x=>aa x
 |_=>af
theorem aci{a:AV}{x:Nat}(h:AU a=aa x):a= .bi x:=by cases a<;>first|exact aN h|(rw[<-aX h])
theorem abM{a:AV}{x:Nat}(h:vd a=aa x):a= .ty x:=by cases a<;>first|exact aN h|(rw[<-aX h])
theorem kh{a:AV}{x:Nat}(h:fU a=aa x):a= .ref x:=by cases a<;>first|exact aN h|(rw[<-aX h])
theorem vO{a:AV}{x:aG}(h:lu a=aa x):a= .adr x:=by cases a<;>first|exact aN h|(rw[<-aX h])
theorem Gn{a:AV}{x:List Nat}(h:mQ a=aa x):a= .str x:=by cases a<;>first|exact aN h|(rw[<-aX h])
inductive R(I:Type)where
 |ok (a:I) (U:ES)
 |exc (x:Nat) (U:ES)
 |alt (r r':R I)
 |stuck
noncomputable def gr{I H:Type}(f:I->ES->R H)(g:Nat->ES->R H)(r:R I):R H:=@R.rec I (λ_=>R H) f g (λ_ _ a b=>.alt a b) .stuck r
noncomputable def bindR{I H:Type}(r:R I)(k:I->ES->R H):R H:=gr k .exc r
noncomputable def Ug{I:Type}(f:Nat->R I)(i:Nat)(l:List Nat):R I:=@Ga Nat (λ_=>Nat->R I) (λi=>f i) (λj _ ih i=>.alt (f i) (ih j)) l i
noncomputable def Um{I:Type}(f:Nat->R I)(n:Nat):R I:=@qV (λ_=>R I) (f 0) (λk ih=>.alt ih (f (k+1))) n
noncomputable def bz{I H:Type}(r:Option I)(k:I->R H):R H:=match r with
 |some a=>k a
 |none=>.stuck
structure CX where
 loc:Nat
 fr:Nat
 cells:List (Nat×Nat)
 code:Nat
structure FI where
 params:List Nat
 dflt:List AV
 cells:List Nat
 body:List CS
inductive Spec where
 |next
 |flat
structure EC where
 fn:aG->Option FI
 spec:aG->Option Spec
 fC:aG->Bool
 may:aG->Bool
 isExc:aG->Bool
 cls:aG->Nat->Option (Option aG)
 rB:aG->Nat->Option aG
 sub:aG->aG->Option Bool
 zA:aG->Bool
 wF:aG->aG->Option Bool
 tups:aG->Option (List AV)
 oj:aG->Option (List (List Nat×AV))
 lists:aG->Option (List AV)
 tabOf:Nat->Option Nat
 sym:Nat->Nat->Option (List Nat)
noncomputable def ri(l:List (Nat×Nat))(k:Nat):Option Nat:=@Ga (Nat×Nat) (λ_=>Option Nat) af (λp _ ih=>@ee (λ_=>Option Nat) ih (aa p.2) (aH p.1 k)) l
noncomputable def k9:List Nat->List Nat->Bool
 | [],[]=>ah
 |a::l,b::m=>match aH a b with|true=>k9 l m|false=>ak
 |_,_=>ak
noncomputable def iP(a b:Int):Bool:=@Int.rec (λ_=>Bool) (λm=>@Int.rec (λ_=>Bool) (λn=>aH m n) (λ_=>ak) b) (λm=>@Int.rec (λ_=>Bool) (λ_=>ak) (λn=>aH m n) b) a
noncomputable def ltI(a b:Int):Bool:=match a,b with
 | .ofNat m,.ofNat n=>cZ m n
 | .ofNat _,.negSucc _=>ak
 | .negSucc _,.ofNat _=>ah
 | .negSucc m,.negSucc n=>cZ n m
noncomputable def fq(i:Int):Int:=match i with
 | .ofNat n=>match n with
  |0=>.ofNat 0
  |m+1=>.ofNat (m+1)
 | .negSucc n=>match n with
  |0=>.negSucc 0
  |m+1=>.negSucc (m+1)
noncomputable def JV(f:Int->Int->Bool)(i j:AI):Option Bool:=@AI.rec (λ_=>Option Bool) (λa=>@AI.rec (λ_=>Option Bool) (λb=>aa (f a b)) (λ_ _=>af) j) (λk a=>@AI.rec (λ_=>Option Bool) (λ_=>af) (λl b=>cond (aH k l) (aa (f a b)) af) j) i
noncomputable def sF(i j:AI):Option Bool:=JV iP i j
noncomputable def uM(i j:AI):Option Bool:=JV ltI i j
noncomputable def uo(i j:AI):Option AI:=@AI.rec (λ_=>Option AI) (λa=>@AI.rec (λ_=>Option AI) (λb=>aa (.lit (fq (a+b)))) (λk b=>aa (.var k (fq (a+b)))) j) (λk a=>@AI.rec (λ_=>Option AI) (λb=>aa (.var k (fq (a+b)))) (λ_ _=>af) j) i
noncomputable def H7(i j:AI):Option AI:=@AI.rec (λ_=>Option AI) (λa=>@AI.rec (λ_=>Option AI) (λb=>aa (.lit (fq (a- b)))) (λ_ _=>af) j) (λk a=>@AI.rec (λ_=>Option AI) (λb=>aa (.var k (fq (a- b)))) (λ_ _=>af) j) i
noncomputable def fG.go(f:AV->AV->Option Bool):List AV->List AV->Option Bool
 |x::xs,y::ys=>(f x y).bind λp=>(fG.go f xs ys).bind λq=>aa (p&&q)
 |_,_=>aa ah
noncomputable def mO:AV->Option AI
 | .int i=>aa i
 |_=>af
theorem Ge{a:AV}{i:AI}(h:mO a=aa i):a= .int i:=by cases a<;>first|exact aN h|(rw[<-aX h])
noncomputable def se:AV->Option Bool
 | .bool p=>aa p
 |_=>af
theorem FY{a:AV}{p:Bool}(h:se a=aa p):a= .bool p:=by cases a<;>first|exact aN h|(rw[<-aX h])
noncomputable def aj3(U:ES)(f:AV->AV->Option Bool)(a b:AV):Option Bool:=match a with
 | .int i=>(mO b).elim (cond b.isNil (aa ak) af) (sF i)
 | .str s=>(mQ b).bind λt=>aa (k9 s t)
 | .none=>cond b.isNil (aa ah) ((mO b).bind λ_=>aa ak)
 | .bool p=>(se b).bind λq=>aa (p==q)
 | .ref x=>(fU b).bind λy=>(U.gL x).bind λxs=>(U.gL y).bind λys=>cond (aH xs.length ys.length) (fG.go f xs ys) (aa ak)
 | .adr _=>af
 | .bi _=>af
 | .ty _=>af
 | .top=>af
noncomputable def fG(U:ES):Nat->AV->AV->Option Bool
 |0,_,_=>af
 |n+1,a,b=>aj3 U (fG U n) a b
theorem we{U:ES}{n x y:Nat}{xs ys:List AV}(hx:U.get x=aa (.list xs))(hy:U.get y=aa (.list ys)):fG U (n+1) (.ref x) (.ref y)=cond (aH xs.length ys.length) (fG.go (fG U n) xs ys) (aa ak):=by show(U.gL x).bind _=_;rw[lP hx];show(U.gL y).bind _=_;rw[lP hy];rfl
noncomputable def uF(n:Nat)(i:Int):Option Nat:=match i with
 | .ofNat k=>match cZ k n with
  |true=>aa k
  |false=>af
 | .negSucc k=>match cZ k n with
  |true=>aa (n-(k+1))
  |false=>af
noncomputable def CR(n:Nat)(i:Int):Nat:=match i with
 | .ofNat k=>match cZ k n with
  |true=>k
  |false=>n
 | .negSucc k=>match cZ k n with
  |true=>n-(k+1)
  |false=>0
noncomputable def J9(n:Nat):AV->Option Nat
 | .none=>aa 0
 | .int (.lit i)=>aa (CR n i)
 |_=>af
noncomputable def hiL(n:Nat):AV->Option Nat
 | .none=>aa n
 | .int (.lit i)=>aa (CR n i)
 |_=>af
noncomputable def DK(xs:List AV)(l u:AV):Option (List AV):=(J9 xs.length l).bind λa=>(hiL xs.length u).bind λb=>aa ((xs.drop a).take (b- a))
noncomputable def qe(f:AK->Option Bool):List (AK×AV)->Option (Option AV)
 | []=>aa af
 |p::l=>match f p.1 with
  |some ah=>aa (aa p.2)
  |some ak=>qe f l
  |none=>af
noncomputable def putD(f:AK->Option Bool)(k:AK)(v:AV):List (AK×AV)->Option (List (AK×AV))
 | []=>aa [(k,v)]
 |p::l=>match f p.1 with
  |some ah=>aa ((p.1,v)::l)
  |some ak=>(putD f k v l).map (p:: ·)
  |none=>af
noncomputable def delD(f:AK->Option Bool):List (AK×AV)->Option (List (AK×AV))
 | []=>aa []
 |p::l=>match f p.1 with
  |some ah=>aa l
  |some ak=>(delD f l).map (p:: ·)
  |none=>af
noncomputable def ja:AV->AK->Option Bool
 | .str s,.str t=>aa (k9 s t)
 | .int i,.int j=>sF i j
 | .str _,.int _=>aa ak
 | .int _,.str _=>aa ak
 |_,_=>af
noncomputable def keyOf:AV->Option AK
 | .str s=>aa (.str s)
 | .int i=>aa (.int i)
 |_=>af
noncomputable def findD(a:AV)(kvs:List (AK×AV)):Option (Option AV):=match keyOf a with
 |some _=>qe (ja a) kvs
 |none=>af
noncomputable def wC:List (List Nat×AV)->List Nat->Option AV
 | [],_=>af
 |p::l,k=>match k9 p.1 k with
  |true=>aa p.2
  |false=>wC l k
noncomputable def C5(i:Int):Option (List Nat):=match i with
 | .ofNat n=>(match cZ n 10 with
  |true=>aa [48+n]
  |false=>af)
 | .negSucc _=>af
noncomputable def Am(a b:AV):Option Bool:=(mO a).bind λi=>(mO b).bind λj=>uM i j
noncomputable def AV.solid:AV->Bool
 | .none=>ak
 | .bool _=>ak
 | .int _=>ah
 | .str _=>ah
 | .ref _=>ah
 | .adr _=>ah
 | .bi _=>ak
 | .ty _=>ak
 | .top=>ak
noncomputable def isA(a b:AV):Option Bool:=cond b.isNil (cond a.isNil (aa ah) (cond a.solid (aa ak) af)) af
noncomputable def JT(C:EC)(U:ES)(a b:AV):Option Bool:=(fU b).elim
 ((lu b).bind λt=>(C.tups t).bind λxs=>(mQ a).bind λs=>cond (xs.all λx=>(mQ x).isSome) (aa (xs.any λx=>(mQ x).any λu=>k9 u s)) af)
 λy=>(U.gD y).bind λkvs=>(findD a kvs).map Option.isSome
noncomputable def jv(C:EC)(o:lO)(a b:AV)(U:ES):Option Bool:=match o with
 | .Eq=>fG U 8 a b
 | .NotEq=>(fG U 8 a b).map (!·)
 | .Lt=>Am a b
 | .Gt=>Am b a
 | .LtE=>(Am b a).map (!·)
 | .GtE=>(Am a b).map (!·)
 | .Is=>isA a b
 | .IsNot=>(isA a b).map (!·)
 | .In=>JT C U a b
 | .NotIn=>(JT C U a b).map (!·)
noncomputable def sE(n:Nat):Nat:=match n with
 |0=>0
 |m+1=>m+1
noncomputable def fits(n:Nat):Bool:=fB n 1000000
noncomputable def DI(x y:AO)(U:ES):Option (AV×ES):=match x with
 | .list xs=>(match y with
  | .list ys=>(match fits (xs.length+ys.length)with|true=>let r:=U.add (.list (xs++ys));aa (.ref r.1,r.2)|false=>af)
  |_=>af)
 | .rep a i=>(match y with
  | .rep b j=>(match fits (a+b)&&iP i j with|true=>let r:=U.add (.rep (sE (a+b)) i);aa (.ref r.1,r.2)|false=>af)
  |_=>af)
 |_=>af
noncomputable def Ui(a b:AV)(U:ES):Option (AV×ES):=match a with
 | .int i=>(match b with| .int j=>(uo i j).map λk=>(.int k,U)|_=>af)
 | .str s=>(match b with| .str t=>(match fits (s.length+t.length)with|true=>aa (.str (s++t),U)|false=>af)|_=>af)
 | .ref x=>(match b with| .ref y=>(match U.get x with|some ox=>(match U.get y with|some oy=>DI ox oy U|none=>af)|none=>af)|_=>af)
 |_=>af
noncomputable def Tt(x:AO)(n:Nat)(U:ES):Option (AV×ES):=match x with
 | .list xs=>(match fits n&&fits (xs.length*n)with|true=>let r:=U.add (.list (nU n xs).flatten);aa (.ref r.1,r.2)|false=>af)
 |_=>af
noncomputable def I4(a b:AV)(U:ES):Option (AV×ES):=match iH b with
 |some j=>(match a with
  | .int i=>(match i with| .lit i=>(match ltI (-18446744073709551616) j,ltI j 18446744073709551616 with|true,ah=>aa (.int (.lit (fq (i*j))),U)|_,_=>af)|_=>af)
  | .ref x=>(match ry j with|some n=>(match U.get x with|some ox=>Tt ox n U|none=>af)|none=>af)
  |_=>af)
 |none=>af
noncomputable def Iz(a b:AV)(U:ES):Option (AV×ES):=match iH a with
 |some i=>(match iH b with|some j=>(match ltI 0 j with|true=>aa (.int (.lit (fq (Gb i j))),U)|false=>af)|none=>af)
 |none=>af
noncomputable def Jj(a b:AV)(U:ES):Option (AV×ES):=match(iH a).bind ry with
 |some i=>(match(iH b).bind ry with|some j=>(match cZ i 1000,cZ j 1000 with|true,ah=>aa (.int (.lit (.ofNat (Nat.pow i j))),U)|_,_=>af)|none=>af)
 |none=>af
noncomputable def Tz(a b:AV)(U:ES):Option (AV×ES):=match a with
 | .int i=>(match b with| .int j=>(H7 i j).map λk=>(.int k,U)|_=>af)
 |_=>af
noncomputable def rD(o:jI)(a b:AV)(U:ES):Option (AV×ES):=match o with
 | .Add=>Ui a b U
 | .Sub=>Tz a b U
 | .Mult=>I4 a b U
 | .Mod=>Iz a b U
 | .Pow=>Jj a b U
 |_=>af
noncomputable def Qq(x F:Nat)(q:aG×Option Nat×Nat×Option Nat)(U:ES):ES:=let r:=U.add (.fQ (aa F));r.2.put x (.exc q.1 q.2.1 q.2.2.1 (aa r.1))
noncomputable def zx(x F:Nat)(U:ES):Option ES:=(U.gE x).bind λq=>q.2.2.2.elim (aa (Qq x F q U)) λt=>(U.gB t).bind λfl=>cond (fl.any (aH F)) (aa U) (cond (fl.all λG=>(U.get G).isSome&&(U.get F).isSome) (aa (Qq x F q (U.put t (.fQ af)))) af)
noncomputable def vW(x:Nat)(fl:Option Nat)(U:ES):Option ES:=(U.gE x).bind λq=>q.2.2.2.elim (aa U) λt=>(U.gB t).map λ_=>U.put t (.fQ fl)
noncomputable def ab6(x:Nat)(fl:Option Nat)(U:ES):Option ES:=(U.gE x).bind λq=>q.2.2.2.bind λ_=>vW x fl U
noncomputable def C2(x F:Nat)(U:ES):Option ES:=match zx x F U with
 |some σ'=>vW x af σ'
 |none=>af
inductive Flow where
 |next
 |cont
 |brk
 |ret (v:AV)
inductive Task where
 |e (cx:CX) (c:CE)
 |t (cx:CX) (c:CE)
 |s (cx:CX) (c:List CS)
 |dS (cx:CX) (t:CE) (b:List CS)
 |eF (cx:CX) (t:CT) (it:Nat) (b:List CS)
 |comp (cx:CX) (elt:CE) (tgt:Nat) (own:Bool) (it:Nat) (test:Option CE) (acc:Nat)
 |call (f:AV) (as:List AV)
inductive Out where
 |v (a:AV)
 |b (b:Bool)
 |f (f:Flow)
 |u
noncomputable abbrev Ev:=Nat->Task->ES->R Out
noncomputable def eS(a:AV)(U:ES):R Out:=.ok (.v a) U
noncomputable def vn(a:Bool)(U:ES):R Out:=.ok (.b a) U
noncomputable def vq(a:Flow)(U:ES):R Out:=.ok (.f a) U
noncomputable def Sj(o:Out)(U:ES):R AV:=match o with
 | .v a=>.ok a U
 |_=>.stuck
noncomputable def aja(o:Out)(U:ES):R Bool:=match o with
 | .b a=>.ok a U
 |_=>.stuck
noncomputable def outF(o:Out)(U:ES):R Flow:=match o with
 | .f a=>.ok a U
 |_=>.stuck
noncomputable def akt(o:Out)(U:ES):R Unit:=match o with
 | .u=>.ok () U
 |_=>.stuck
noncomputable def KI{I H:Type}(_:I)(_:ES):R H:=.stuck
noncomputable def cA(r:R Out):R AV:=gr Sj .exc r
noncomputable def sJ(r:R Out):R Bool:=gr aja .exc r
noncomputable def jk(r:R Out):R Flow:=gr outF .exc r
noncomputable def jz(r:R Out):R Unit:=gr akt KI r
noncomputable def gP{I:Type}(r:R I):R I:=gr .ok KI r
noncomputable def bw(ih:Ev)(d:Nat)(cx:CX)(c:CE)(U:ES):R AV:=cA (ih d (.e cx c) U)
noncomputable def fK(ih:Ev)(d:Nat)(cx:CX)(c:CE)(U:ES):R Bool:=sJ (ih d (.t cx c) U)
noncomputable def cH(ih:Ev)(d:Nat)(t:Task)(U:ES):R Flow:=jk (ih d t U)
noncomputable def dW(ih:Ev)(d:Nat)(f:AV)(as:List AV)(U:ES):R AV:=cA (ih d (.call f as) U)
noncomputable def ia(ih:Ev)(d:Nat)(cx:CX):List CE->ES->R (List AV)
 | [],U=>.ok [] U
 |c::l,U=>bindR (bw ih d cx c U) λa σ1=>bindR (ia ih d cx l σ1) λas σ2=>.ok (a::as) σ2
noncomputable def gH(cx:CX)(k:Nat)(cell:Bool)(a:AV)(U:ES):Option ES:=cond cell ((ri cx.cells k).bind λc=>(U.gC c).map λ_=>U.put c (.cell (aa a))) ((U.gN cx.loc).map λkvs=>U.put cx.loc (.ns (putN kvs k a)))
noncomputable def storeAll(cx:CX):List (Nat×AV)->ES->Option ES
 | [],U=>aa U
 |p::l,U=>(gH cx p.1 ak p.2 U).bind λσ'=>storeAll cx l σ'
noncomputable def Ht(x K:Nat)(b:Nat)(tb:Option Nat)(a:Nat)(v:AV)(p:Nat×ES):Option ES:=(p.2.gN p.1).bind λkvs=>cond kvs.isEmpty (aa ((p.2.put x (.exc K (aa p.1) b tb)).put p.1 (.ns [(a,v)]))) af
noncomputable def nK(C:EC)(K a:Nat):Bool:=(C.cls K a).elim ak Option.isNone
theorem yH{C:EC}{K a:Nat}(h:nK C K a=ah):C.cls K a=aa af:=by
 unfold nK at h;cases e:C.cls K a with
 |none=>rw[e]at h;exact cB h
 |some f=>cases f with
  |none=>rfl
  |some _=>rw[e]at h;exact cB h
noncomputable def wQ(U:ES)(d a:Nat):Option AV:=(U.gN d).bind λkvs=>(bN kvs a).bind λv=>cond v.handed (aa v) af
noncomputable def wU(U:ES)(d a:Nat)(v:AV):Option ES:=(U.gN d).bind λkvs=>cond (fB kvs.length 999) (aa (U.put d (.ns (putN kvs a v)))) af
noncomputable def rW(C:EC)(o:AV)(a:Nat)(v:AV)(U:ES):Option ES:=(fU o).bind λx=>(U.gI x).elim
 ((U.gE x).bind λq=>cond (C.isExc q.1&&nK C q.1 a) (q.2.1.elim (Ht x q.1 q.2.2.1 q.2.2.2 a v (U.add (.ns []))) λd=>wU U d a v) af)
 λq=>cond (C.fC q.1&&nK C q.1 a) (wU U q.2 a v) af
noncomputable def rY(C:EC)(o:AV)(a:Nat)(U:ES):Option AV:=(fU o).bind λx=>(U.gI x).elim
 ((U.gE x).bind λq=>q.2.1.bind λd=>cond (C.isExc q.1&&nK C q.1 a) (wQ U d a) af)
 λq=>cond (C.fC q.1&&nK C q.1 a) (wQ U q.2 a) af
theorem NS{U:ES}{d a:Nat}{v:AV}(h:wQ U d a=aa v):∃kvs,U.get d=aa (.ns kvs)/\bN kvs a=aa v/\v.handed=ah:=
 oE h λkvs hk h=>oE h λu hu h=>bE h λhh h=>⟨kvs,kQ hk,by rw[hu,h],by rw[<-aX h];exact hh⟩
theorem NF{U σ':ES}{d a:Nat}{v:AV}(h:wU U d a v=aa σ'):∃kvs,U.get d=aa (.ns kvs)/\kvs.length<=999/\σ'=U.put d (.ns (putN kvs a v)):=
 oE h λkvs hk h=>bE h λhz h=>⟨kvs,kQ hk,fH hz,(aX h).symm⟩
theorem ab3{U:ES}{d a:Nat}{kvs:List (Nat×AV)}{v:AV}(h4:U.get d=aa (.ns kvs))(h5:bN kvs a=aa v)(h6:v.handed=ah):wQ U d a=aa v:=by unfold wQ;rw[qi h4];show(bN kvs a).bind _=_;rw[h5];show cond v.handed _ _=_;rw[h6];rfl
theorem abE{U:ES}{d a:Nat}{kvs:List (Nat×AV)}{v:AV}(h4:U.get d=aa (.ns kvs))(h5:fB kvs.length 999=ah):wU U d a v=aa (U.put d (.ns (putN kvs a v))):=by unfold wU;rw[qi h4];show cond (fB kvs.length 999) _ _=_;rw[h5];rfl
theorem Nb{C:EC}{U:ES}{x K d a:Nat}{kvs:List (Nat×AV)}{v:AV}(h1:U.get x=aa (.inst K d))(h2:C.fC K=ah)(h3:C.cls K a=aa af)(h4:U.get d=aa (.ns kvs))(h5:bN kvs a=aa v)(h6:v.handed=ah):rY C (.ref x) a U=aa v:=by show(U.gI x).elim _ _=_;rw[zq h1];show cond (C.fC K&&nK C K a) (wQ U d a) af=_;rw[h2,show nK C K a=ah from by unfold nK;rw[h3];rfl,ab3 h4 h5 h6];rfl
theorem OG{C:EC}{U:ES}{x K d a:Nat}{kvs:List (Nat×AV)}{v:AV}(h1:U.get x=aa (.inst K d))(h2:C.fC K=ah)(h3:C.cls K a=aa af)(h4:U.get d=aa (.ns kvs))(h5:fB kvs.length 999=ah):rW C (.ref x) a v U=aa (U.put d (.ns (putN kvs a v))):=by show(U.gI x).elim _ _=_;rw[zq h1];show cond (C.fC K&&nK C K a) (wU U d a v) af=_;rw[h2,show nK C K a=ah from by unfold nK;rw[h3];rfl,abE h4 h5];rfl
noncomputable def Jd(xs:List AV)(i:AV)(U:ES):Option (AV×ES):=(fU i).bind λy=>(U.gS y).bind λp=>cond (fits xs.length) ((DK xs p.1 p.2).map λys=>let r:=U.add (.list ys);(.ref r.1,r.2)) af
noncomputable def rX(C:EC)(o i:AV)(U:ES):Option (AV×ES):=(fU o).elim
 ((lu o).bind λt=>(mQ i).elim ((C.lists t).bind λxs=>Jd xs i U) λs=>(C.oj t).bind λkvs=>(wC kvs s).map (·,U))
 λx=>(U.gL x).bind λxs=>(iH i).elim (Jd xs i U) λk=>(uF xs.length k).bind λj=>cond (ltI (-9000000000000000000) k&&ltI k 9000000000000000000) ((xs[j]?).map (·,U)) af
noncomputable def tW(o i v:AV)(U:ES):Option ES:=(fU o).bind λx=>(U.gL x).elim
 ((U.gD x).bind λkvs=>(keyOf i).bind λk=>cond (fits kvs.length) ((putD (ja i) k v kvs).map λl=>U.put x (.dict l)) af)
 λxs=>(iH i).elim
  ((fU i).bind λy=>(U.gS y).bind λp=>cond (p.1.isNil&&p.2.isNil) ((fU v).bind λz=>(U.gL z).bind λys=>cond (fits (xs.length+ys.length)) (aa (U.put x (.list ys))) af) af)
  λn=>(ry n).bind λk=>cond (cZ k xs.length&&fits xs.length) (aa (U.put x (.list (xs.set k v)))) af
noncomputable def zJ(n:Nat):Option Nat:=cond (fits n) (aa n) af
theorem aaq{n k:Nat}(h:zJ n=aa k):fits n=ah/\k=n:=bE h λq e=>⟨q,(aX e).symm⟩
noncomputable def ah5(C:EC)(a:AV)(U:ES):Option Nat:=(fU a).elim ((lu a).bind λt=>(C.lists t).bind λxs=>zJ xs.length)
 λx=>(U.gL x).elim ((U.gR x).bind λp=>zJ p.1) λxs=>zJ xs.length
noncomputable def wz:AV->Option Nat
 | .none=>aa 0
 | .bool _=>aa 1
 | .int _=>aa 2
 | .str _=>aa 3
 | .ref _=>af
 | .adr _=>af
 | .bi _=>af
 | .ty _=>af
 | .top=>af
noncomputable def G8(C:EC)(a:AV)(U:ES):Option aG:=(fU a).bind λx=>(U.gI x).bind λp=>(U.gN p.2).bind λ_=>cond (C.fC p.1) (aa p.1) af
noncomputable def Vj(k n:Nat):Bool:=(aH k 1&&(aH n 3||aH n 4))||(aH k 2&&aH n 4)||(aH k 3&&aH n 8)
noncomputable def Od(C:EC)(a:AV)(c:AV)(U:ES):Option Bool:=(vd c).elim
 ((lu c).bind λK=>(wz a).elim ((G8 C a U).bind λK'=>C.sub K' K) λ_=>cond (C.zA K) (aa ak) af)
 λn=>cond (aH n 3||aH n 4||aH n 8) ((wz a).elim ((G8 C a U).map λ_=>ak) λk=>aa (Vj k n)) af
noncomputable def zS(o:AO)(n:Nat)(U:ES):Option (AV×ES):=cond (fits n) (let r:=U.add o;aa (.ref r.1,r.2)) af
noncomputable def Rc(as:List AV)(U:ES):Option (AV×ES):=(l1 as).bind λa=>(iH a).map λi=>(.int (.lit (fq i.natAbs)),U)
noncomputable def PO(C:EC)(as:List AV)(U:ES):Option (AV×ES):=(l2 as).bind λp=>(Od C p.1 p.2 U).map λb=>(.bool b,U)
noncomputable def RQ(C:EC)(as:List AV)(U:ES):Option (AV×ES):=(l1 as).bind λa=>(ah5 C a U).map λ(n:Nat)=>(.int (.lit (fq n)),U)
noncomputable def RM(as:List AV)(U:ES):Option (AV×ES):=(l2 as).bind λp=>(mO p.1).bind λi=>(mO p.2).bind λj=>(uM i j).map λb=>(.int (cond b j i),U)
noncomputable def Rd(as:List AV)(U:ES):Option (AV×ES):=(l2 as).bind λp=>(mO p.1).bind λi=>(mO p.2).bind λj=>(uM j i).map λb=>(.int (cond b j i),U)
noncomputable def DM(x:Nat)(q:aG×Option Nat×Nat×Option Nat)(a:AV)(U:ES):AV×ES:=let r:=U.add (.tup [a]);(.none,r.2.put x (.exc q.1 q.2.1 r.1 q.2.2.2))
noncomputable def Q2(C:EC)(as:List AV)(U:ES):Option (AV×ES):=(l2 as).bind λp=>(fU p.1).bind λx=>(U.gE x).bind λq=>cond (C.isExc q.1) (aa (DM x q p.2 U)) af
noncomputable def QV(kvs:List (AK×AV)):List AV:=kvs.map λp=>match p.1 with| .str s=>.str s| .int i=>.int i
noncomputable def G4(as:List AV)(U:ES):Option (AV×ES):=(l1 as).bind λa=>(fU a).bind λx=>(U.gL x).elim
 ((U.gR x).elim ((U.gD x).bind λkvs=>zS (.list (QV kvs)) kvs.length U) λp=>zS (.rep p.1 p.2) p.1 U) λxs=>zS (.list xs) xs.length U
noncomputable def Qo(as:List AV)(U:ES):Option (AV×ES):=(l1 as).bind λa=>(se a).map λb=>(.int (.lit (cond b 1 0)),U)
noncomputable def Rl(as:List AV)(U:ES):Option (AV×ES):=(l1 as).bind λa=>(iH a).bind λi=>(C5 i).map λs=>(.str s,U)
noncomputable def Gu(as:List AV)(U:ES):Option (AV×ES):=(l1 as).bind λa=>(iH a).bind λi=>cond (ltI (-1000000000000) i&&ltI i 1000000000000) (let r:=U.add (.lY i);aa (.ref r.1,r.2)) af
noncomputable def nj(C:EC)(f:AV)(as:List AV)(U:ES):Option (AV×ES):=(AU f).elim
 ((vd f).bind λk=>cond (aH k 4) (Qo as U) (cond (aH k 5) (G4 as U) (cond (aH k 7) (Gu as U) (cond (aH k 8) (Rl as U) af))))
 λk=>cond (aH k 0) (Rc as U) (cond (aH k 1) (PO C as U) (cond (aH k 2) (RQ C as U) (cond (aH k 3) (RM as U) (cond (aH k 4) (Rd as U) (cond (aH k 5) (Q2 C as U) af)))))
noncomputable def uI(x:Nat)(xs:List AV)(k:Nat)(U:ES):Option (AV×ES):=cond (fits xs.length) ((xs[k]?).map λv=>(v,U.put x (.list (xs.eraseIdx k)))) af
noncomputable def Ur(x:Nat)(xs:List AV)(as:List AV)(U:ES):Option (AV×ES):=(l1 as).bind λa=>cond (fits xs.length) (aa (.none,U.put x (.list (xs++[a])))) af
noncomputable def Tn(x:Nat)(xs:List AV)(as:List AV)(U:ES):Option (AV×ES):=(l1 as).bind λa=>(fU a).bind λy=>(U.gL y).elim
 ((U.gR y).bind λp=>cond (xs.isEmpty&&fits p.1) (aa (.none,U.put x (.rep p.1 p.2))) af) λys=>cond (fits (xs.length+ys.length)) (aa (.none,U.put x (.list (xs++ys)))) af
noncomputable def RZ(x:Nat)(xs:List AV)(as:List AV)(U:ES):Option (AV×ES):=cond as.isEmpty (uI x xs (xs.length- 1) U) ((l1 as).bind λa=>(iH a).bind λi=>cond (iP i 0) (uI x xs 0 U) af)
noncomputable def Sn(x k:Nat)(i:Int)(as:List AV)(U:ES):Option (AV×ES):=(l1 as).bind λa=>(fU a).bind λy=>(U.gR y).bind λp=>cond (fits (k+p.1)&&iP i p.2) (aa (.none,U.put x (.rep (sE (k+p.1)) i))) af
noncomputable def getM(kvs:List (AK×AV))(as:List AV)(U:ES):Option (AV×ES):=(l1 as).bind λk=>(findD k kvs).map λr=>(r.elim .none id,U)
noncomputable def Th(x:Nat)(kvs:List (AK×AV))(as:List AV)(U:ES):Option (AV×ES):=(l2 as).bind λp=>(findD p.1 kvs).bind λr=>cond (fits kvs.length) (r.elim (aa (p.2,U)) λv=>(delD (ja p.1) kvs).map λl=>(v,U.put x (.dict l))) af
noncomputable def ag1(x:Nat)(xs:List AV)(m:Nat)(as:List AV)(U:ES):Option (AV×ES):=cond (aH m fL) (Ur x xs as U) (cond (aH m iR) (Tn x xs as U) (cond (aH m f9) (RZ x xs as U) af))
noncomputable def Q7(x:Nat)(kvs:List (AK×AV))(m:Nat)(as:List AV)(U:ES):Option (AV×ES):=cond (aH m jJ) (getM kvs as U) (cond (aH m f9) (Th x kvs as U) af)
noncomputable def qd(x:Nat)(o:AO)(m:Nat)(as:List AV)(U:ES):Option (AV×ES):=(uB o).elim
 ((Af o).elim ((uC o).bind λkvs=>Q7 x kvs m as U) λp=>cond (aH m iR) (Sn x p.1 p.2 as U) af)
 λxs=>ag1 x xs m as U
noncomputable def Dh(k:Bool)(x m:Nat)(vs:List AV)(σ2:ES):Option (AV×ES):=cond k ((σ2.get x).bind λo=>cond (uC o).isNone (qd x o m vs σ2) af) ((σ2.gD x).bind λkvs=>Q7 x kvs m vs σ2)
noncomputable def Kl(l:Bool)(m:Nat):String:=cond l (cond (aH m fL) "list.append" (cond (aH m iR) "list.extend" "list.pop")) (cond (aH m jJ) "dict.get" "dict.pop")
noncomputable def mE(a:AV):Option Bool:=cond a.isNil (aa ak) (se a)
noncomputable def uD(C:EC)(a:AV)(U:ES):Option (Nat×ES):=(fU a).elim ((lu a).bind λt=>(C.tups t).bind λ_=>aa (U.add (.nD a 0)))
 λx=>(U.gL x).elim ((U.gT x).elim ((U.get x).bind λob=>(Uj ob).bind λs=>cond (ltI (-1000000000000) s&&ltI s 1000000000000) (aa (U.add (.gX 0 s))) af) λ_=>aa (U.add (.nD a 0))) λ_=>aa (U.add (.jO x 0))
noncomputable def Sa(C:EC)(a:AV)(U:ES):Option (List AV):=(fU a).elim ((lu a).bind C.tups) U.gT
noncomputable def qg(it:Nat)(xs:List AV)(i:Nat)(o:AO)(U:ES):Option (Option AV×ES):=aa ((xs[i]?).elim (af,U.put it .any) λv=>(aa v,U.put it o))
noncomputable def iW(C:EC)(it:Nat)(U:ES):Option (Option AV×ES):=(U.get it).bind λob=>(J5 ob).elim
 ((J0 ob).elim ((JX ob).bind λq=>aa (cond (ltI q.1 q.2) (aa (.int (.lit q.1)),U.put it (.gX (fq (q.1+1)) q.2)) (af,U.put it .any)))
  λq=>(Sa C q.1 U).bind λxs=>qg it xs q.2 (.nD q.1 (q.2+1)) U)
 λq=>(U.gL q.1).bind λxs=>qg it xs q.2 (.jO q.1 (q.2+1)) U
theorem MI{it:Nat}{xs:List AV}{i:Nat}{o:AO}{U σ':ES}{v:AV}(h:qg it xs i o U=aa (aa v,σ')):xs[i]?=aa v/\σ'=U.put it o:=by
 unfold qg at h;cases e:xs[i]? with
 |none=>rw[e]at h;cases h
 |some u=>rw[e]at h;cases h;exact⟨rfl,rfl⟩
theorem MG{it:Nat}{xs:List AV}{i:Nat}{o:AO}{U σ':ES}(h:qg it xs i o U=aa (af,σ')):xs.length<=i/\σ'=U.put it .any:=by
 unfold qg at h;cases e:xs[i]? with
 |none=>rw[e]at h;cases h;exact⟨List.getElem?_eq_none_iff.mp e,rfl⟩
 |some u=>rw[e]at h;cases h
noncomputable def sj(_:EC)(a:AV)(U:ES):Option (List AV):=(fU a).bind λx=>(U.gL x).elim (U.gT x) aa
theorem OF{C:EC}{U:ES}{x:Nat}{xs:List AV}(h:U.get x=aa (.list xs)):sj C (.ref x) U=aa xs:=by show(U.gL x).elim _ _=_;rw[lP h];rfl
theorem yS{C:EC}{U:ES}{x:Nat}{xs:List AV}(h:U.get x=aa (.tup xs)):sj C (.ref x) U=aa xs:=by show(U.gL x).elim _ _=_;rw[show U.gL x=af from by unfold ES.gL;rw[h];rfl];exact ag9 h
noncomputable def live{I:Type}(d:Nat)(r:R I):R I:=match d with
 |0=>.stuck
 |_+1=>r
noncomputable def afu(C:EC)(ih:Ev)(d:Nat)(cx:CX)(o:CE)(a:Nat)(v:AV)(U:ES):R Unit:=bindR (gP (bw ih d cx o U)) λov σ1=>bz (rW C ov a v σ1) λσ2=>.ok () σ2
noncomputable def af5(ih:Ev)(d:Nat)(cx:CX)(o i:CE)(v:AV)(U:ES):R Unit:=bindR (gP (bw ih d cx o U)) λov σ1=>bindR (gP (bw ih d cx i σ1)) λiv σ2=>bz (tW ov iv v σ2) λσ3=>.ok () σ3
noncomputable def CV(C:EC)(ih:Ev)(d:Nat)(cx:CX)(t:CT)(v:AV)(U:ES):R Unit:=match t with
 | .nm k c=>bz (gH cx k c v U) λσ1=>.ok () σ1
 | .at o a=>afu C ih d cx o a v U
 | .sb o i=>af5 ih d cx o i v U
 | .tp _=>.stuck
noncomputable def r8(C:EC)(ih:Ev)(d:Nat)(cx:CX):List CT->List AV->ES->R Unit
 | [],[],U=>.ok () U
 |t::ts,v::vs,U=>bindR (CV C ih d cx t v U) λ_ σ1=>r8 C ih d cx ts vs σ1
 |_,_,_=>.stuck
noncomputable def nE(C:EC)(ih:Ev)(d:Nat)(cx:CX)(t:CT)(v:AV)(U:ES):R Unit:=match t with
 | .tp ts=>live d (bz (sj C v U) λvs=>cond (aH ts.length vs.length) (r8 C ih d cx ts vs U) .stuck)
 |t=>CV C ih d cx t v U
noncomputable def eN:List Nat->List (Nat×Nat)->ES->List (Nat×Nat)×ES
 | [],cs,U=>(cs,U)
 |k::l,cs,U=>match U.add (.cell af)with
  |(c,σ1)=>eN l ((k,c)::cs) σ1
noncomputable def unc{I:Type}:List I->Option (I×List I)
 | []=>af
 |a::l=>aa (a,l)
noncomputable def bindAll(cx:CX)(cells:List Nat):List Nat->List AV->ES->Option ES
 | [],as,U=>cond as.isEmpty (aa U) af
 |k::ks,as,U=>(unc as).bind λp=>(gH cx k (cells.any (aH k ·)) p.1 U).bind λσ'=>bindAll cx cells ks p.2 σ'
noncomputable def zw(ps:List Nat)(dflt as:List AV):List AV:=match dflt with
 | []=>as
 |_=>as++dflt.drop (dflt.length-(ps.length- as.length))
noncomputable def wc(cx:CX):List Nat->Option (List (Nat×Nat))
 | []=>aa []
 |k::l=>(ri cx.cells k).bind λc=>(wc cx l).map λm=>(k,c)::m
noncomputable def vS(made:List (Nat×Nat×Nat))(line col:Nat):Option Nat:=match made with
 | []=>af
 |p::l=>cond (aH p.1 line&&aH p.2.1 col) (aa p.2.2) (vS l line col)
noncomputable def HB(cx:CX)(k:Nat)(U:ES):R Out:=bz (U.gN cx.loc) λkvs=>bz (bN kvs k) λa=>eS a U
noncomputable def Ik(cx:CX)(k:Nat)(U:ES):R Out:=bz (ri cx.cells k) λc=>bz (U.gC c) λo=>bz o λa=>eS a U
noncomputable def PA(ih:Ev)(d:Nat)(cx:CX)(b:CE)(v:AV)(t:Bool)(σ1:ES):R Out:=cond t (ih d (.e cx b) σ1) (eS v σ1)
noncomputable def Ra(ih:Ev)(d:Nat)(cx:CX)(a b:CE)(U:ES):R Out:=bindR (bw ih d cx a U) λv σ1=>bz (mE v) λt=>PA ih d cx b v t σ1
noncomputable def Tq(ih:Ev)(d:Nat)(cx:CX)(a b:CE)(U:ES):R Out:=bindR (bw ih d cx a U) λv σ1=>bz (mE v) λt=>PA ih d cx b v (!t) σ1
noncomputable def SV(a:AV):Option AV:=(iH a).map λi=>.int (.lit (fq (-i)))
noncomputable def Rj(ih:Ev)(d:Nat)(cx:CX)(a:CE)(U:ES):R Out:=bindR (bw ih d cx a U) λv σ1=>bz (SV v) λr=>eS r σ1
noncomputable def QH(ih:Ev)(d:Nat)(cx:CX)(a:CE)(U:ES):R Out:=bindR (bw ih d cx a U) λv σ1=>bz (mE v) λt=>eS (.bool (!t)) σ1
noncomputable def dH(p:AV×ES):R Out:=match p with
 |(a,U)=>eS a U
noncomputable def RJ(ih:Ev)(d:Nat)(cx:CX)(o:jI)(a b:CE)(U:ES):R Out:=bindR (bw ih d cx a U) λv σ1=>bindR (bw ih d cx b σ1) λw σ2=>bz (rD o v w σ2) dH
noncomputable def Q9(ih:Ev)(d:Nat)(cx:CX)(z a b:CE)(U:ES):R Out:=bindR (fK ih d cx z U) λq σ1=>ih d (.e cx (cond q a b)) σ1
noncomputable def QK(C:EC)(ih:Ev)(d:Nat)(cx:CX)(a:CE)(o:lO)(b:CE)(U:ES):R Out:=bindR (bw ih d cx a U) λv σ1=>bindR (bw ih d cx b σ1) λw σ2=>bz (jv C o v w σ2) λr=>eS (.bool r) σ2
noncomputable def uP(p:Nat×ES):R Out:=match p with
 |(x,U)=>eS (.ref x) U
noncomputable def ze(o:AO)(n:Nat)(σ1:ES):R Out:=cond (fits n) (uP (σ1.add o)) .stuck
noncomputable def PY(ih:Ev)(d:Nat)(cx:CX)(es:List CE)(U:ES):R Out:=bindR (ia ih d cx es U) λvs σ1=>ze (.list vs) vs.length σ1
noncomputable def Qw(ih:Ev)(d:Nat)(cx:CX)(es:List CE)(U:ES):R Out:=bindR (ia ih d cx es U) λvs σ1=>ze (.tup vs) vs.length σ1
noncomputable def Oc(x:Nat)(q:AK)(vv:AV)(σ2:ES):R Out:=bz (σ2.gD x) λl=>cond l.isEmpty (eS (.ref x) (σ2.put x (.dict [(q,vv)]))) .stuck
noncomputable def Oj(ih:Ev)(d:Nat)(cx:CX)(k v:CE)(p:Nat×ES):R Out:=match p with
 |(x,U)=>bindR (gP (bw ih d cx k U)) λkv σ1=>bindR (gP (bw ih d cx v σ1)) λvv σ2=>bz (keyOf kv) λq=>Oc x q vv σ2
noncomputable def C3(ih:Ev)(d:Nat)(cx:CX)(kvs:List (CE×CE))(U:ES):R Out:=match kvs with
 | []=>uP (U.add (.dict []))
 | [(k,v)]=>Oj ih d cx k v (U.add (.dict []))
 |_=>.stuck
noncomputable def iE(C:EC)(f:AV)(U:ES):Bool:=(lu f).elim ((fU f).elim ((AU f).isSome||(vd f).isSome) λx=>(U.get x).any Uy) C.may
noncomputable def Oi(C:EC)(ih:Ev)(d:Nat)(fv:AV)(vs:List AV)(σ2:ES):R Out:=cond (iE C fv σ2) (ih d (.call fv vs) σ2) .stuck
noncomputable def OO(C:EC)(ih:Ev)(d:Nat)(cx:CX)(f:CE)(as:List CE)(U:ES):R Out:=bindR (bw ih d cx f U) λfv σ1=>bindR (ia ih d cx as σ1) λvs σ2=>Oi C ih d fv vs σ2
noncomputable def CI(C:EC)(ih:Ev)(d:Nat)(cx:CX)(f:AV)(first:List AV)(as:List CE)(σ1:ES):R Out:=bindR (ia ih d cx as σ1) λvs σ2=>Oi C ih d f (first++vs) σ2
noncomputable def CF(k:Bool)(ih:Ev)(d:Nat)(cx:CX)(x m:Nat)(as:List CE)(σ1:ES):R Out:=bindR (ia ih d cx as σ1) λvs σ2=>bz (Dh k x m vs σ2) dH
noncomputable def getD(kvs:List (List Nat×AV))(vs:List AV):Option AV:=(l2 vs).bind λp=>(mQ p.1).map λs=>(wC kvs s).elim p.2 id
noncomputable def ace(ih:Ev)(d:Nat)(cx:CX)(kvs:List (List Nat×AV))(as:List CE)(σ1:ES):R Out:=bindR (gP (ia ih d cx as σ1)) λvs σ2=>bz (getD kvs vs) λv=>eS v σ2
noncomputable def Oh(C:EC)(ih:Ev)(d:Nat)(cx:CX)(x K dd m:Nat)(as:List CE)(σ1:ES):R Out:=bz (C.cls K m) λo=>bz o λf=>bz (σ1.gN dd) λkvs=>cond (C.fC K&&(bN kvs m).isNone) (CI C ih d cx (.adr f) [.ref x] as σ1) .stuck
noncomputable def OC(ih:Ev)(d:Nat)(cx:CX)(x m:Nat)(as:List CE)(o:AO)(σ1:ES):R Out:=(uC o).elim
 (cond ((uB o).elim ((Af o).elim ak λ_=>aH m iR) λ_=>aH m fL||aH m iR||aH m f9) (CF ah ih d cx x m as σ1) .stuck)
 λ_=>cond (aH m jJ||aH m f9) (CF ak ih d cx x m as σ1) .stuck
noncomputable def CB(C:EC)(ih:Ev)(d:Nat)(cx:CX)(x m:Nat)(as:List CE)(σ1:ES):R Out:=bz (σ1.get x) λo=>(zk o).elim (OC ih d cx x m as o σ1) λp=>Oh C ih d cx x p.1 p.2 m as σ1
noncomputable def Ov(C:EC)(ih:Ev)(d:Nat)(cx:CX)(t m:Nat)(as:List CE)(σ1:ES):R Out:=(C.oj t).elim (bz (C.rB t m) λf=>CI C ih d cx (.adr f) [] as σ1) λkvs=>cond (aH m jJ) (ace ih d cx kvs as σ1) .stuck
noncomputable def vV(C:EC)(ih:Ev)(d:Nat)(cx:CX)(m:Nat)(as:List CE)(ov:AV)(σ1:ES):R Out:=(fU ov).elim
 ((lu ov).elim (bz (vd ov) λn=>cond (aH n 2&&aH m dZ) (CI C ih d cx (.bi 5) [] as σ1) .stuck) λt=>Ov C ih d cx t m as σ1)
 λx=>CB C ih d cx x m as σ1
noncomputable def PM(C:EC)(ih:Ev)(d:Nat)(cx:CX)(o:CE)(m:Nat)(as:List CE)(U:ES):R Out:=bindR (bw ih d cx o U) λov σ1=>vV C ih d cx m as ov σ1
noncomputable def Pq(C:EC)(ih:Ev)(d:Nat)(cx:CX)(o:CE)(a:Nat)(U:ES):R Out:=bindR (bw ih d cx o U) λov σ1=>bz (rY C ov a σ1) λv=>eS v σ1
noncomputable def Qs(C:EC)(ih:Ev)(d:Nat)(cx:CX)(o i:CE)(U:ES):R Out:=bindR (bw ih d cx o U) λov σ1=>bindR (bw ih d cx i σ1) λiv σ2=>bz (rX C ov iv σ2) dH
noncomputable def HL(ih:Ev)(d:Nat)(cx:CX)(l:Option CE)(U:ES):R AV:=match l with
 |some c=>bw ih d cx c U
 |none=>.ok .none U
noncomputable def Oz(ih:Ev)(d:Nat)(cx:CX)(l u:Option CE)(U:ES):R Out:=bindR (HL ih d cx l U) λlv σ1=>bindR (HL ih d cx u σ1) λuv σ2=>uP (σ2.add (.slice lv uv))
noncomputable def abZ(q acc:Nat)(σ3:ES):R Out:=bz (σ3.gN q) λ_=>eS (.ref acc) (σ3.put q .iD)
noncomputable def GQ(o:Option AO):Bool:=o.any λob=>(J5 ob).isSome||(JX ob).isSome||(J0 ob).any λp=>(fU p.1).isSome||(lu p.1).isSome
noncomputable def Ol(ih:Ev)(d:Nat)(cx:CX)(elt:CE)(tgt:Nat)(own:Bool)(test:Option CE)(it acc q:Nat)(p:List (Nat×Nat)×ES):R Out:=
 cond (GQ (p.2.get it)) (bindR (jz (ih d (.comp ⟨q,cx.fr,p.1,cx.code⟩ elt tgt own it test acc) p.2)) λ_ σ3=>abZ q acc σ3) .stuck
noncomputable def Ou(ih:Ev)(d:Nat)(cx:CX)(elt:CE)(tgt:Nat)(own:Bool)(test:Option CE)(cl:List (Nat×Nat))(it acc:Nat)(p:Nat×ES):R Out:=match p with
 |(q,U)=>Ol ih d cx elt tgt own test it acc q (eN (cond own [tgt] []) cl U)
noncomputable def Og(ih:Ev)(d:Nat)(cx:CX)(elt:CE)(tgt:Nat)(own:Bool)(test:Option CE)(cl:List (Nat×Nat))(it:Nat)(p:Nat×ES):R Out:=match p with
 |(acc,U)=>Ou ih d cx elt tgt own test cl it acc (U.add (.ns []))
noncomputable def abi(ih:Ev)(d:Nat)(cx:CX)(elt:CE)(tgt:Nat)(own:Bool)(test:Option CE)(cl:List (Nat×Nat))(p:Nat×ES):R Out:=match p with
 |(it,U)=>Og ih d cx elt tgt own test cl it (U.add (.list []))
noncomputable def yY(C:EC)(ih:Ev)(d:Nat)(cx:CX)(elt:CE)(tgt:Nat)(own:Bool)(src:CE)(test:Option CE)(free:List Nat)(U:ES):R Out:=
 bz (wc cx free) λcl=>bindR (bw ih d cx src U) λsv σ1=>bz (uD C sv σ1) λp=>abi ih d cx elt tgt own test cl p
noncomputable def PL(own tb line col:Nat)(cl:List (Nat×Nat))(body:CE)(made:List (Nat×Nat×Nat))(p:Nat×ES):R Out:=uP ((p.2.put tb (.tab (made++[(line,col,p.1)]))).add (.fn own cl p.1 body))
noncomputable def Pe(own tb line col:Nat)(cl:List (Nat×Nat))(body:CE)(made:List (Nat×Nat×Nat))(c:Option Nat)(U:ES):R Out:=match c with
 |some cd=>uP (U.add (.fn own cl cd body))
 |none=>PL own tb line col cl body made (U.add (.code own))
noncomputable def RE(C:EC)(cx:CX)(line col:Nat)(body:CE)(free:List Nat)(U:ES):R Out:=bz (C.tabOf cx.code) λtb=>bz ((U.get tb).bind zY) λmade=>bz (wc cx free) λcl=>Pe cx.code tb line col cl body made (vS made line col) U
noncomputable def afo(acc:List Nat)(a:AV):Option (List Nat):=(mQ a).bind λs=>cond (fits (acc.length+s.length)) (aa (acc++s)) af
noncomputable def Ja(ih:Ev)(d:Nat)(cx:CX):List CE->List Nat->ES->R Out
 | [],acc,U=>eS (.str acc) U
 |c::l,acc,U=>bindR (bw ih d cx c U) λa σ1=>bz (afo acc a) λacc'=>Ja ih d cx l acc' σ1
noncomputable def OP(ih:Ev)(d:Nat)(cx:CX)(es:List CE)(U:ES):R Out:=match es with
 | []=>.stuck
 | [_]=>.stuck
 |_=>Ja ih d cx es [] U
noncomputable def aj1(a:AV):Option AV:=(mQ a).elim ((iH a).bind λi=>(C5 i).map .str) λs=>cond (fits s.length) (aa (.str s)) af
noncomputable def QD(ih:Ev)(d:Nat)(cx:CX)(a:CE)(U:ES):R Out:=bindR (bw ih d cx a U) λv σ1=>bz (aj1 v) λr=>eS r σ1
noncomputable def zg(C:EC)(ih:Ev)(d:Nat)(cx:CX)(c:CE)(U:ES):R Out:=match c with
 | .none=>eS .none U
 | .tt b=>eS (.bool b) U
 | .int i=>eS (.int (.lit i)) U
 | .str s=>eS (.str s) U
 | .loc k=>HB cx k U
 | .bh k=>Ik cx k U
 | .az a=>eS a U
 | .gu a b=>Ra ih d cx a b U
 | .iZ a b=>Tq ih d cx a b U
 | .neg a=>Rj ih d cx a U
 | .dU a=>QH ih d cx a U
 | .bin o a b=>RJ ih d cx o a b U
 | .ite z a b=>Q9 ih d cx z a b U
 | .cmp a o b=>QK C ih d cx a o b U
 | .k8 .. =>.stuck
 | .list es=>PY ih d cx es U
 | .tup es=>Qw ih d cx es U
 | .dict kvs=>C3 ih d cx kvs U
 | .call f as=>OO C ih d cx f as U
 | .aY o m as=>PM C ih d cx o m as U
 | .attr o a=>Pq C ih d cx o a U
 | .sub o i=>Qs C ih d cx o i U
 | .slice l u=>Oz ih d cx l u U
 | .comp elt tgt own src test free=>yY C ih d cx elt tgt own src test free U
 | .lam line col body free=>RE C cx line col body free U
 | .jx es=>OP ih d cx es U
 | .fmt a=>QD ih d cx a U
 | .bad=>.stuck
noncomputable def QL(ih:Ev)(d:Nat)(cx:CX)(b:CE)(t:Bool)(σ1:ES):R Out:=cond t (ih d (.t cx b) σ1) (vn ak σ1)
noncomputable def Sz(ih:Ev)(d:Nat)(cx:CX)(b:CE)(t:Bool)(σ1:ES):R Out:=cond t (vn ah σ1) (ih d (.t cx b) σ1)
noncomputable def acm(C:EC)(ih:Ev)(d:Nat)(cx:CX)(w:AV)(o':lO)(c:CE)(t:Bool)(σ2:ES):R Out:=cond t (bindR (bw ih d cx c σ2) λu σ3=>bz (jv C o' w u σ3) λr=>vn r σ3) (vn ak σ2)
noncomputable def Po(C:EC)(ih:Ev)(d:Nat)(cx:CX)(a:CE)(o:lO)(b:CE)(o':lO)(c:CE)(U:ES):R Out:=
 bindR (bw ih d cx a U) λv σ1=>bindR (bw ih d cx b σ1) λw σ2=>bz (jv C o v w σ2) λt=>acm C ih d cx w o' c t σ2
noncomputable def yZ(ih:Ev)(d:Nat)(cx:CX)(c:CE)(U:ES):R Out:=bindR (bw ih d cx c U) λv σ1=>bz (mE v) λt=>vn t σ1
noncomputable def ud(C:EC)(ih:Ev)(d:Nat)(cx:CX)(c:CE)(U:ES):R Out:=match c with
 | .gu a b=>bindR (fK ih d cx a U) λt σ1=>QL ih d cx b t σ1
 | .iZ a b=>bindR (fK ih d cx a U) λt σ1=>Sz ih d cx b t σ1
 | .dU a=>bindR (fK ih d cx a U) λt σ1=>vn (!t) σ1
 | .ite z a b=>bindR (fK ih d cx z U) λq σ1=>ih d (.t cx (cond q a b)) σ1
 | .k8 a o b o' c=>Po C ih d cx a o b o' c U
 | .list _=>.stuck
 | .tup _=>.stuck
 | .dict _=>.stuck
 | .slice _ _=>.stuck
 | .comp .. =>.stuck
 | .lam .. =>.stuck
 | .jx _=>.stuck
 | .fmt _=>.stuck
 | .bad=>.stuck
 |c=>yZ ih d cx c U
noncomputable def isAdd:jI->Bool
 | .Add=>ah
 |_=>ak
noncomputable def DG(op:jI)(a b:AV):Option AV:=cond (isAdd op) ((mO a).bind λi=>(mO b).bind λj=>(uo i j).map .int) af
noncomputable def NZ{I:Type}(fl:Option Nat)(x:Nat)(U:ES):R I:=bz (ab6 x fl U) λσ1=>.exc x σ1
noncomputable def GA(fl:Option Nat)(r:R Flow):R Flow:=gr .ok (NZ fl) r
noncomputable def HV{I:Type}(F:Nat)(x:Nat)(U:ES):R I:=bz (zx x F U) λσ1=>.exc x σ1
noncomputable def Dn(F:Nat)(r:R Out):R Out:=gr .ok (HV F) r
noncomputable def Q3(C:EC)(ih:Ev)(d:Nat)(cx:CX)(o:CE)(a:Nat)(op:jI)(e:CE)(U:ES):R Flow:=
 bindR (gP (bw ih d cx o U)) λov σ1=>bz (rY C ov a σ1) λold=>bindR (gP (bw ih d cx e σ1)) λv σ2=>bz (DG op old v) λr=>bz (rW C ov a r σ2) λbA=>.ok .next bA
noncomputable def Qh(ih:Ev)(d:Nat)(cx:CX)(k:Nat)(cell:Bool)(op:jI)(e:CE)(U:ES):R Flow:=
 bindR (gP (bw ih d cx (cond cell (.bh k) (.loc k)) U)) λold σ1=>bindR (gP (bw ih d cx e σ1)) λv σ2=>bz (DG op old v) λr=>bz (gH cx k cell r σ2) λbA=>.ok .next bA
noncomputable def afY(C:EC)(ih:Ev)(d:Nat)(cx:CX)(t:CT)(e:CE)(b:List CS)(U:ES):R Flow:=
 bindR (bw ih d cx e U) λv σ1=>bz (uD C v σ1) λp=>GA (aa cx.fr) (cH ih d (.eF cx t p.1 b) p.2)
noncomputable def ahw(C:EC)(x K D:Nat)(σ1:ES):R Flow:=cond (C.isExc K) (bz (σ1.gN D) λ_=>.exc x σ1) .stuck
noncomputable def Rv(C:EC)(d:Nat)(v:AV)(σ1:ES):R Flow:=live d (bz (fU v) λx=>bz (σ1.gE x) λq=>bz q.2.1 λD=>cond q.2.2.2.isNone (ahw C x q.1 D σ1) .stuck)
noncomputable def PV(cx:CX)(name:Nat)(f:Flow)(dP:ES):R Flow:=bz (gH cx name ak .none dP) λdR=>bz (dR.gN cx.loc) λ_=>.ok f (dR.put cx.loc .iD)
noncomputable def adU(C:EC)(x:Nat)(c:AV)(U:ES):Option Bool:=(lu c).bind λK=>(U.gE x).bind λq=>q.2.1.bind λD=>(U.gN D).bind λ_=>C.wF q.1 K
noncomputable def adS(ih:Ev)(cx:CX)(name:Nat)(h:List CS)(x:Nat)(bA:ES)(t:Bool):R Flow:=cond t (bz (vW x af bA) λbT=>bz (gH cx name ak (.ref x) bT) λfz=>bindR (gP (cH ih 0 (.s cx h) fz)) λf dP=>PV cx name f dP) .stuck
noncomputable def aen(C:EC)(ih:Ev)(d:Nat)(cx:CX)(cls:CE)(name:Nat)(h:List CS)(x:Nat)(σ1:ES):R Flow:=
 bz (zx x cx.fr σ1) λσ2=>bz (vW x af σ2) λσ3=>bindR (gP (bw ih 0 cx cls σ3)) λc bA=>bz (adU C x c bA) λt=>adS ih cx name h x bA t
noncomputable def QI(C:EC)(ih:Ev)(d:Nat)(cx:CX)(cls:CE)(name:Nat)(h:List CS)(r:R Flow):R Flow:=gr .ok (aen C ih d cx cls name h) r
noncomputable def agL(C:EC)(cx:CX)(ks:List Nat)(v:AV)(σ1:ES):R Flow:=bz (sj C v σ1) λvs=>cond (aH ks.length vs.length) (bz (storeAll cx (ks.zip vs).reverse σ1) λσ2=>.ok .next σ2) .stuck
noncomputable def PN(C:EC)(ih:Ev)(d:Nat)(cx:CX)(ks:List Nat)(e:CE)(U:ES):R Flow:=bindR (bw ih d cx e U) (agL C cx ks)
noncomputable def kr(C:EC)(ih:Ev)(d:Nat)(cx:CX)(s:CS)(U:ES):R Flow:=match s with
 | .expr e=>bindR (bw ih d cx e U) λ_ σ1=>.ok .next σ1
 | .ret e=>bindR (bw ih d cx e U) λv σ1=>.ok (.ret v) σ1
 | .asg t e=>bindR (bw ih d cx e U) λv σ1=>bindR (nE C ih d cx t v σ1) λ_ σ2=>.ok .next σ2
 | .sD t e=>bindR (cA (zg C ih d cx e U)) λv σ1=>bindR (nE C ih d cx t v σ1) λ_ σ2=>.ok .next σ2
 | .iO ks e=>live d (PN C ih d cx ks e U)
 | .aug o a op e=>Q3 C ih d cx o a op e U
 | .uK k cell op e=>Qh ih d cx k cell op e U
 | .iff z a b=>bindR (fK ih d cx z U) λq σ1=>cH ih d (.s cx (cond q a b)) σ1
 | .dS z b=>GA (aa cx.fr) (cH ih d (.dS cx z b) U)
 | .eF t e b=>afY C ih d cx t e b U
 | .Dq e=>bindR (bw ih d cx e U) (Rv C d)
 | .IU b cls name h=>QI C ih d cx cls name h (cH ih d (.s cx b) U)
 | .cont=>.ok .cont U
 | .brk=>.ok .brk U
 | .bad=>.stuck
noncomputable def Qa(ih:Ev)(d:Nat)(cx:CX)(rest:List CS)(f:Flow)(σ1:ES):R Out:=match f with
 | .next=>ih d (.s cx rest) σ1
 |f=>vq f σ1
noncomputable def OM(C:EC)(ih:Ev)(d:Nat)(cx:CX)(l:List CS)(U:ES):R Out:=match l with
 | []=>vq .next U
 |s::rest=>bindR (kr C ih d cx s U) λf σ1=>Qa ih d cx rest f σ1
noncomputable def CZ(again:ES->R Out)(f:Flow)(σ2:ES):R Out:=match f with
 | .ret v=>vq (.ret v) σ2
 | .brk=>vq .next σ2
 |_=>again σ2
noncomputable def ajG(ih:Ev)(d:Nat)(cx:CX)(z:CE)(b:List CS)(t:Bool)(σ1:ES):R Out:=match t with
 |true=>bindR (cH ih d (.s cx b) σ1) λf σ2=>.ok (.f f) σ2
 |false=>.ok .u σ1
noncomputable def I5(ih:Ev)(d:Nat)(cx:CX)(z:CE)(b:List CS)(o:Out)(σ2:ES):R Out:=match o with
 | .f f=>CZ (ih d (.dS cx z b)) f σ2
 | .u=>vq .next σ2
 |_=>.stuck
noncomputable def H9(ih:Ev)(d:Nat)(cx:CX)(z:CE)(b:List CS)(U:ES):R Out:=
 bindR (Dn cx.fr (bindR (fK ih d cx z U) λt σ1=>ajG ih d cx z b t σ1)) λo σ2=>I5 ih d cx z b o σ2
noncomputable def aiR(ih:Ev)(d:Nat)(cx:CX)(t:CT)(it:Nat)(b:List CS)(o:Out)(σ3:ES):R Out:=match o with
 | .f f=>CZ (ih d (.eF cx t it b)) f σ3
 |_=>.stuck
noncomputable def Tw(ih:Ev)(d:Nat)(cx:CX)(t:CT)(it:Nat)(b:List CS)(v:AV)(σ1:ES):R Out:=match t with
 | .nm k c=>bz (gH cx k c v σ1) λσ2=>bindR (Dn cx.fr (bindR (cH ih d (.s cx b) σ2) λf σ3=>.ok (.f f) σ3)) (aiR ih d cx t it b)
 |_=>.stuck
noncomputable def IJ(ih:Ev)(d:Nat)(cx:CX)(t:CT)(it:Nat)(b:List CS)(p:Option AV×ES):R Out:=match p with
 |(af,σ1)=>vq .next σ1
 |(aa v,σ1)=>Tw ih d cx t it b v σ1
noncomputable def Im(C:EC)(ih:Ev)(d:Nat)(cx:CX)(t:CT)(it:Nat)(b:List CS)(U:ES):R Out:=live d (bz (iW C it U) λp=>IJ ih d cx t it b p)
noncomputable def Ri(ih:Ev)(d:Nat)(cx:CX)(test:Option CE)(σ2:ES):R Bool:=match test with
 |none=>.ok ah σ2
 |some z=>gP (fK ih d cx z σ2)
noncomputable def afw(ih:Ev)(d:Nat)(cx:CX)(elt:CE)(tgt:Nat)(own:Bool)(it:Nat)(test:Option CE)(acc:Nat)(w:AV)(bA:ES):R Out:=bz (bA.gL acc) λxs=>cond (fits xs.length) (ih d (.comp cx elt tgt own it test acc) (bA.put acc (.list (xs++[w])))) .stuck
noncomputable def HJ(ih:Ev)(d:Nat)(cx:CX)(elt:CE)(tgt:Nat)(own:Bool)(it:Nat)(test:Option CE)(acc:Nat)(t:Bool)(σ3:ES):R Out:=match t with
 |true=>bindR (gP (bw ih d cx elt σ3)) λw bA=>afw ih d cx elt tgt own it test acc w bA
 |false=>ih d (.comp cx elt tgt own it test acc) σ3
noncomputable def HX(ih:Ev)(d:Nat)(cx:CX)(elt:CE)(tgt:Nat)(own:Bool)(it:Nat)(test:Option CE)(acc:Nat)(p:Option AV×ES):R Out:=match p with
 |(af,σ1)=>.ok .u σ1
 |(aa v,σ1)=>bz (gH cx tgt own v σ1) λσ2=>bindR (Ri ih d cx test σ2) λt σ3=>HJ ih d cx elt tgt own it test acc t σ3
noncomputable def O0(C:EC)(ih:Ev)(d:Nat)(cx:CX)(elt:CE)(tgt:Nat)(own:Bool)(it:Nat)(test:Option CE)(acc:Nat)(U:ES):R Out:=live d (bz (iW C it U) λp=>HX ih d cx elt tgt own it test acc p)
noncomputable def leaveX{I:Type}(F:Nat)(x:Nat)(U:ES):R I:=bz (C2 x F U) λσ1=>.exc x σ1
noncomputable def wh(F:Nat)(r:R Out):R Out:=gr .ok (leaveX F) r
noncomputable def rC(f:Flow)(U:ES):R Out:=match f with
 | .ret v=>eS v U
 | .next=>eS .none U
 |_=>.stuck
noncomputable def zv(b l j:Nat)(U:ES)(v:AI):R Out:=eS (.int v) ((U.put b (.gw l (j+1))).put l (.gZ (j+1)))
noncomputable def GV(C:EC)(b l j w:Nat)(U:ES):R Out:=(C.sym (w+1) j).elim (Um (λi=>zv b l j U (.lit (.ofNat i))) w) λis=>match is with
 |i::is=>Ug (λi=>zv b l j U (.lit (.ofNat i))) i is
 | []=>.stuck
noncomputable def CL(C:EC)(as:List AV)(U:ES):R Out:=bz (l2 as) λp=>bz (fU p.1) λb=>bz ((iH p.2).bind ry) λm=>bz (Rk m) λw=>bz ((U.get b).bind zp) λq=>bz ((U.get q.1).bind zF) λj'=>cond (cZ q.2 100000&&cZ U.next 999999000&&aH q.2 j') (GV C b q.1 q.2 w U) .stuck
noncomputable def RL(ih:Ev)(d:Nat)(fi:FI)(cx:CX)(σ1:ES):R Out:=bz (σ1.gN cx.loc) λ_=>bindR (cH ih d (.s cx fi.body) σ1) rC
noncomputable def ux(ih:Ev)(d:Nat)(fi:FI)(as:List AV)(cx:CX)(U:ES):R Out:=
 wh cx.fr (bz (bindAll cx fi.cells fi.params (zw fi.params fi.dflt as) U) λσ1=>RL ih d fi cx σ1)
noncomputable def Ie(ih:Ev)(d:Nat)(a:Nat)(fi:FI)(as:List AV)(q:Nat)(p:List (Nat×Nat)×ES):R Out:=match p with
 |(cells,U)=>ux ih d fi as ⟨q,q,cells,a⟩ U
noncomputable def I9(ih:Ev)(d:Nat)(a:Nat)(fi:FI)(as:List AV)(p:Nat×ES):R Out:=match p with
 |(q,U)=>Ie ih d a fi as q (eN fi.cells [] U)
noncomputable def newEnd(x:Nat)(v:AV)(U:ES):R Out:=cond v.isNil (eS (.ref x) U) .stuck
noncomputable def CK(ih:Ev)(d:Nat)(init:Nat)(as:List AV)(p:Nat×ES):R Out:=match p with
 |(x,U)=>bindR (dW ih d (.adr init) (.ref x::as) U) λv σ2=>newEnd x v σ2
noncomputable def HA(ih:Ev)(d:Nat)(a init:Nat)(as:List AV)(p:Nat×ES):R Out:=match p with
 |(q,U)=>CK ih d init as (U.add (.inst a q))
noncomputable def Ii(ih:Ev)(d:Nat)(a init:Nat)(as:List AV)(p:Nat×ES):R Out:=match p with
 |(t,U)=>CK ih d init as (U.add (.exc a af t af))
noncomputable def afv(C:EC)(ih:Ev)(d:Nat)(a:Nat)(as:List AV)(U:ES):R Out:=bz (C.cls a dZ) λo=>bz o λinit=>bz (C.fn init) λ_=>cond (C.fC a) (HA ih d a init as (U.add (.ns []))) (cond (C.isExc a&&fits as.length) (Ii ih d a init as (U.add (.tup as))) .stuck)
noncomputable def aes(C:EC)(FL:Ev->Nat->List AV->ES->R Out)(ih:Ev)(d:Nat)(as:List AV)(U:ES)(sp:Spec):R Out:=match sp with
 | .flat=>FL ih d as U
 | .next=>CL C as U
noncomputable def C7(C:EC)(FL:Ev->Nat->List AV->ES->R Out)(ih:Ev)(d:Nat)(a:Nat)(as:List AV)(U:ES):R Out:=(C.fn a).elim (afv C ih d a as U) λfi=>(C.spec a).elim (I9 ih d a fi as (U.add (.ns []))) (aes C FL ih d as U)
noncomputable def adp(ih:Ev)(d:Nat)(body:CE)(cl:List (Nat×Nat))(q:Nat)(U:ES):R Out:=bz (U.gN q) λ_=>wh q (bindR (bw ih d ⟨q,q,cl,0⟩ body U) λv σ2=>eS v σ2)
noncomputable def Hh(ih:Ev)(d:Nat)(body:CE)(cl:List (Nat×Nat))(p:Nat×ES):R Out:=match p with
 |(q,U)=>adp ih d body cl q U
noncomputable def afq(ih:Ev)(d:Nat)(x:Nat)(as:List AV)(U:ES):R Out:=bz ((U.get x).bind To) λq=>bz ((U.get q.2.2.1).bind Rx) λown=>cond (as.isEmpty&&aH q.1 own) (Hh ih d q.2.2.2 q.2.1 (U.add (.ns []))) .stuck
noncomputable def afb(C:EC)(FL:Ev->Nat->List AV->ES->R Out)(ih:Ev)(d:Nat)(f:AV)(as:List AV)(U:ES):R Out:=(lu f).elim ((fU f).elim (bz (nj C f as U) dH) λx=>afq ih d x as U) λa=>C7 C FL ih d a as U
noncomputable def Hq(C:EC)(FL:Ev->Nat->List AV->ES->R Out)(ih:Ev)(d:Nat)(f:AV)(as:List AV)(U:ES):R Out:=match d with
 |0=>.stuck
 |d'+1=>afb C FL ih d' f as U
noncomputable def step(C:EC)(FL:Ev->Nat->List AV->ES->R Out)(ih:Ev)(d:Nat)(t:Task)(U:ES):R Out:=match t with
 | .e cx c=>zg C ih d cx c U
 | .t cx c=>ud C ih d cx c U
 | .s cx l=>OM C ih d cx l U
 | .dS cx z b=>H9 ih d cx z b U
 | .eF cx t it b=>Im C ih d cx t it b U
 | .comp cx elt tgt own it test acc=>O0 C ih d cx elt tgt own it test acc U
 | .call f as=>Hq C FL ih d f as U
noncomputable def ev(C:EC)(FL:Ev->Nat->List AV->ES->R Out)(n:Nat):Ev:=@qV (λ_=>Ev) (λ_ _ _=>.stuck) (λ_ ih=>step C FL ih) n
inductive RS where
 |found (xs:List AV)
 |ring
noncomputable def Oe(C:EC)(LT:aG)(num items:Nat)(U:ES)(a:AV):Option (Option (AI×List AV)):=match a with
 | .ref x=>(match U.get x with
  |some (.inst K d)=>(match C.sub K LT with
   |some ah=>(match U.get d with
    |some (.ns kvs)=>(match bN kvs num,bN kvs items with
     |some (.int i),aa (.ref l)=>(match U.get l with
      |some (.list xs)=>aa (aa (i,xs))
      |_=>af)
     |_,_=>af)
    |_=>af)
   |some ak=>aa af
   |none=>af)
  |_=>af)
 | .adr _=>af
 | .top=>af
 | .bi _=>af
 | .ty _=>af
 |_=>aa af
noncomputable def GO(i:AI):List AI->Option Bool
 | []=>aa ak
 |j::l=>match sF i j with
  |some ah=>aa ah
  |some ak=>GO i l
  |none=>af
noncomputable def O7(i:AI):List AI->List AI
 | []=>[]
 |j::l=>match sF i j with
  |some ah=>l
  |_=>j::O7 i l
noncomputable def vZ(th:AV->Option (Option (AI×List AV)))(depth:Int):Nat->Nat->List (AI×List AV)->List AI->List AV->Option RS
 |0,_,_,_,_=>af
 |n+1,many,ways,around,found=>match ways with
  | []=>aa (.found found.reverse)
  |(i,[])::ws=>vZ th depth n many ws (O7 i around) found
  |(i,x::xs)::ws=>match cZ many 20000,th x with
   |true,aa af=>vZ th depth n (many+1) ((i,xs)::ws) around (x::found)
   |true,aa (aa (j,ys))=>
    (match ltI depth 0 with
    |false=>(match ltI depth (.ofNat (ws.length+1))with
     |true=>vZ th depth n (many+1) ((i,xs)::ws) around (x::found)
     |false=>vZ th depth n (many+1) ((j,ys)::(i,xs)::ws) (match GO j around with|some ah=>around|_=>j::around) found)
    |true=>(match GO j around with
     |some ah=>aa .ring
     |some ak=>vZ th depth n (many+1) ((j,ys)::(i,xs)::ws) (j::around) found
     |none=>af))
   |_,_=>af
noncomputable def ahj(F:Nat)(x:Nat)(σ1:ES):R Out:=bz (zx x F σ1) λσ2=>bz (vW x (aa F) σ2) λσ3=>bz (C2 x F σ3) λbA=>.exc x bA
noncomputable def aa6(uq:aG)(wd:AV)(uG uL:List Nat)(ih:Ev)(d:Nat)(p:Nat×ES):R Out:=match p with
 |(F,U)=>gr KI (ahj F) (dW ih d (.adr uq) [wd,.str uG,.str uL] U)
noncomputable def aeL(uq:aG)(wd:AV)(uG uL:List Nat)(ih:Ev)(d:Nat)(U:ES)(r:RS):R Out:=match r with
 | .found ys=>uP (U.add (.list ys))
 | .ring=>aa6 uq wd uG uL ih d (U.add .any)
noncomputable def ahe(C:EC)(LT uq:aG)(num items:Nat)(wd:AV)(depth:Int)(uG uL:List Nat)(ih:Ev)(d:Nat)(U:ES)(q:Option (AI×List AV)):R Out:=match q with
 |some (i,xs)=>bz (vZ (Oe C LT num items U) depth 100000 0 [(i,xs)] [i] []) λr=>aeL uq wd uG uL ih d U r
 |none=>.stuck
noncomputable def ae9(C:EC)(LT uq:aG)(num items:Nat)(uG uL:List Nat)(ih:Ev)(d:Nat)(as:List AV)(U:ES):R Out:=match as with
 | [wd,arr,.int (.lit depth)]=>bz (Oe C LT num items U arr) λq=>ahe C LT uq num items wd depth uG uL ih d U q
 |_=>.stuck
inductive dz(I:Type)where
 |aj
 |bnd (l:dz I) (k:Nat) (v:I) (r:dz I)
noncomputable def dz.get{I:Type}(t:dz I)(i:Nat):Option I:=@dz.rec I (λ_=>Option I) af (λ_ k v _ l r=>@ee (λ_=>Option I) (@ee (λ_=>Option I) r l (cZ i k)) (aa v) (aH i k)) t
noncomputable def acU:FI:=FI.mk [aJ,aI,cD] [] [] [.asg (.nm eG ak) (.call (.az (.adr 407)) [.loc aJ,.sub (.loc cD) (.int 0),.call (.az (.bi 2)) [.attr (.loc aI) bf]]),.ret (.ite (.k8 (.int 0) .LtE (.loc eG) .Lt (.call (.az (.bi 2)) [.attr (.loc aI) bf])) (.sub (.attr (.loc aI) bf) (.loc eG)) (.none))]
noncomputable def adh:FI:=FI.mk [aJ,bf,cP,gm,NX] [] [] [.asg (.nm ym ak) (.call (.az (.bi 3)) [.int 0,.call (.az (.bi 4)) [.loc gm,.bin .Sub (.call (.az (.bi 2)) [.loc bf]) (.loc cP)]]),.expr (.aY (.loc aJ) iI [.bin .Add (.bin .Sub (.call (.az (.bi 3)) [.call (.az (.bi 2)) [.loc bf],.loc cP]) (.loc ym)) (.call (.az (.bi 2)) [.loc NX])]),.dS (.cmp (.call (.az (.bi 2)) [.loc bf]) .Lt (.loc cP)) [.expr (.aY (.loc bf) fL [.none])],.asg (.sb (.loc bf) (.slice (aa (.loc cP)) (aa (.bin .Add (.loc cP) (.loc gm))))) (.loc NX)]
noncomputable def acY:FI:=FI.mk [aJ,eG,500151969132] [] [] [.expr (.aY (.loc aJ) fY [.str [73,110,100,101,120,69,114,114,111,114],.jx [.str [105,110,100,101,120,32],.fmt (.loc eG),.str [32,116,111,111,32,115,109,97,108,108,32,102,111,114,32,97,114,114,97,121,59,32,109,105,110,105,109,117,109,58,32,45],.fmt (.loc 500151969132)]])]
noncomputable def acL:FI:=FI.mk [aJ,aI,cD] [] [] [.expr (.call (.az (.adr 386)) [.loc aJ,.loc aI]),.iO [bf,gz,cj] (.tup [.attr (.loc aI) bf,.call (.az (.bi 2)) [.attr (.loc aI) bf],.sub (.loc cD) (.neg (.int 1))]),.iff (.gu (.cmp (.call (.az (.bi 2)) [.loc cD]) .Eq (.int 2)) (.dU (.call (.az (.bi 1)) [.sub (.loc cD) (.int 0),.az (.adr 140)]))) [.asg (.nm eG ak) (.call (.az (.adr 407)) [.loc aJ,.sub (.loc cD) (.int 0),.loc gz]),.iff (.cmp (.loc eG) .Lt (.int 0)) [.expr (.call (.az (.adr 428)) [.loc aJ,.sub (.loc cD) (.int 0),.loc gz])] [],.expr (.call (.az (.adr 421)) [.loc aJ,.loc bf,.loc eG,.int 1,.list [.loc cj]]),.ret (.loc cj)] [],.iff (.cmp (.call (.az (.bi 2)) [.loc cD]) .Eq (.int 2)) [.asg (.tp [.nm cP ak,.nm eH ak]) (.call (.az (.adr 400)) [.loc aJ,.sub (.loc cD) (.int 0),.loc gz]),.iff (.cmp (.loc cP) .Lt (.int 0)) [.expr (.aY (.loc aJ) fY [.str [82,97,110,103,101,69,114,114,111,114],.jx [.fmt (.call (.az (.adr 358)) [.sub (.loc cD) (.int 0)]),.str [32,111,117,116,32,111,102,32,114,97,110,103,101]]])] [],.asg (.nm gm ak) (.call (.az (.bi 3)) [.int 0,.bin .Sub (.loc eH) (.loc cP)])] [.iO [cP,gm] (.tup [.call (.az (.adr 407)) [.loc aJ,.sub (.loc cD) (.int 0),.loc gz],.call (.az (.adr 372)) [.loc aJ,.sub (.loc cD) (.int 1)]]),.iff (.cmp (.loc gm) .Lt (.int 0)) [.expr (.aY (.loc aJ) fY [.str [73,110,100,101,120,69,114,114,111,114],.jx [.str [110,101,103,97,116,105,118,101,32,108,101,110,103,116,104,32,40],.fmt (.loc gm),.str [41]]])] [],.iff (.cmp (.loc cP) .Lt (.int 0)) [.expr (.call (.az (.adr 428)) [.loc aJ,.sub (.loc cD) (.int 0),.loc gz])] []],.expr (.call (.az (.adr 421)) [.loc aJ,.loc bf,.loc cP,.loc gm,.ite (.call (.az (.bi 1)) [.loc cj,.az (.adr 82)]) (.call (.az (.ty 5)) [.attr (.loc cj) bf]) (.list [.loc cj])]),.ret (.loc cj)]
noncomputable def adB:FI:=FI.mk [aJ,aI,cD] [] [] [.iff (.cmp (.loc cD) .Eq (.list [])) [.ret (.ite (.attr (.loc aI) bf) (.sub (.attr (.loc aI) bf) (.int 0)) (.none))] [],.ret (.aY (.loc aJ) d8 [.sub (.attr (.loc aI) bf) (.slice af (aa (.call (.az (.adr 393)) [.loc aJ,.sub (.loc cD) (.int 0),.str [110,101,103,97,116,105,118,101,32,97,114,114,97,121,32,115,105,122,101]])))])]
noncomputable def ac1:FI:=FI.mk [aJ,aI,cD] [] [] [.iff (.cmp (.loc cD) .Eq (.list [])) [.ret (.ite (.attr (.loc aI) bf) (.sub (.attr (.loc aI) bf) (.neg (.int 1))) (.none))] [],.asg (.nm gm ak) (.call (.az (.adr 393)) [.loc aJ,.sub (.loc cD) (.int 0),.str [110,101,103,97,116,105,118,101,32,97,114,114,97,121,32,115,105,122,101]]),.ret (.aY (.loc aJ) d8 [.sub (.attr (.loc aI) bf) (.slice (aa (.call (.az (.bi 3)) [.int 0,.bin .Sub (.call (.az (.bi 2)) [.attr (.loc aI) bf]) (.loc gm)])) af)])]
noncomputable def aem:FI:=FI.mk [aJ,aI,cD] [] [] [.expr (.call (.az (.adr 386)) [.loc aJ,.loc aI]),.iff (.cmp (.loc cD) .Eq (.list [])) [.ret (.ite (.attr (.loc aI) bf) (.aY (.attr (.loc aI) bf) f9 []) (.none))] [],.asg (.nm gm ak) (.call (.az (.bi 4)) [.call (.az (.adr 393)) [.loc aJ,.sub (.loc cD) (.int 0),.str [110,101,103,97,116,105,118,101,32,97,114,114,97,121,32,115,105,122,101]],.call (.az (.bi 2)) [.attr (.loc aI) bf]]),.asg (.nm ym ak) (.sub (.attr (.loc aI) bf) (.slice (aa (.bin .Sub (.call (.az (.bi 2)) [.attr (.loc aI) bf]) (.loc gm))) af)),.bad,.ret (.aY (.loc aJ) d8 [.loc ym])]
noncomputable def acR:FI:=FI.mk [aJ,aI,cD] [] [] [.expr (.call (.az (.adr 386)) [.loc aJ,.loc aI]),.iff (.cmp (.loc cD) .Eq (.list [])) [.ret (.ite (.attr (.loc aI) bf) (.aY (.attr (.loc aI) bf) f9 [.int 0]) (.none))] [],.asg (.nm gm ak) (.call (.az (.adr 393)) [.loc aJ,.sub (.loc cD) (.int 0),.str [110,101,103,97,116,105,118,101,32,97,114,114,97,121,32,115,105,122,101]]),.asg (.nm ym ak) (.sub (.attr (.loc aI) bf) (.slice af (aa (.loc gm)))),.bad,.ret (.aY (.loc aJ) d8 [.loc ym])]
noncomputable def aeB:FI:=FI.mk [aJ,aI,cD] [] [] [.expr (.call (.az (.adr 386)) [.loc aJ,.loc aI]),.asg (.nm eG ak) (.call (.az (.adr 372)) [.loc aJ,.sub (.loc cD) (.int 0)]),.iff (.cmp (.call (.az (.bi 2)) [.loc cD]) .Eq (.int 1)) [.ret (.loc aI)] [],.iff (.cmp (.loc eG) .Lt (.int 0)) [.uK eG ak .Add (.bin .Add (.call (.az (.bi 2)) [.attr (.loc aI) bf]) (.int 1)),.iff (.cmp (.loc eG) .Lt (.int 0)) [.expr (.call (.az (.adr 428)) [.loc aJ,.sub (.loc cD) (.int 0),.bin .Add (.call (.az (.bi 2)) [.attr (.loc aI) bf]) (.int 1)])] []] [],.expr (.call (.az (.adr 421)) [.loc aJ,.attr (.loc aI) bf,.loc eG,.int 0,.sub (.loc cD) (.slice (aa (.int 1)) af)]),.ret (.loc aI)]
noncomputable def aea:FI:=FI.mk [aJ,aI,cD] [] [] [.expr (.call (.az (.adr 386)) [.loc aJ,.loc aI]),.asg (.nm vJ ak) (.list []),.eF (.nm cj ak) (.loc cD) [.expr (.aY (.loc vJ) iR [.call (.az (.adr 379)) [.loc aJ,.loc cj]]),.expr (.aY (.loc aJ) iI [.bin .Add (.call (.az (.bi 2)) [.attr (.loc aI) bf]) (.call (.az (.bi 2)) [.loc vJ])])],.expr (.aY (.attr (.loc aI) bf) iR [.loc vJ]),.ret (.loc aI)]
noncomputable def adJ:FI:=FI.mk [aJ,aI,cD] [] [] [.asg (.nm vJ ak) (.call (.az (.adr 379)) [.loc aJ,.sub (.loc cD) (.int 0)]),.expr (.aY (.loc aJ) iI [.bin .Add (.call (.az (.bi 2)) [.attr (.loc aI) bf]) (.call (.az (.bi 2)) [.loc vJ])]),.ret (.aY (.loc aJ) d8 [.bin .Add (.attr (.loc aI) bf) (.loc vJ)])]
noncomputable def Qg:FI:=FI.mk [aJ,LN,pL] [] [] [.asg (.tp [.nm dF ak,.nm iS ak,.nm nS ak,.nm jG ak]) (.tup [.list [],.list [.list [.loc LN,.int 0]],.dict [(.attr (.loc LN) bR,.tt ah)],.int 0]),.dS (.cmp (.loc iS) .NotEq (.list [])) [.asg (.tp [.nm fZ ak,.nm eG ak]) (.sub (.loc iS) (.neg (.int 1))),.iff (.cmp (.loc eG) .Eq (.call (.az (.bi 2)) [.attr (.loc fZ) bf])) [.expr (.aY (.loc iS) f9 []),.expr (.aY (.loc nS) f9 [.attr (.loc fZ) bR,.none]),.cont] [],.asg (.sb (.sub (.loc iS) (.neg (.int 1))) (.int 1)) (.bin .Add (.loc eG) (.int 1)),.iO [eZ,jG] (.tup [.sub (.attr (.loc fZ) bf) (.loc eG),.bin .Add (.loc jG) (.int 1)]),.expr (.aY (.loc aJ) iI [.loc jG]),.iff (.iZ (.dU (.call (.az (.bi 1)) [.loc eZ,.az (.adr 82)])) (.k8 (.int 0) .LtE (.loc pL) .Lt (.call (.az (.bi 2)) [.loc iS]))) [.expr (.aY (.loc dF) fL [.loc eZ])] [.iff (.gu (.cmp (.loc pL) .Lt (.int 0)) (.cmp (.attr (.loc eZ) bR) .In (.loc nS))) [.expr (.aY (.loc aJ) fY [.str [65,114,103,117,109,101,110,116,69,114,114,111,114],.str [116,114,105,101,100,32,116,111,32,102,108,97,116,116,101,110,32,114,101,99,117,114,115,105,118,101,32,97,114,114,97,121]])] [.expr (.aY (.loc iS) fL [.list [.loc eZ,.int 0]]),.asg (.sb (.loc nS) (.attr (.loc eZ) bR)) (.tt ah)]]],.ret (.loc dF)]
noncomputable def PF:FI:=FI.mk [aJ,aI,cD] [] [] [.ret (.call (.az (.adr 491)) [.loc aJ,.loc aI,.ite (.iZ (.cmp (.loc cD) .Eq (.list [])) (.cmp (.sub (.loc cD) (.int 0)) .Is (.none))) (.neg (.int 1)) (.call (.az (.adr 372)) [.loc aJ,.sub (.loc cD) (.int 0)])])]
noncomputable def ON:FI:=FI.mk [aJ,aI,cD] [] [] [.ret (.aY (.loc aJ) d8 [.call (.az (.adr 498)) [.loc aJ,.loc aI,.loc cD]])]
noncomputable def Py:FI:=FI.mk [aJ,aI,cD] [] [] [.expr (.call (.az (.adr 386)) [.loc aJ,.loc aI]),.asg (.nm 6578536 ak) (.cmp (.comp (.loc eZ) eZ ak (.attr (.loc aI) bf) (aa (.call (.az (.bi 1)) [.loc eZ,.az (.adr 82)])) []) .NotEq (.list [])),.asg (.sb (.attr (.loc aI) bf) (.slice af af)) (.call (.az (.adr 498)) [.loc aJ,.loc aI,.loc cD]),.ret (.ite (.gu (.loc 6578536) (.cmp (.loc cD) .NotEq (.list [.int 0]))) (.loc aI) (.none))]
noncomputable def adD:FI:=FI.mk [aJ,aI,cD] [] [aI,gz] [.asg (.tp [.nm dF ak,.nm gz ah]) (.tup [.list [],.call (.az (.bi 2)) [.attr (.bh aI) bf]]),.eF (.nm cj ak) (.loc cD) [.iff (.call (.az (.bi 1)) [.loc cj,.az (.adr 140)]) [.asg (.tp [.nm cP ak,.nm eH ak]) (.call (.az (.adr 400)) [.loc aJ,.loc cj,.bh gz]),.iff (.cmp (.loc cP) .Lt (.int 0)) [.expr (.aY (.loc aJ) fY [.str [82,97,110,103,101,69,114,114,111,114],.jx [.fmt (.call (.az (.adr 358)) [.loc cj]),.str [32,111,117,116,32,111,102,32,114,97,110,103,101]]])] [],.expr (.aY (.loc aJ) iI [.bin .Add (.call (.az (.bi 2)) [.loc dF]) (.call (.az (.bi 3)) [.int 0,.bin .Sub (.loc eH) (.loc cP)])]),.expr (.aY (.loc dF) iR [.comp (.ite (.cmp (.loc eG) .Lt (.bh gz)) (.sub (.attr (.bh aI) bf) (.loc eG)) (.none)) eG ak (.call (.az (.ty 7)) [.loc cP,.loc eH]) af [gz,aI]])] [.expr (.aY (.loc dF) fL [.call (.az (.adr 414)) [.loc aJ,.bh aI,.list [.loc cj]]])]],.ret (.aY (.loc aJ) d8 [.loc dF])]
noncomputable def ac5:FI:=FI.mk [aJ,aI,cD] [] [] [.expr (.call (.az (.adr 386)) [.loc aJ,.loc aI]),.iO [gz,cP,gm] (.tup [.call (.az (.bi 2)) [.attr (.loc aI) bf],.int 0,.call (.az (.bi 2)) [.attr (.loc aI) bf]]),.iff (.gu (.cmp (.call (.az (.bi 2)) [.loc cD]) .Gt (.int 1)) (.call (.az (.bi 1)) [.sub (.loc cD) (.int 1),.az (.adr 140)])) [.asg (.tp [.nm cP ak,.nm eH ak]) (.call (.az (.adr 400)) [.loc aJ,.sub (.loc cD) (.int 1),.loc gz]),.iff (.cmp (.loc cP) .Lt (.int 0)) [.expr (.aY (.loc aJ) fY [.str [82,97,110,103,101,69,114,114,111,114],.jx [.fmt (.call (.az (.adr 358)) [.sub (.loc cD) (.int 1)]),.str [32,111,117,116,32,111,102,32,114,97,110,103,101]]])] [],.asg (.nm gm ak) (.call (.az (.bi 3)) [.int 0,.bin .Sub (.loc eH) (.loc cP)])] [.iff (.cmp (.call (.az (.bi 2)) [.loc cD]) .Gt (.int 1)) [.asg (.nm cP ak) (.ite (.cmp (.sub (.loc cD) (.int 1)) .Is (.none)) (.int 0) (.call (.az (.bi 3)) [.int 0,.call (.az (.adr 407)) [.loc aJ,.sub (.loc cD) (.int 1),.loc gz]])),.asg (.nm 435610937463 ak) (.iZ (.cmp (.call (.az (.bi 2)) [.loc cD]) .Eq (.int 2)) (.cmp (.sub (.loc cD) (.int 2)) .Is (.none))),.asg (.nm gm ak) (.ite (.loc 435610937463) (.call (.az (.bi 3)) [.int 0,.bin .Sub (.loc gz) (.loc cP)]) (.call (.az (.bi 3)) [.int 0,.call (.az (.adr 372)) [.loc aJ,.sub (.loc cD) (.int 2)]]))] []],.iff (.cmp (.loc gm) .Gt (.int 0)) [.expr (.aY (.loc aJ) iI [.bin .Add (.loc cP) (.loc gm)]),.expr (.call (.az (.adr 421)) [.loc aJ,.attr (.loc aI) bf,.loc cP,.loc gm,.bin .Mult (.list [.sub (.loc cD) (.int 0)]) (.loc gm)])] [],.ret (.loc aI)]
noncomputable def adk:FI:=FI.mk [aJ,aI,cD] [] [aJ,bf] [.iO [Ln,jG,iT] (.tup [.comp (.call (.az (.adr 379)) [.bh aJ,.loc cj]) cj ak (.loc cD) af [aJ],.call (.az (.bi 2)) [.attr (.loc aI) bf],.comp (.list [.loc eZ]) eZ ak (.attr (.loc aI) bf) af []]),.eF (.nm bf ah) (.loc Ln) [.asg (.nm jG ak) (.bin .Mult (.loc jG) (.call (.az (.bi 2)) [.bh bf])),.expr (.aY (.bh aJ) iI [.loc jG])],.eF (.nm bf ah) (.ite (.cmp (.loc jG) .Gt (.int 0)) (.loc Ln) (.list [])) [.bad],.ret (.aY (.bh aJ) d8 [.ite (.cmp (.loc jG) .Gt (.int 0)) (.comp (.aY (.bh aJ) d8 [.loc nh]) nh ak (.loc iT) af [aJ]) (.list [])])]
noncomputable def adG:FI:=FI.mk [aJ,aI,cD] [] [aJ,iT] [.asg (.nm iT ah) (.list []),.eF (.nm cj ak) (.attr (.loc aI) bf) [.asg (.nm nh ak) (.call (.az (.adr 379)) [.bh aJ,.loc cj]),.iff (.gu (.cmp (.bh iT) .NotEq (.list [])) (.cmp (.call (.az (.bi 2)) [.loc nh]) .NotEq (.call (.az (.bi 2)) [.sub (.bh iT) (.int 0)]))) [.expr (.aY (.bh aJ) fY [.str [73,110,100,101,120,69,114,114,111,114],.jx [.str [101,108,101,109,101,110,116,32,115,105,122,101,32,100,105,102,102,101,114,115,32,40],.fmt (.call (.az (.bi 2)) [.loc nh]),.str [32,115,104,111,117,108,100,32,98,101,32],.fmt (.call (.az (.bi 2)) [.sub (.bh iT) (.int 0)]),.str [41]]])] [],.expr (.aY (.bh iT) fL [.loc nh]),.expr (.aY (.bh aJ) iI [.bin .Mult (.call (.az (.bi 2)) [.bh iT]) (.call (.az (.bi 2)) [.loc nh])])],.ret (.aY (.bh aJ) d8 [.comp (.aY (.bh aJ) d8 [.comp (.sub (.loc nh) (.bh 107)) nh ak (.bh iT) af [107]]) 107 ah (.call (.az (.ty 7)) [.ite (.cmp (.bh iT) .NotEq (.list [])) (.call (.az (.bi 2)) [.sub (.bh iT) (.int 0)]) (.int 0)]) af [aJ,iT]])]
noncomputable def Pn:FI:=FI.mk [aJ,cj] [] [] [.iff (.cmp (.loc cj) .Is (.none)) [.expr (.aY (.loc aJ) fY [.str [84,121,112,101,69,114,114,111,114],.str [110,111,32,105,109,112,108,105,99,105,116,32,99,111,110,118,101,114,115,105,111,110,32,102,114,111,109,32,110,105,108,32,116,111,32,105,110,116,101,103,101,114]])] [],.iff (.dU (.call (.az (.adr 237)) [.loc cj])) [.expr (.aY (.loc aJ) fY [.str [84,121,112,101,69,114,114,111,114],.jx [.str [110,111,32,105,109,112,108,105,99,105,116,32,99,111,110,118,101,114,115,105,111,110,32,111,102,32],.fmt (.call (.az (.adr 365)) [.loc aJ,.loc cj]),.str [32,105,110,116,111,32,73,110,116,101,103,101,114]]])] [],.ret (.loc cj)]
noncomputable def acK:FI:=FI.mk [aJ,cj] [] [] [.iff (.dU (.call (.az (.bi 1)) [.loc cj,.az (.adr 82)])) [.expr (.aY (.loc aJ) fY [.str [84,121,112,101,69,114,114,111,114],.jx [.str [110,111,32,105,109,112,108,105,99,105,116,32,99,111,110,118,101,114,115,105,111,110,32,111,102,32],.fmt (.call (.az (.adr 365)) [.loc aJ,.loc cj]),.str [32,105,110,116,111,32,65,114,114,97,121]]])] [],.ret (.attr (.loc cj) bf)]
noncomputable def OV:FI:=FI.mk [aJ,jD] [] [] [.iff (.attr (.loc jD) kN) [.expr (.aY (.loc aJ) fY [.str [70,114,111,122,101,110,69,114,114,111,114],.jx [.str [99,97,110,39,116,32,109,111,100,105,102,121,32,102,114,111,122,101,110,32],.fmt (.call (.az (.adr 297)) [.aY (.loc aJ) mZ [.loc jD]]),.str [58,32],.fmt (.call (.az (.adr 358)) [.loc jD])]])] []]
noncomputable def ac6:FI:=FI.mk [aJ,cj,495606460279] [] [] [.asg (.nm gm ak) (.call (.az (.adr 372)) [.loc aJ,.loc cj]),.iff (.cmp (.loc gm) .Lt (.int 0)) [.expr (.aY (.loc aJ) fY [.str [65,114,103,117,109,101,110,116,69,114,114,111,114],.loc 495606460279])] [],.ret (.loc gm)]
noncomputable def aeo:FI:=FI.mk [aJ,lK,gz] [] [] [.asg (.nm cP ak) (.ite (.cmp (.attr (.loc lK) cP) .Is (.none)) (.int 0) (.call (.az (.adr 372)) [.loc aJ,.attr (.loc lK) cP])),.asg (.nm eH ak) (.ite (.cmp (.attr (.loc lK) eH) .Is (.none)) (.neg (.int 1)) (.call (.az (.adr 372)) [.loc aJ,.attr (.loc lK) eH])),.iff (.cmp (.loc cP) .Lt (.int 0)) [.uK cP ak .Add (.loc gz)] [],.iff (.cmp (.loc eH) .Lt (.int 0)) [.uK eH ak .Add (.loc gz)] [],.iff (.iZ (.cmp (.attr (.loc lK) eH) .Is (.none)) (.dU (.attr (.loc lK) pP))) [.uK eH ak .Add (.int 1)] [],.ret (.tup [.loc cP,.loc eH])]
noncomputable def acI:FI:=FI.mk [aJ,cj,gz] [] [] [.asg (.nm eG ak) (.call (.az (.adr 372)) [.loc aJ,.loc cj]),.ret (.ite (.cmp (.loc eG) .Lt (.int 0)) (.bin .Add (.loc eG) (.loc gz)) (.loc eG))]
noncomputable def adI:FI:=FI.mk [aJ,cj] [] [] [.iff (.cmp (.loc cj) .Is (.none)) [.ret (.str [110,105,108])] [],.iff (.call (.az (.bi 1)) [.loc cj,.az (.ty 3)]) [.ret (.ite (.loc cj) (.str [116,114,117,101]) (.str [102,97,108,115,101]))] [],.ret (.call (.az (.adr 297)) [.aY (.loc aJ) mZ [.loc cj]])]
noncomputable def PS:FI:=FI.mk [cj] [] [] [.ret (.gu (.call (.az (.bi 1)) [.loc cj,.az (.ty 4)]) (.dU (.call (.az (.bi 1)) [.loc cj,.az (.ty 3)])))]
noncomputable def aey:FI:=FI.mk [cj] [] [] [.iff (.cmp (.loc cj) .Is (.none)) [.ret (.str [110,105,108])] [],.iff (.call (.az (.bi 1)) [.loc cj,.az (.ty 3)]) [.ret (.str [98,111,111,108])] [],.iff (.call (.az (.bi 1)) [.loc cj,.az (.ty 4)]) [.ret (.str [105,110,116])] [],.ret (.ite (.call (.az (.bi 1)) [.loc cj,.az (.ty 8)]) (.str [115,121,109]) (.str [116,104,105,110,103]))]
noncomputable def aet:FI:=FI.mk [fh,yc] [] [] [.asg (.nm tR ak) (.call (.az (.adr 244)) [.loc fh]),.iff (.cmp (.loc tR) .NotEq (.call (.az (.adr 244)) [.loc yc])) [.ret (.tt ak)] [],.ret (.ite (.cmp (.loc tR) .Eq (.str [116,104,105,110,103])) (.cmp (.attr (.loc fh) bR) .Eq (.attr (.loc yc) bR)) (.cmp (.loc fh) .Eq (.loc yc)))]
noncomputable def ac8:FI:=FI.mk [cQ] [] [] [.iO [jE,rR,NY] (.tup [.str [],.str [],.dict []]),.dS (.cmp (.attr (.loc cQ) bR) .NotIn (.loc NY)) [.asg (.sb (.loc NY) (.attr (.loc cQ) bR)) (.tt ah),.iff (.cmp (.attr (.loc cQ) jX) .IsNot (.none)) [.iO [jE,rR,cQ] (.tup [.bin .Add (.loc jE) (.str [35,60,67,108,97,115,115,58]),.bin .Add (.str [62]) (.loc rR),.attr (.loc cQ) jX]),.iff (.dU (.call (.az (.bi 1)) [.loc cQ,.az (.adr 228)])) [.iO [jE,rR,cQ] (.tup [.bin .Add (.loc jE) (.str [35,60]),.bin .Add (.str [62]) (.loc rR),.attr (.loc cQ) eg])] [],.cont] [],.iff (.cmp (.attr (.loc cQ) cW) .Is (.none)) [.brk] [],.iff (.cmp (.attr (.loc cQ) jq) .Is (.none)) [.ret (.bin .Add (.bin .Add (.loc jE) (.attr (.loc cQ) cW)) (.loc rR))] [],.iO [rR,cQ] (.tup [.bin .Add (.bin .Add (.str [58,58]) (.attr (.loc cQ) cW)) (.loc rR),.attr (.loc cQ) jq])],.ret (.bin .Add (.bin .Add (.loc jE) (.ite (.attr (.loc cQ) iQ) (.str [35,60,67,108,97,115,115,62]) (.str [35,60,77,111,100,117,108,101,62]))) (.loc rR))]
noncomputable def Hs:FI:=FI.mk [fO] [] [] [.ret (.list [.comp (.call (.az (.bi 0)) [.loc Fq]) Fq ak (.sub (.loc fO) (.slice af (aa (.int 40)))) af [],.int 0])]
noncomputable def CQ:FI:=FI.mk [bM,iS] [] [] [.asg (.sb (.loc bM) (.int 1)) (.bin .Add (.sub (.loc bM) (.int 1)) (.int 1)),.iff (.cmp (.sub (.loc bM) (.int 0)) .NotEq (.list [])) [.ret (.bin .Mod (.aY (.sub (.loc bM) (.int 0)) f9 [.int 0]) (.loc iS))] [],.ret (.bin .Mod (.bin .Mod (.bin .Add (.bin .Mult (.bin .Mult (.int 3) (.sub (.loc bM) (.int 1))) (.sub (.loc bM) (.int 1))) (.bin .Mult (.int 5) (.sub (.loc bM) (.int 1)))) (.int 89)) (.loc iS))]
noncomputable def adt:FI:=FI.mk [tX] [] [] [.IU [.expr (.call (.loc tX) [])] (.az (.adr 570)) 101 [.ret (.bin .Add (.bin .Add (.attr (.attr (.attr (.loc 101) jD) eg) cW) (.str [58,32])) (.attr (.attr (.attr (.loc 101) jD) jY) jr))],.ret (.str [108,101,116])]
noncomputable def PK:FI:=FI.mk [aJ,bf,qP] [] [] [.asg (.nm dF ak) (.aY (.loc aJ) d8 [.loc bf]),.eF (.nm iz ak) (.call (.az (.ty 7)) [.loc qP]) [.asg (.nm dF ak) (.call (.az (.adr 82)) [.bin .Add (.bin .Pow (.int 10) (.int 9)) (.loc iz),.attr (.loc dF) eg,.list [.loc dF]])],.ret (.loc dF)]
noncomputable def Qk:FI:=FI.mk [aJ,bM,iU] [] [bM] [.iO [qP,bf] (.tup [.call (.az (.adr 905)) [.bh bM,.loc iU],.comp (.call (.az (.adr 905)) [.bh bM,.int 9]) 107 ak (.call (.az (.ty 7)) [.call (.az (.adr 905)) [.bh bM,.int 4]]) af [bM]]),.asg (.nm LP ak) (.call (.az (.adr 919)) [.loc aJ,.loc bf,.loc qP]),.iff (.cmp (.attr (.call (.az (.adr 505)) [.loc aJ,.loc LP,.list []]) bf) .NotEq (.loc bf)) [.ret (.tt ak)] [],.asg (.nm KQ ak) (.call (.az (.bi 4)) [.loc qP,.call (.az (.adr 905)) [.bh bM,.int 7]]),.asg (.nm nX ak) (.call (.az (.adr 505)) [.loc aJ,.loc LP,.list [.loc KQ]]),.eF (.nm iz ak) (.call (.az (.ty 7)) [.bin .Sub (.loc qP) (.loc KQ)]) [.iff (.cmp (.call (.az (.bi 2)) [.attr (.loc nX) bf]) .NotEq (.int 1)) [.ret (.tt ak)] [],.asg (.nm nX ak) (.sub (.attr (.loc nX) bf) (.int 0))],.ret (.cmp (.attr (.loc nX) bf) .Eq (.loc bf))]
noncomputable def zd:FI:=FI.mk [aJ,bM,iU] [] [bM] [.iO [bf,cY] (.tup [.comp (.call (.az (.adr 905)) [.bh bM,.int 9]) 107 ak (.call (.az (.ty 7)) [.int 2]) af [bM],.aY (.loc aJ) d8 [.list []]]),.expr (.aY (.attr (.loc cY) bf) iR [.loc bf]),.eF (.nm iz ak) (.call (.az (.ty 7)) [.bin .Add (.int 1) (.call (.az (.adr 905)) [.bh bM,.loc iU])]) [.iff (.cmp (.call (.az (.adr 905)) [.bh bM,.int 2]) .Eq (.int 0)) [.iO [cY,bf] (.tup [.aY (.loc aJ) d8 [.list [.loc cY,.loc iz,.loc cY]],.bin .Add (.bin .Add (.loc bf) (.list [.loc iz])) (.loc bf)])] [.iO [cY,bf] (.tup [.aY (.loc aJ) d8 [.list [.loc iz,.loc cY,.loc cY]],.bin .Add (.bin .Add (.list [.loc iz]) (.loc bf)) (.loc bf)])]],.iff (.cmp (.attr (.call (.az (.adr 505)) [.loc aJ,.loc cY,.list [.none]]) bf) .NotEq (.loc bf)) [.ret (.tt ak)] [],.asg (.nm vz ak) (.call (.az (.adr 510)) [.loc aJ,.loc cY,.list []]),.ret (.gu (.cmp (.attr (.loc cY) bf) .Eq (.loc bf)) (.cmp (.attr (.loc vz) bR) .Eq (.attr (.loc cY) bR)))]
noncomputable def ael:FI:=FI.mk [aJ,bM,iU] [] [aJ,xT,nY] [.asg (.tp [.nm nY ah,.nm rZ ak]) (.tup [.aY (.bh aJ) d8 [.list [.int 4]],.aY (.bh aJ) d8 [.list [.int 5]]]),.asg (.nm xT ah) (.cmp (.call (.az (.adr 905)) [.loc bM,.int 2]) .Eq (.int 0)),.expr (.aY (.attr (.bh nY) bf) fL [.ite (.bh xT) (.loc rZ) (.bh nY)]),.expr (.aY (.attr (.loc rZ) bf) fL [.bh nY]),.iff (.cmp (.call (.az (.adr 912)) [.lam 727 20 (.call (.az (.adr 505)) [.bh aJ,.bh nY,.list []]) [aJ,nY]]) .NotEq (.str [65,114,103,117,109,101,110,116,69,114,114,111,114,58,32,116,114,105,101,100,32,116,111,32,102,108,97,116,116,101,110,32,114,101,99,117,114,115,105,118,101,32,97,114,114,97,121])) [.ret (.tt ak)] [],.iff (.cmp (.call (.az (.adr 912)) [.lam 729 20 (.call (.az (.adr 510)) [.bh aJ,.bh nY,.list [.neg (.int 3)]]) [aJ,nY]]) .NotEq (.str [65,114,103,117,109,101,110,116,69,114,114,111,114,58,32,116,114,105,101,100,32,116,111,32,102,108,97,116,116,101,110,32,114,101,99,117,114,115,105,118,101,32,97,114,114,97,121])) [.ret (.tt ak)] [],.asg (.nm qP ak) (.call (.az (.adr 905)) [.loc bM,.loc iU]),.asg (.nm dF ak) (.attr (.call (.az (.adr 505)) [.bh aJ,.bh nY,.list [.loc qP]]) bf),.sD (.nm Gs ak) (.comp (.ite (.bh xT) (.sub (.list [.int 4,.int 5]) (.bin .Mod (.loc 107) (.int 2))) (.int 4)) 107 ak (.call (.az (.ty 7)) [.bin .Add (.loc qP) (.int 1)]) af [xT]),.asg (.nm eH ak) (.ite (.gu (.bh xT) (.cmp (.bin .Mod (.loc qP) (.int 2)) .Eq (.int 0))) (.loc rZ) (.bh nY)),.ret (.gu (.cmp (.sub (.loc dF) (.slice af (aa (.neg (.int 1))))) .Eq (.loc Gs)) (.gu (.cmp (.attr (.sub (.loc dF) (.neg (.int 1))) bR) .Eq (.attr (.loc eH) bR)) (.cmp (.call (.az (.bi 2)) [.attr (.bh nY) bf]) .Eq (.int 2))))]
noncomputable def nk:FI:=FI.mk [aJ,bM] [] [aJ,lN,mj,fh,lK] [.asg (.nm lN ah) (.sub (.list [.bin .Pow (.int 10) (.int 12),.bin .Pow (.int 10) (.int 18),.bin .Add (.bin .Pow (.int 2) (.int 40)) (.int 1),.bin .Pow (.int 10) (.int 30)]) (.call (.az (.adr 905)) [.loc bM,.int 4])),.asg (.tp [.nm fh ah,.nm lK ah]) (.tup [.aY (.bh aJ) d8 [.list [.int 1,.int 2,.int 3]],.aY (.bh aJ) qG [.int 0,.bh lN,.cmp (.call (.az (.adr 905)) [.loc bM,.int 2]) .Eq (.int 0)]]),.asg (.nm rU ak) (.list [.lam 740 0 (.call (.az (.adr 435)) [.bh aJ,.bh fh,.list [.bh lN,.int 1]]) [aJ,fh,lN],.lam 741 0 (.call (.az (.adr 435)) [.bh aJ,.bh fh,.list [.bh lN,.int 0,.aY (.bh aJ) d8 [.list []]]]) [aJ,fh,lN]]),.asg (.nm rU ak) (.bin .Add (.loc rU) (.list [.lam 743 0 (.call (.az (.adr 470)) [.bh aJ,.bh fh,.list [.bh lN,.int 1]]) [aJ,fh,lN],.lam 744 0 (.call (.az (.adr 522)) [.bh aJ,.bh fh,.list [.int 0,.bh lN,.int 1]]) [aJ,fh,lN],.lam 745 0 (.call (.az (.adr 522)) [.bh aJ,.bh fh,.list [.int 0,.int 1,.bh lN]]) [aJ,fh,lN]])),.asg (.nm rU ak) (.bin .Add (.loc rU) (.list [.lam 747 0 (.call (.az (.adr 515)) [.bh aJ,.bh fh,.list [.int 1,.bh lK]]) [aJ,lK,fh],.lam 748 0 (.call (.az (.adr 522)) [.bh aJ,.bh fh,.list [.int 0,.bh lK]]) [aJ,lK,fh]])),.expr (.aY (.loc rU) fL [.lam 750 0 (.call (.az (.adr 527)) [.bh aJ,.bh fh,.bin .Mult (.list [.bh fh]) (.int 40)]) [aJ,fh]]),.asg (.nm tX ak) (.sub (.loc rU) (.call (.az (.adr 905)) [.loc bM,.int 8])),.iff (.iZ (.cmp (.call (.az (.adr 912)) [.loc tX]) .Eq (.str [108,101,116])) (.cmp (.attr (.bh fh) bf) .NotEq (.list [.int 1,.int 2,.int 3]))) [.ret (.tt ak)] [],.asg (.tp [.nm mj ah,.nm vG ak]) (.tup [.aY (.bh aJ) d8 [.list [.int 7]],.int 0]),.asg (.nm rZ ak) (.call (.az (.adr 905)) [.loc bM,.int 2]),.dS (.cmp (.loc vG) .Lt (.int 31)) [.asg (.nm tX ak) (.sub (.list [.lam 758 0 (.call (.az (.adr 477)) [.bh aJ,.bh mj,.list [.bh mj]]) [aJ,mj],.lam 759 0 (.call (.az (.adr 484)) [.bh aJ,.bh mj,.list [.bh mj]]) [aJ,mj]]) (.loc rZ)),.iff (.cmp (.call (.az (.adr 912)) [.loc tX]) .NotEq (.str [108,101,116])) [.ret (.cmp (.loc vG) .Gt (.int 3))] [],.asg (.nm mj ah) (.ite (.cmp (.loc rZ) .Eq (.int 1)) (.aY (.bh aJ) d8 [.bin .Add (.attr (.bh mj) bf) (.attr (.bh mj) bf)]) (.bh mj)),.asg (.nm vG ak) (.bin .Add (.loc vG) (.int 1))],.ret (.tt ak)]
noncomputable def ac4:FI:=FI.mk [aJ,bM] [] [aJ,tS,iT,EP] [.asg (.nm tS ah) (.bin .Add (.int 1) (.call (.az (.adr 905)) [.loc bM,.int 3])),.sD (.nm iT ah) (.comp (.aY (.bh aJ) d8 [.comp (.bin .Add (.bin .Mult (.bh 107) (.int 10)) (.loc 29793)) 29793 ak (.call (.az (.ty 7)) [.bh tS]) af [107]]) 107 ah (.call (.az (.ty 7)) [.bin .Add (.int 2) (.call (.az (.adr 905)) [.loc bM,.int 3])]) af [aJ,tS]),.iff (.cmp (.comp (.attr (.loc nh) bf) nh ak (.attr (.call (.az (.adr 532)) [.bh aJ,.aY (.bh aJ) d8 [.bh iT],.list []]) bf) af []) .NotEq (.comp (.comp (.sub (.attr (.loc nh) bf) (.bh 29793)) nh ak (.bh iT) af [29793]) 29793 ah (.call (.az (.ty 7)) [.bh tS]) af [iT])) [.ret (.tt ak)] [],.iO [LQ,cP,Lo] (.tup [.aY (.bh aJ) d8 [.bin .Mult (.list [.int 0]) (.bin .Sub (.bh tS) (.int 1))],.bin .Add (.int 1) (.call (.az (.adr 905)) [.loc bM,.call (.az (.bi 2)) [.bh iT]]),.call (.az (.adr 905)) [.loc bM,.int 2]]),.asg (.nm LR ak) (.sub (.list [.list [.loc LQ,.int 8],.list [.int 8,.loc LQ]]) (.loc Lo)),.asg (.nm EP ah) (.bin .Add (.bin .Add (.bin .Add (.sub (.bh iT) (.slice af (aa (.loc cP)))) (.sub (.loc LR) (.slice af (aa (.int 1))))) (.sub (.bh iT) (.slice (aa (.loc cP)) af))) (.sub (.loc LR) (.slice (aa (.int 1)) af))),.asg (.nm Gs ak) (.sub (.list [.bin .Add (.bin .Add (.bin .Add (.bin .Add (.str [73,110,100,101,120,69,114,114,111,114,58,32,101,108,101,109,101,110,116,32,115,105,122,101,32,100,105,102,102,101,114,115,32,40]) (.call (.az (.ty 8)) [.bin .Sub (.bh tS) (.int 1)])) (.str [32,115,104,111,117,108,100,32,98,101,32])) (.call (.az (.ty 8)) [.bh tS])) (.str [41]),.str [84,121,112,101,69,114,114,111,114,58,32,110,111,32,105,109,112,108,105,99,105,116,32,99,111,110,118,101,114,115,105,111,110,32,111,102,32,73,110,116,101,103,101,114,32,105,110,116,111,32,65,114,114,97,121]]) (.loc Lo)),.ret (.cmp (.call (.az (.adr 912)) [.lam 774 24 (.call (.az (.adr 532)) [.bh aJ,.aY (.bh aJ) d8 [.bh EP],.list []]) [aJ,EP]]) .Eq (.loc Gs))]
noncomputable def ado:FI:=FI.mk [aJ,bM] [] [aJ,fh,gz] [.asg (.tp [.nm gz ah,.nm fh ah]) (.tup [.bin .Sub (.neg (.int 1)) (.call (.az (.adr 905)) [.loc bM,.int 5]),.aY (.bh aJ) d8 [.list [.int 1,.int 2]]]),.sD (.nm 2129981791643559030644 ak) (.comp (.call (.az (.adr 912)) [.lam 777 30 (.call (.bh Mt) [.bh aJ,.bh fh,.list [.bh gz]]) [aJ,gz,Mt,fh]]) Mt ah (.list [.az (.adr 442),.az (.adr 449),.az (.adr 456),.az (.adr 463)]) af [aJ,gz,fh]),.ret (.gu (.cmp (.loc 2129981791643559030644) .Eq (.bin .Mult (.list [.str [65,114,103,117,109,101,110,116,69,114,114,111,114,58,32,110,101,103,97,116,105,118,101,32,97,114,114,97,121,32,115,105,122,101]]) (.int 4))) (.cmp (.attr (.bh fh) bf) .Eq (.list [.int 1,.int 2])))]
noncomputable def Hu:FI:=FI.mk [fO] [] [] [.iO [bM,aJ,jF] (.tup [.call (.az (.adr 898)) [.loc fO],.call (.az (.adr 889)) [.dict []],.cmp (.call (.az (.bi 2)) [.loc fO]) .Gt (.int 1)]),.iff (.iZ (.dU (.call (.az (.adr 929)) [.loc aJ,.loc bM,.ite (.loc jF) (.int 7) (.int 2)])) (.dU (.call (.az (.adr 924)) [.loc aJ,.loc bM,.sub (.list [.int 9,.int 1100]) (.call (.az (.ty 4)) [.gu (.loc jF) (.cmp (.call (.az (.adr 905)) [.loc bM,.int 3]) .Eq (.int 2))])]))) [.ret (.tt ak)] [],.iff (.iZ (.dU (.call (.az (.adr 934)) [.loc aJ,.loc bM,.int 30])) (.iZ (.dU (.call (.az (.adr 946)) [.loc aJ,.loc bM])) (.dU (.call (.az (.adr 951)) [.loc aJ,.loc bM])))) [.ret (.tt ak)] [],.ret (.call (.az (.adr 941)) [.loc aJ,.loc bM])]
noncomputable def QM:FI:=FI.mk [aI,bR,eg] [] [] [.asg (.at (.loc aI) bR) (.loc bR),.asg (.at (.loc aI) eg) (.loc eg),.asg (.at (.loc aI) mh) (.dict []),.asg (.at (.loc aI) mC) (.none),.asg (.at (.loc aI) kN) (.tt ak),.asg (.at (.loc aI) j0) (.none)]
noncomputable def afD:FI:=FI.mk [aI,bR,eg,jr] [.str []] [] [.expr (.aY (.az (.adr 40)) dZ [.loc aI,.loc bR,.loc eg]),.asg (.at (.loc aI) jr) (.loc jr)]
noncomputable def Rg:FI:=FI.mk [aI,bR,eg,bf] [.none] [] [.expr (.aY (.az (.adr 40)) dZ [.loc aI,.loc bR,.loc eg]),.asg (.at (.loc aI) bf) (.ite (.cmp (.loc bf) .Is (.none)) (.list []) (.loc bf))]
noncomputable def aee:FI:=FI.mk [aI,bR,eg,cW,iQ,iu,jq] [.none,.bool ak,.none,.none] [] [.expr (.aY (.az (.adr 40)) dZ [.loc aI,.loc bR,.loc eg]),.asg (.at (.loc aI) cW) (.loc cW),.asg (.at (.loc aI) iQ) (.loc iQ),.asg (.at (.loc aI) iu) (.loc iu),.asg (.at (.loc aI) jq) (.loc jq),.asg (.at (.loc aI) pH) (.dict []),.asg (.at (.loc aI) pD) (.dict []),.asg (.at (.loc aI) nW) (.list []),.asg (.at (.loc aI) jE) (.list []),.asg (.at (.loc aI) jX) (.none),.asg (.at (.loc aI) lI) (.none),.asg (.at (.loc aI) pQ) (.none)]
noncomputable def aeD:FI:=FI.mk [aI] [] [] [.ret (.cmp (.attr (.loc aI) jX) .IsNot (.none))]
noncomputable def acu:FI:=FI.mk [aI,bR,eg,cP,eH,EF] [.none,.none,.bool ak] [] [.expr (.aY (.az (.adr 40)) dZ [.loc aI,.loc bR,.loc eg]),.asg (.at (.loc aI) cP) (.loc cP),.asg (.at (.loc aI) eH) (.loc eH),.asg (.at (.loc aI) pP) (.loc EF)]
noncomputable def ac0:FI:=FI.mk [aI,bR,eg,jY] [.none] [] [.expr (.aY (.az (.adr 40)) dZ [.loc aI,.loc bR,.loc eg]),.asg (.at (.loc aI) jY) (.loc jY),.asg (.at (.loc aI) qM) (.none)]
noncomputable def acP:FI:=FI.mk [aI,l6,lG,m9,iU] [.none,.none,.int (AI.lit 20000)] [] [.asg (.at (.loc aI) l6) (.loc l6),.asg (.at (.loc aI) lG) (.ite (.cmp (.loc lG) .Is (.none)) (.dict []) (.loc lG)),.asg (.at (.loc aI) m9) (.loc m9),.asg (.at (.loc aI) iU) (.loc iU),.asg (.at (.loc aI) pM) (.int 0),.asg (.at (.loc aI) kM) (.int 0),.asg (.at (.loc aI) mY) (.int 8),.asg (.at (.loc aI) lZ) (.dict []),.asg (.at (.loc aI) cY) (.dict []),.asg (.at (.loc aI) pI) (.int 0),.asg (.at (.loc aI) pB) (.int 0),.asg (.at (.loc aI) pJ) (.dict []),.asg (.at (.loc aI) nZ) (.list []),.asg (.at (.loc aI) fZ) (.none),.asg (.at (.loc aI) m5) (.tt ak),.asg (.at (.loc aI) pR) (.call (.az (.adr 40)) [.aY (.loc aI) bR [],.aY (.loc aI) fN [.str [79,98,106,101,99,116]]]),.asg (.at (.loc aI) m5) (.tt ah),.eF (.nm cW ak) (.call (.az (.ty 5)) [.attr (.loc aI) cY]) [.expr (.aY (.loc aI) pF [.loc cW])]]
noncomputable def aer:FI:=FI.mk [aI] [] [] [.expr (.call (.az (.adr 21)) [.int 1])]
noncomputable def aeu:FI:=FI.mk [aI,jr] [] [] [.expr (.aY (.attr (.loc aI) nZ) fL [.loc jr])]
noncomputable def Pj:FI:=FI.mk [aI] [] [] [.aug (.loc aI) kM .Add (.int 1),.ret (.attr (.loc aI) kM)]
noncomputable def ad0:FI:=FI.mk [aI] [] [] [.aug (.loc aI) mY .Add (.int 8),.ret (.attr (.loc aI) mY)]
noncomputable def aef:FI:=FI.mk [aI,cj] [] [] [.asg (.nm tR ak) (.call (.az (.adr 244)) [.loc cj]),.iff (.cmp (.loc tR) .Eq (.str [105,110,116])) [.ret (.bin .Add (.bin .Mult (.int 2) (.loc cj)) (.int 1))] [],.iff (.cmp (.loc tR) .Eq (.str [110,105,108])) [.ret (.int 8)] [],.iff (.cmp (.loc tR) .Eq (.str [98,111,111,108])) [.ret (.ite (.loc cj) (.int 20) (.int 0))] [],.iff (.cmp (.loc tR) .Eq (.str [115,121,109])) [.iff (.cmp (.loc cj) .NotIn (.attr (.loc aI) lZ)) [.asg (.sb (.attr (.loc aI) lZ) (.loc cj)) (.aY (.loc aI) pC [])] [],.ret (.sub (.attr (.loc aI) lZ) (.loc cj))] [],.iff (.cmp (.attr (.loc cj) j0) .Is (.none)) [.asg (.at (.loc cj) j0) (.aY (.loc aI) pC [])] [],.ret (.attr (.loc cj) j0)]
noncomputable def PI:FI:=FI.mk [aI,cW] [] [] [.asg (.nm dF ak) (.aY (.attr (.loc aI) cY) jJ [.loc cW]),.ret (.ite (.cmp (.loc dF) .Is (.none)) (.aY (.loc aI) qE [.loc cW]) (.loc dF))]
noncomputable def acA:FI:=FI.mk [aI,cW] [] [aI] [.asg (.nm iQ ak) (.cmp (.loc cW) .NotIn (.az (.adr 601))),.asg (.nm dF ak) (.call (.az (.adr 228)) [.aY (.bh aI) bR [],.none,.loc cW,.loc iQ]),.asg (.sb (.attr (.bh aI) cY) (.loc cW)) (.loc dF),.asg (.at (.loc dF) lI) (.loc cW),.asg (.nm iu ak) (.sub (.az (.adr 602)) (.loc cW)),.asg (.at (.loc dF) iu) (.ite (.cmp (.loc iu) .Is (.none)) (.none) (.aY (.bh aI) fN [.loc iu])),.asg (.at (.loc dF) eg) (.aY (.bh aI) fN [.ite (.loc iQ) (.str [67,108,97,115,115]) (.str [77,111,100,117,108,101])]),.asg (.at (.loc dF) nW) (.comp (.aY (.bh aI) fN [.loc yc]) yc ak (.aY (.az (.adr 605)) jJ [.loc cW,.tup []]) af [aI]),.iff (.attr (.bh aI) m5) [.expr (.aY (.bh aI) pF [.loc cW])] [],.ret (.loc dF)]
noncomputable def aek:FI:=FI.mk [aI,cW] [] [] [.iff (.iZ (.cmp (.bin .Add (.loc cW) (.str [46])) .In (.attr (.loc aI) l6)) (.cmp (.bin .Add (.loc cW) (.str [46])) .In (.attr (.loc aI) lG))) [.expr (.call (.az (.adr 586)) [.loc aI,.sub (.attr (.loc aI) cY) (.loc cW)])] []]
noncomputable def acM:FI:=FI.mk [aI,cW,iQ,iu,jq,jX] [.none,.none,.none] [] [.asg (.nm eg ak) (.aY (.loc aI) fN [.ite (.loc iQ) (.str [67,108,97,115,115]) (.str [77,111,100,117,108,101])]),.iff (.gu (.loc iQ) (.cmp (.loc iu) .Is (.none))) [.asg (.nm iu ak) (.aY (.loc aI) fN [.str [79,98,106,101,99,116]])] [],.asg (.nm 126875185804403 ak) (.ite (.iZ (.cmp (.loc jq) .Is (.none)) (.call (.az (.adr 251)) [.loc jq,.aY (.loc aI) fN [.str [79,98,106,101,99,116]]])) (.none) (.loc jq)),.asg (.nm dF ak) (.call (.az (.adr 228)) [.aY (.loc aI) bR [],.loc eg,.loc cW,.loc iQ,.loc iu,.loc 126875185804403]),.asg (.at (.loc dF) jX) (.loc jX),.ret (.loc dF)]
noncomputable def adL:FI:=FI.mk [aI,cj] [] [] [.iff (.cmp (.loc cj) .Is (.none)) [.ret (.aY (.loc aI) fN [.str [78,105,108,67,108,97,115,115]])] [],.iff (.call (.az (.bi 1)) [.loc cj,.az (.ty 3)]) [.ret (.aY (.loc aI) fN [.ite (.loc cj) (.str [84,114,117,101,67,108,97,115,115]) (.str [70,97,108,115,101,67,108,97,115,115])])] [],.iff (.call (.az (.bi 1)) [.loc cj,.az (.ty 4)]) [.ret (.aY (.loc aI) fN [.str [73,110,116,101,103,101,114]])] [],.ret (.ite (.call (.az (.bi 1)) [.loc cj,.az (.ty 8)]) (.aY (.loc aI) fN [.str [83,121,109,98,111,108]]) (.attr (.loc cj) eg))]
noncomputable def adi:FI:=FI.mk [aI,cj] [] [] [.expr (.call (.az (.adr 21)) [.int 2])]
noncomputable def ac2:FI:=FI.mk [aI,cQ] [] [] [.expr (.call (.az (.adr 21)) [.int 3])]
noncomputable def acy:FI:=FI.mk [aI,cQ] [] [] [.dS (.iZ (.cmp (.attr (.loc cQ) lI) .Is (.none)) (.aY (.loc cQ) pK [])) [.asg (.nm cQ ak) (.attr (.loc cQ) iu)],.ret (.attr (.loc cQ) lI)]
noncomputable def aeh:FI:=FI.mk [aI,cQ] [] [] [.expr (.call (.az (.adr 21)) [.int 4])]
noncomputable def acT:FI:=FI.mk [aI,jr] [] [] [.ret (.call (.az (.adr 62)) [.aY (.loc aI) bR [],.aY (.loc aI) fN [.str [83,116,114,105,110,103]],.loc jr])]
noncomputable def OQ:FI:=FI.mk [aI,bf] [] [] [.ret (.call (.az (.adr 82)) [.aY (.loc aI) bR [],.aY (.loc aI) fN [.str [65,114,114,97,121]],.call (.az (.ty 5)) [.loc bf]])]
noncomputable def adC:FI:=FI.mk [aI,495840747888] [] [] [.expr (.call (.az (.adr 21)) [.int 5])]
noncomputable def aec:FI:=FI.mk [aI,7955819] [] [] [.expr (.call (.az (.adr 21)) [.int 6])]
noncomputable def adx:FI:=FI.mk [aI,cP,eH,EF] [] [] [.iff (.gu (.cmp (.loc cP) .IsNot (.none)) (.cmp (.loc eH) .IsNot (.none))) [.asg (.nm 110382528033641 ak) (.iZ (.cmp (.call (.az (.adr 244)) [.loc cP]) .Eq (.str [98,111,111,108])) (.cmp (.call (.az (.adr 244)) [.loc eH]) .Eq (.str [98,111,111,108]))),.iff (.iZ (.loc 110382528033641) (.dU (.call (.az (.adr 251)) [.aY (.loc aI) mZ [.loc cP],.aY (.loc aI) mZ [.loc eH]]))) [.expr (.aY (.loc aI) fY [.str [65,114,103,117,109,101,110,116,69,114,114,111,114],.str [98,97,100,32,118,97,108,117,101,32,102,111,114,32,114,97,110,103,101]])] []] [],.asg (.nm dF ak) (.call (.az (.adr 140)) [.aY (.loc aI) bR [],.aY (.loc aI) fN [.str [82,97,110,103,101]],.loc cP,.loc eH,.loc EF]),.asg (.at (.loc dF) kN) (.tt ah),.ret (.loc dF)]
noncomputable def ade:FI:=FI.mk [aI,126913623515504,2036625250,7761509,479125093479839133623667,EG,1701670760,1702127987,1796567639366534394729,32199672234141028] [] [] [.asg (.nm eg ak) (.aY (.loc aI) fN [.str [80,114,111,99]]),.ret (.call (.az (.adr 161)) [.aY (.loc aI) bR [],.loc eg,.loc 126913623515504,.loc 2036625250,.loc 7761509,.loc 479125093479839133623667,.loc EG,.loc 1701670760,.loc 1702127987,.loc 1796567639366534394729,.loc 32199672234141028])]
noncomputable def ac3:FI:=FI.mk [aI,cQ] [] [] [.iff (.aY (.loc cQ) pK []) [.expr (.aY (.loc aI) fY [.str [84,121,112,101,69,114,114,111,114],.str [99,97,110,39,116,32,99,114,101,97,116,101,32,105,110,115,116,97,110,99,101,32,111,102,32,115,105,110,103,108,101,116,111,110,32,99,108,97,115,115]])] [],.iO [qQ,bR] (.tup [.aY (.loc aI) qH [.loc cQ],.aY (.loc aI) bR []]),.iff (.cmp (.loc qQ) .In (.az (.adr 613))) [.expr (.aY (.loc aI) fY [.str [78,111,77,101,116,104,111,100,69,114,114,111,114],.bin .Add (.str [117,110,100,101,102,105,110,101,100,32,109,101,116,104,111,100,32,39,110,101,119,39,32,102,111,114,32,99,108,97,115,115,32]) (.call (.az (.adr 297)) [.loc cQ])])] [],.iff (.cmp (.loc qQ) .Eq (.str [83,116,114,105,110,103])) [.ret (.call (.az (.adr 62)) [.loc bR,.loc cQ,.str []])] [],.iff (.cmp (.loc qQ) .Eq (.str [65,114,114,97,121])) [.ret (.call (.az (.adr 82)) [.loc bR,.loc cQ,.list []])] [],.iff (.cmp (.loc qQ) .Eq (.str [72,97,115,104])) [.ret (.call (.az (.adr 120)) [.loc bR,.loc cQ])] [],.iff (.cmp (.loc qQ) .Eq (.str [82,97,110,103,101])) [.ret (.call (.az (.adr 140)) [.loc bR,.loc cQ])] [],.iff (.cmp (.loc qQ) .Eq (.str [70,105,98,101,114])) [.ret (.call (.az (.adr 201)) [.loc bR,.loc cQ])] [],.iff (.cmp (.loc qQ) .Eq (.str [80,114,111,99])) [.ret (.call (.az (.adr 161)) [.loc bR,.loc cQ])] [],.iff (.cmp (.loc qQ) .Eq (.str [67,108,97,115,115])) [.ret (.call (.az (.adr 228)) [.loc bR,.loc cQ,.none,.tt ah,.aY (.loc aI) fN [.str [79,98,106,101,99,116]]])] [],.iff (.cmp (.loc qQ) .Eq (.str [77,111,100,117,108,101])) [.ret (.call (.az (.adr 228)) [.loc bR,.loc cQ,.none,.tt ak])] [],.iff (.aY (.loc aI) qD [.loc cQ]) [.ret (.call (.az (.adr 181)) [.loc bR,.loc cQ])] [],.ret (.call (.az (.adr 40)) [.loc bR,.loc cQ])]
noncomputable def ad5:FI:=FI.mk [aI,cQ] [] [] [.dS (.cmp (.loc cQ) .IsNot (.none)) [.iff (.cmp (.attr (.loc cQ) lI) .Eq (.str [69,120,99,101,112,116,105,111,110])) [.ret (.tt ah)] [],.asg (.nm cQ ak) (.attr (.loc cQ) iu)],.ret (.tt ak)]
noncomputable def ad3:FI:=FI.mk [aI,cj] [] [] [.expr (.call (.az (.adr 21)) [.int 7])]
noncomputable def ad8:FI:=FI.mk [aI,cj] [] [] [.expr (.call (.az (.adr 21)) [.int 8])]
noncomputable def Pr:FI:=FI.mk [aI,gm] [] [] [.iff (.cmp (.loc gm) .Gt (.az (.int (AI.lit 20000)))) [.expr (.aY (.loc aI) fY [.str [65,114,103,117,109,101,110,116,69,114,114,111,114],.str [97,114,103,117,109,101,110,116,32,116,111,111,32,98,105,103]])] []]
noncomputable def aex:FI:=FI.mk [aI,jr] [] [] [.expr (.call (.az (.adr 21)) [.int 9])]
noncomputable def adQ:FI:=FI.mk [aI,cW,jY] [] [] [.ret (.call (.az (.adr 181)) [.aY (.loc aI) bR [],.aY (.loc aI) fN [.loc cW],.aY (.loc aI) jr [.loc jY]])]
noncomputable def adH:FI:=FI.mk [aI,cW,jY] [] [] [.Dq (.call (.az (.adr 570)) [.aY (.loc aI) qN [.loc cW,.loc jY]])]
noncomputable def adF:FI:=FI.mk [aI,cj] [] [] [.expr (.call (.az (.adr 21)) [.int 10])]
noncomputable def ada:FI:=FI.mk [aI,cj,cW,eZ] [] [] [.expr (.call (.az (.adr 21)) [.int 11])]
noncomputable def acD:FI:=FI.mk [aI,cj] [] [] [.expr (.call (.az (.adr 21)) [.int 12])]
noncomputable def adO:FI:=FI.mk [aI,cQ,cW] [] [] [.expr (.call (.az (.adr 21)) [.int 13])]
noncomputable def adZ:FI:=FI.mk [aI,EG,cW] [] [] [.expr (.call (.az (.adr 21)) [.int 14])]
noncomputable def adb:FI:=FI.mk [aI,EG,cW] [] [] [.expr (.call (.az (.adr 21)) [.int 15])]
noncomputable def aew:FI:=FI.mk [aI,cQ,cW] [] [] [.expr (.call (.az (.adr 21)) [.int 16])]
noncomputable def adg:FI:=FI.mk [aI,cQ,cW] [] [] [.expr (.call (.az (.adr 21)) [.int 17])]
noncomputable def aeb:FI:=FI.mk [aI,cQ,cW,cj] [] [] [.expr (.call (.az (.adr 21)) [.int 18])]
noncomputable def adf:FI:=FI.mk [aI,jD] [] [] [.expr (.aY (.az (.adr 550)) dZ [.loc aI,.str [97,32,82,117,98,121,32,101,114,114,111,114]]),.asg (.at (.loc aI) jD) (.loc jD)]
noncomputable def acN:FI:=FI.mk [aI,m8] [.str []] [] [.expr (.aY (.az (.ty 2)) dZ [.loc aI,.loc m8]),.asg (.at (.loc aI) m8) (.loc m8)]
noncomputable def Qm:List Nat:=[414,421,428,435,442,449,456,463,470,477,484,491,498,505,510,515,522,527,532,372,379,386,393,400,407,365,237,244,251,297,898,905,912,919,924,929,934,941,946,951,958,37,59,79,218,225,137,178,628,635,642,649,656,663,670,675,682,690,697,704,711,718,725,732,739,746,753,760,767,774,781,788,795,802,809,816,823,830,837,844,851,858,865,872,879,886,567,547]
noncomputable def jN:dz FI:=(.bnd (.bnd (.bnd (.bnd (.bnd (.bnd (.bnd .aj 37 QM .aj) 59 afD .aj) 79 Rg (.bnd (.bnd .aj 137 acu .aj) 178 ac0 .aj)) 218 aee (.bnd (.bnd (.bnd .aj 225 aeD .aj) 237 PS .aj) 244 aey (.bnd (.bnd .aj 251 aet .aj) 297 ac8 .aj))) 365 adI (.bnd (.bnd (.bnd (.bnd .aj 372 Pn .aj) 379 acK .aj) 386 OV (.bnd (.bnd .aj 393 ac6 .aj) 400 aeo .aj)) 407 acI (.bnd (.bnd (.bnd .aj 414 acU .aj) 421 adh .aj) 428 acY (.bnd .aj 435 acL .aj)))) 442 adB (.bnd (.bnd (.bnd (.bnd (.bnd .aj 449 ac1 .aj) 456 aem .aj) 463 acR (.bnd (.bnd .aj 470 aeB .aj) 477 aea .aj)) 484 adJ (.bnd (.bnd (.bnd .aj 491 Qg .aj) 498 PF .aj) 505 ON (.bnd .aj 510 Py .aj))) 515 adD (.bnd (.bnd (.bnd (.bnd .aj 522 ac5 .aj) 527 adk .aj) 532 adG (.bnd (.bnd .aj 547 acN .aj) 567 adf .aj)) 628 acP (.bnd (.bnd (.bnd .aj 635 aer .aj) 642 aeu .aj) 649 Pj (.bnd .aj 656 ad0 .aj))))) 663 aef (.bnd (.bnd (.bnd (.bnd (.bnd (.bnd .aj 670 PI .aj) 675 acA .aj) 682 aek (.bnd (.bnd .aj 690 acM .aj) 697 adL .aj)) 704 adi (.bnd (.bnd (.bnd .aj 711 ac2 .aj) 718 acy .aj) 725 aeh (.bnd .aj 732 acT .aj))) 739 OQ (.bnd (.bnd (.bnd (.bnd .aj 746 adC .aj) 753 aec .aj) 760 adx (.bnd (.bnd .aj 767 ade .aj) 774 ac3 .aj)) 781 ad5 (.bnd (.bnd (.bnd .aj 788 ad3 .aj) 795 ad8 .aj) 802 Pr (.bnd .aj 809 aex .aj)))) 816 adQ (.bnd (.bnd (.bnd (.bnd (.bnd .aj 823 adH .aj) 830 adF .aj) 837 ada (.bnd (.bnd .aj 844 acD .aj) 851 adO .aj)) 858 adZ (.bnd (.bnd (.bnd .aj 865 adb .aj) 872 aew .aj) 879 adg (.bnd .aj 886 aeb .aj))) 898 Hs (.bnd (.bnd (.bnd (.bnd .aj 905 CQ .aj) 912 adt .aj) 919 PK (.bnd (.bnd .aj 924 Qk .aj) 929 zd .aj)) 934 ael (.bnd (.bnd (.bnd .aj 941 nk .aj) 946 ac4 .aj) 951 ado (.bnd .aj 958 Hu .aj))))))
noncomputable def GP:dz (Option Nat):=(.bnd (.bnd (.bnd (.bnd (.bnd (.bnd .aj mC af .aj) f9 af (.bnd .aj jJ af .aj)) nZ af (.bnd (.bnd .aj m9 af .aj) cY af (.bnd .aj cW af .aj))) fZ af (.bnd (.bnd (.bnd .aj fY af .aj) pP af (.bnd .aj pR af .aj)) pQ af (.bnd (.bnd .aj eH af .aj) iU af (.bnd .aj jr af .aj)))) jE af (.bnd (.bnd (.bnd (.bnd .aj nW af .aj) qM af (.bnd .aj jD af .aj)) pM af (.bnd (.bnd .aj eg af .aj) jq af (.bnd .aj qN af .aj))) bf af (.bnd (.bnd (.bnd .aj j0 af .aj) cP af (.bnd .aj fL af .aj)) iR af (.bnd (.bnd .aj lI af .aj) kN af .aj)))) m8 af (.bnd (.bnd (.bnd (.bnd (.bnd .aj pK af .aj) bR af (.bnd .aj mh af .aj)) iu af (.bnd (.bnd .aj lG af .aj) jY af (.bnd .aj qH af .aj))) d8 af (.bnd (.bnd (.bnd .aj fN af .aj) pI af (.bnd .aj pH af .aj)) l6 af (.bnd (.bnd .aj pJ af .aj) dZ (aa 37) .aj))) jX af (.bnd (.bnd (.bnd (.bnd .aj qG af .aj) mZ af (.bnd .aj pF af .aj)) iQ af (.bnd (.bnd .aj m5 af .aj) iI af (.bnd .aj pD af .aj))) mY af (.bnd (.bnd (.bnd .aj pC af .aj) kM af (.bnd .aj qE af .aj)) pB af (.bnd (.bnd .aj lZ af .aj) qD af .aj)))))
noncomputable def aeg:dz (Option Nat):=(.bnd (.bnd (.bnd (.bnd (.bnd (.bnd .aj mC af .aj) f9 af (.bnd .aj jJ af .aj)) nZ af (.bnd (.bnd .aj m9 af .aj) cY af (.bnd .aj cW af .aj))) fZ af (.bnd (.bnd (.bnd .aj fY af .aj) pP af (.bnd .aj pR af .aj)) pQ af (.bnd (.bnd .aj eH af .aj) iU af (.bnd .aj jr af .aj)))) jE af (.bnd (.bnd (.bnd (.bnd .aj nW af .aj) qM af (.bnd .aj jD af .aj)) pM af (.bnd (.bnd .aj eg af .aj) jq af (.bnd .aj qN af .aj))) bf af (.bnd (.bnd (.bnd .aj j0 af .aj) cP af (.bnd .aj fL af .aj)) iR af (.bnd (.bnd .aj lI af .aj) kN af .aj)))) m8 af (.bnd (.bnd (.bnd (.bnd (.bnd .aj pK af .aj) bR af (.bnd .aj mh af .aj)) iu af (.bnd (.bnd .aj lG af .aj) jY af (.bnd .aj qH af .aj))) d8 af (.bnd (.bnd (.bnd .aj fN af .aj) pI af (.bnd .aj pH af .aj)) l6 af (.bnd (.bnd .aj pJ af .aj) dZ (aa 59) .aj))) jX af (.bnd (.bnd (.bnd (.bnd .aj qG af .aj) mZ af (.bnd .aj pF af .aj)) iQ af (.bnd (.bnd .aj m5 af .aj) iI af (.bnd .aj pD af .aj))) mY af (.bnd (.bnd (.bnd .aj pC af .aj) kM af (.bnd .aj qE af .aj)) pB af (.bnd (.bnd .aj lZ af .aj) qD af .aj)))))
noncomputable def aed:dz (Option Nat):=(.bnd (.bnd (.bnd (.bnd (.bnd (.bnd .aj mC af .aj) f9 af (.bnd .aj jJ af .aj)) nZ af (.bnd (.bnd .aj m9 af .aj) cY af (.bnd .aj cW af .aj))) fZ af (.bnd (.bnd (.bnd .aj fY af .aj) pP af (.bnd .aj pR af .aj)) pQ af (.bnd (.bnd .aj eH af .aj) iU af (.bnd .aj jr af .aj)))) jE af (.bnd (.bnd (.bnd (.bnd .aj nW af .aj) qM af (.bnd .aj jD af .aj)) pM af (.bnd (.bnd .aj eg af .aj) jq af (.bnd .aj qN af .aj))) bf af (.bnd (.bnd (.bnd .aj j0 af .aj) cP af (.bnd .aj fL af .aj)) iR af (.bnd (.bnd .aj lI af .aj) kN af .aj)))) m8 af (.bnd (.bnd (.bnd (.bnd (.bnd .aj pK af .aj) bR af (.bnd .aj mh af .aj)) iu af (.bnd (.bnd .aj lG af .aj) jY af (.bnd .aj qH af .aj))) d8 af (.bnd (.bnd (.bnd .aj fN af .aj) pI af (.bnd .aj pH af .aj)) l6 af (.bnd (.bnd .aj pJ af .aj) dZ (aa 79) .aj))) jX af (.bnd (.bnd (.bnd (.bnd .aj qG af .aj) mZ af (.bnd .aj pF af .aj)) iQ af (.bnd (.bnd .aj m5 af .aj) iI af (.bnd .aj pD af .aj))) mY af (.bnd (.bnd (.bnd .aj pC af .aj) kM af (.bnd .aj qE af .aj)) pB af (.bnd (.bnd .aj lZ af .aj) qD af .aj)))))
noncomputable def ab8:dz (Option Nat):=(.bnd (.bnd (.bnd (.bnd (.bnd (.bnd .aj mC af .aj) f9 af (.bnd .aj jJ af .aj)) nZ af (.bnd (.bnd .aj m9 af .aj) cY af (.bnd .aj cW af .aj))) fZ af (.bnd (.bnd (.bnd .aj fY af .aj) pP af (.bnd .aj pR af .aj)) pQ af (.bnd (.bnd .aj eH af .aj) iU af (.bnd .aj jr af .aj)))) jE af (.bnd (.bnd (.bnd (.bnd .aj nW af .aj) qM af (.bnd .aj jD af .aj)) pM af (.bnd (.bnd .aj eg af .aj) jq af (.bnd .aj qN af .aj))) bf af (.bnd (.bnd (.bnd .aj j0 af .aj) cP af (.bnd .aj fL af .aj)) iR af (.bnd (.bnd .aj lI af .aj) kN af .aj)))) m8 af (.bnd (.bnd (.bnd (.bnd (.bnd .aj pK (aa 225) .aj) bR af (.bnd .aj mh af .aj)) iu af (.bnd (.bnd .aj lG af .aj) jY af (.bnd .aj qH af .aj))) d8 af (.bnd (.bnd (.bnd .aj fN af .aj) pI af (.bnd .aj pH af .aj)) l6 af (.bnd (.bnd .aj pJ af .aj) dZ (aa 218) .aj))) jX af (.bnd (.bnd (.bnd (.bnd .aj qG af .aj) mZ af (.bnd .aj pF af .aj)) iQ af (.bnd (.bnd .aj m5 af .aj) iI af (.bnd .aj pD af .aj))) mY af (.bnd (.bnd (.bnd .aj pC af .aj) kM af (.bnd .aj qE af .aj)) pB af (.bnd (.bnd .aj lZ af .aj) qD af .aj)))))
noncomputable def ab5:dz (Option Nat):=(.bnd (.bnd (.bnd (.bnd (.bnd (.bnd .aj mC af .aj) f9 af (.bnd .aj jJ af .aj)) nZ af (.bnd (.bnd .aj m9 af .aj) cY af (.bnd .aj cW af .aj))) fZ af (.bnd (.bnd (.bnd .aj fY af .aj) pP af (.bnd .aj pR af .aj)) pQ af (.bnd (.bnd .aj eH af .aj) iU af (.bnd .aj jr af .aj)))) jE af (.bnd (.bnd (.bnd (.bnd .aj nW af .aj) qM af (.bnd .aj jD af .aj)) pM af (.bnd (.bnd .aj eg af .aj) jq af (.bnd .aj qN af .aj))) bf af (.bnd (.bnd (.bnd .aj j0 af .aj) cP af (.bnd .aj fL af .aj)) iR af (.bnd (.bnd .aj lI af .aj) kN af .aj)))) m8 af (.bnd (.bnd (.bnd (.bnd (.bnd .aj pK af .aj) bR af (.bnd .aj mh af .aj)) iu af (.bnd (.bnd .aj lG af .aj) jY af (.bnd .aj qH af .aj))) d8 af (.bnd (.bnd (.bnd .aj fN af .aj) pI af (.bnd .aj pH af .aj)) l6 af (.bnd (.bnd .aj pJ af .aj) dZ (aa 137) .aj))) jX af (.bnd (.bnd (.bnd (.bnd .aj qG af .aj) mZ af (.bnd .aj pF af .aj)) iQ af (.bnd (.bnd .aj m5 af .aj) iI af (.bnd .aj pD af .aj))) mY af (.bnd (.bnd (.bnd .aj pC af .aj) kM af (.bnd .aj qE af .aj)) pB af (.bnd (.bnd .aj lZ af .aj) qD af .aj)))))
noncomputable def abn:dz (Option Nat):=(.bnd (.bnd (.bnd (.bnd (.bnd (.bnd .aj mC af .aj) f9 af (.bnd .aj jJ af .aj)) nZ af (.bnd (.bnd .aj m9 af .aj) cY af (.bnd .aj cW af .aj))) fZ af (.bnd (.bnd (.bnd .aj fY af .aj) pP af (.bnd .aj pR af .aj)) pQ af (.bnd (.bnd .aj eH af .aj) iU af (.bnd .aj jr af .aj)))) jE af (.bnd (.bnd (.bnd (.bnd .aj nW af .aj) qM af (.bnd .aj jD af .aj)) pM af (.bnd (.bnd .aj eg af .aj) jq af (.bnd .aj qN af .aj))) bf af (.bnd (.bnd (.bnd .aj j0 af .aj) cP af (.bnd .aj fL af .aj)) iR af (.bnd (.bnd .aj lI af .aj) kN af .aj)))) m8 af (.bnd (.bnd (.bnd (.bnd (.bnd .aj pK af .aj) bR af (.bnd .aj mh af .aj)) iu af (.bnd (.bnd .aj lG af .aj) jY af (.bnd .aj qH af .aj))) d8 af (.bnd (.bnd (.bnd .aj fN af .aj) pI af (.bnd .aj pH af .aj)) l6 af (.bnd (.bnd .aj pJ af .aj) dZ (aa 178) .aj))) jX af (.bnd (.bnd (.bnd (.bnd .aj qG af .aj) mZ af (.bnd .aj pF af .aj)) iQ af (.bnd (.bnd .aj m5 af .aj) iI af (.bnd .aj pD af .aj))) mY af (.bnd (.bnd (.bnd .aj pC af .aj) kM af (.bnd .aj qE af .aj)) pB af (.bnd (.bnd .aj lZ af .aj) qD af .aj)))))
noncomputable def acq:dz (Option Nat):=(.bnd (.bnd (.bnd (.bnd (.bnd (.bnd .aj mC af .aj) f9 af (.bnd .aj jJ af .aj)) nZ af (.bnd (.bnd .aj m9 af .aj) cY af (.bnd .aj cW af .aj))) fZ af (.bnd (.bnd (.bnd .aj fY (aa 823) .aj) pP af (.bnd .aj pR af .aj)) pQ af (.bnd (.bnd .aj eH af .aj) iU af (.bnd .aj jr (aa 732) .aj)))) jE af (.bnd (.bnd (.bnd (.bnd .aj nW af .aj) qM af (.bnd .aj jD (aa 774) .aj)) pM af (.bnd (.bnd .aj eg af .aj) jq af (.bnd .aj qN (aa 816) .aj))) bf af (.bnd (.bnd (.bnd .aj j0 (aa 663) .aj) cP af (.bnd .aj fL af .aj)) iR af (.bnd (.bnd .aj lI af .aj) kN af .aj)))) m8 af (.bnd (.bnd (.bnd (.bnd (.bnd .aj pK af .aj) bR (aa 649) (.bnd .aj mh af .aj)) iu af (.bnd (.bnd .aj lG af .aj) jY af (.bnd .aj qH (aa 718) .aj))) d8 (aa 739) (.bnd (.bnd (.bnd .aj fN (aa 670) .aj) pI af (.bnd .aj pH af .aj)) l6 af (.bnd (.bnd .aj pJ af .aj) dZ (aa 628) .aj))) jX af (.bnd (.bnd (.bnd (.bnd .aj qG (aa 760) .aj) mZ (aa 697) (.bnd .aj pF (aa 682) .aj)) iQ af (.bnd (.bnd .aj m5 af .aj) iI (aa 802) (.bnd .aj pD af .aj))) mY af (.bnd (.bnd (.bnd .aj pC (aa 656) .aj) kM af (.bnd .aj qE (aa 675) .aj)) pB af (.bnd (.bnd .aj lZ af .aj) qD (aa 781) .aj)))))
noncomputable def yR:dz (Option Nat):=(.bnd (.bnd (.bnd (.bnd (.bnd (.bnd .aj mC af .aj) f9 af (.bnd .aj jJ af .aj)) nZ af (.bnd (.bnd .aj m9 af .aj) cY af (.bnd .aj cW af .aj))) fZ af (.bnd (.bnd (.bnd .aj fY af .aj) pP af (.bnd .aj pR af .aj)) pQ af (.bnd (.bnd .aj eH af .aj) iU af (.bnd .aj jr af .aj)))) jE af (.bnd (.bnd (.bnd (.bnd .aj nW af .aj) qM af (.bnd .aj jD af .aj)) pM af (.bnd (.bnd .aj eg af .aj) jq af (.bnd .aj qN af .aj))) bf af (.bnd (.bnd (.bnd .aj j0 af .aj) cP af (.bnd .aj fL af .aj)) iR af (.bnd (.bnd .aj lI af .aj) kN af .aj)))) m8 af (.bnd (.bnd (.bnd (.bnd (.bnd .aj pK af .aj) bR af (.bnd .aj mh af .aj)) iu af (.bnd (.bnd .aj lG af .aj) jY af (.bnd .aj qH af .aj))) d8 af (.bnd (.bnd (.bnd .aj fN af .aj) pI af (.bnd .aj pH af .aj)) l6 af (.bnd (.bnd .aj pJ af .aj) dZ (aa 567) .aj))) jX af (.bnd (.bnd (.bnd (.bnd .aj qG af .aj) mZ af (.bnd .aj pF af .aj)) iQ af (.bnd (.bnd .aj m5 af .aj) iI af (.bnd .aj pD af .aj))) mY af (.bnd (.bnd (.bnd .aj pC af .aj) kM af (.bnd .aj qE af .aj)) pB af (.bnd (.bnd .aj lZ af .aj) qD af .aj)))))
noncomputable def GB:dz (Option Nat):=(.bnd (.bnd (.bnd (.bnd (.bnd (.bnd .aj mC af .aj) f9 af (.bnd .aj jJ af .aj)) nZ af (.bnd (.bnd .aj m9 af .aj) cY af (.bnd .aj cW af .aj))) fZ af (.bnd (.bnd (.bnd .aj fY af .aj) pP af (.bnd .aj pR af .aj)) pQ af (.bnd (.bnd .aj eH af .aj) iU af (.bnd .aj jr af .aj)))) jE af (.bnd (.bnd (.bnd (.bnd .aj nW af .aj) qM af (.bnd .aj jD af .aj)) pM af (.bnd (.bnd .aj eg af .aj) jq af (.bnd .aj qN af .aj))) bf af (.bnd (.bnd (.bnd .aj j0 af .aj) cP af (.bnd .aj fL af .aj)) iR af (.bnd (.bnd .aj lI af .aj) kN af .aj)))) m8 af (.bnd (.bnd (.bnd (.bnd (.bnd .aj pK af .aj) bR af (.bnd .aj mh af .aj)) iu af (.bnd (.bnd .aj lG af .aj) jY af (.bnd .aj qH af .aj))) d8 af (.bnd (.bnd (.bnd .aj fN af .aj) pI af (.bnd .aj pH af .aj)) l6 af (.bnd (.bnd .aj pJ af .aj) dZ (aa 547) .aj))) jX af (.bnd (.bnd (.bnd (.bnd .aj qG af .aj) mZ af (.bnd .aj pF af .aj)) iQ af (.bnd (.bnd .aj m5 af .aj) iI af (.bnd .aj pD af .aj))) mY af (.bnd (.bnd (.bnd .aj pC af .aj) kM af (.bnd .aj qE af .aj)) pB af (.bnd (.bnd .aj lZ af .aj) qD af .aj)))))
noncomputable def clsTree:dz (dz (Option Nat)):=(.bnd (.bnd (.bnd (.bnd .aj 40 GP .aj) 62 aeg .aj) 82 aed (.bnd .aj 140 ab5 .aj)) 181 abn (.bnd (.bnd (.bnd .aj 228 ab8 .aj) 550 GB .aj) 570 yR (.bnd .aj 889 acq .aj)))
noncomputable def y9:List (Nat×List AV):=[(601,[.str [75,101,114,110,101,108],.str [67,111,109,112,97,114,97,98,108,101],.str [69,110,117,109,101,114,97,98,108,101]]),
(613,
 [.str [78,105,108,67,108,97,115,115],
 .str [84,114,117,101,67,108,97,115,115],
 .str [70,97,108,115,101,67,108,97,115,115],
 .str [73,110,116,101,103,101,114],
 .str [83,121,109,98,111,108]]),
(606,[.str [75,101,114,110,101,108]]),
(607,[.str [67,111,109,112,97,114,97,98,108,101]]),
(608,[.str [67,111,109,112,97,114,97,98,108,101]]),
(609,[.str [67,111,109,112,97,114,97,98,108,101]]),
(610,[.str [69,110,117,109,101,114,97,98,108,101]]),
(611,[.str [69,110,117,109,101,114,97,98,108,101]]),
(612,[.str [69,110,117,109,101,114,97,98,108,101]])]
noncomputable def pX:List (Nat×List (List Nat×AV)):=[(602,
 [([66,97,115,105,99,79,98,106,101,99,116],.none),
 ([79,98,106,101,99,116],.str [66,97,115,105,99,79,98,106,101,99,116]),
 ([77,111,100,117,108,101],.str [79,98,106,101,99,116]),
 ([67,108,97,115,115],.str [77,111,100,117,108,101]),
 ([75,101,114,110,101,108],.none),
 ([67,111,109,112,97,114,97,98,108,101],.none),
 ([69,110,117,109,101,114,97,98,108,101],.none),
 ([78,105,108,67,108,97,115,115],.str [79,98,106,101,99,116]),
 ([84,114,117,101,67,108,97,115,115],.str [79,98,106,101,99,116]),
 ([70,97,108,115,101,67,108,97,115,115],.str [79,98,106,101,99,116]),
 ([78,117,109,101,114,105,99],.str [79,98,106,101,99,116]),
 ([73,110,116,101,103,101,114],.str [78,117,109,101,114,105,99]),
 ([83,116,114,105,110,103],.str [79,98,106,101,99,116]),
 ([83,121,109,98,111,108],.str [79,98,106,101,99,116]),
 ([65,114,114,97,121],.str [79,98,106,101,99,116]),
 ([72,97,115,104],.str [79,98,106,101,99,116]),
 ([82,97,110,103,101],.str [79,98,106,101,99,116]),
 ([80,114,111,99],.str [79,98,106,101,99,116]),
 ([70,105,98,101,114],.str [79,98,106,101,99,116]),
 ([69,120,99,101,112,116,105,111,110],.str [79,98,106,101,99,116]),
 ([83,99,114,105,112,116,69,114,114,111,114],.str [69,120,99,101,112,116,105,111,110]),
 ([78,111,116,73,109,112,108,101,109,101,110,116,101,100,69,114,114,111,114],.str [83,99,114,105,112,116,69,114,114,111,114]),
 ([83,121,115,116,101,109,83,116,97,99,107,69,114,114,111,114],.str [69,120,99,101,112,116,105,111,110]),
 ([83,116,97,110,100,97,114,100,69,114,114,111,114],.str [69,120,99,101,112,116,105,111,110]),
 ([65,114,103,117,109,101,110,116,69,114,114,111,114],.str [83,116,97,110,100,97,114,100,69,114,114,111,114]),
 ([85,110,99,97,117,103,104,116,84,104,114,111,119,69,114,114,111,114],.str [65,114,103,117,109,101,110,116,69,114,114,111,114]),
 ([70,105,98,101,114,69,114,114,111,114],.str [83,116,97,110,100,97,114,100,69,114,114,111,114]),
 ([73,110,100,101,120,69,114,114,111,114],.str [83,116,97,110,100,97,114,100,69,114,114,111,114]),
 ([75,101,121,69,114,114,111,114],.str [73,110,100,101,120,69,114,114,111,114]),
 ([83,116,111,112,73,116,101,114,97,116,105,111,110],.str [73,110,100,101,120,69,114,114,111,114]),
 ([76,111,99,97,108,74,117,109,112,69,114,114,111,114],.str [83,116,97,110,100,97,114,100,69,114,114,111,114]),
 ([78,97,109,101,69,114,114,111,114],.str [83,116,97,110,100,97,114,100,69,114,114,111,114]),
 ([78,111,77,101,116,104,111,100,69,114,114,111,114],.str [78,97,109,101,69,114,114,111,114]),
 ([78,111,77,97,116,99,104,105,110,103,80,97,116,116,101,114,110,69,114,114,111,114],.str [83,116,97,110,100,97,114,100,69,114,114,111,114]),
 ([78,111,77,97,116,99,104,105,110,103,80,97,116,116,101,114,110,75,101,121,69,114,114,111,114],
  .str [78,111,77,97,116,99,104,105,110,103,80,97,116,116,101,114,110,69,114,114,111,114]),
 ([82,97,110,103,101,69,114,114,111,114],.str [83,116,97,110,100,97,114,100,69,114,114,111,114]),
 ([82,117,110,116,105,109,101,69,114,114,111,114],.str [83,116,97,110,100,97,114,100,69,114,114,111,114]),
 ([70,114,111,122,101,110,69,114,114,111,114],.str [82,117,110,116,105,109,101,69,114,114,111,114]),
 ([84,121,112,101,69,114,114,111,114],.str [83,116,97,110,100,97,114,100,69,114,114,111,114]),
 ([90,101,114,111,68,105,118,105,115,105,111,110,69,114,114,111,114],.str [83,116,97,110,100,97,114,100,69,114,114,111,114])]),
(605,
 [([79,98,106,101,99,116],.adr 606),
 ([78,117,109,101,114,105,99],.adr 607),
 ([83,116,114,105,110,103],.adr 608),
 ([83,121,109,98,111,108],.adr 609),
 ([65,114,114,97,121],.adr 610),
 ([72,97,115,104],.adr 611),
 ([82,97,110,103,101],.adr 612)])]
noncomputable def De:dz AV:=(.bnd (.bnd (.bnd (.bnd (.bnd (.bnd (.bnd .aj 7234924 (.bi 2) .aj) 7235949 (.bi 4) (.bnd .aj 7500915 (.ty 8) .aj)) 7561825 (.bi 0) (.bnd (.bnd .aj 7630441 (.ty 4) .aj) 7823724 (.adr 958) .aj)) 7889261 (.bi 3) (.bnd (.bnd (.bnd .aj 1701667187 (.adr 251) .aj) 1819242338 (.ty 3) (.bnd .aj 1952541798 (.adr 491) .aj)) 1953720684 (.ty 5) (.bnd (.bnd .aj 1954047316 (.adr 62) .aj) 2003789939 (.adr 358) .aj))) 293221189965 (.adr 605) (.bnd (.bnd (.bnd (.bnd .aj 431316168535 (.adr 889) .aj) 435526984050 (.ty 7) (.bnd .aj 444234033236 (.adr 40) .aj)) 465674794847 (.adr 21) (.bnd (.bnd .aj 76159455678037 (.adr 613) .aj) 110386890760530 (.adr 570) .aj)) 127970252055151 (.ty 6) (.bnd (.bnd (.bnd .aj 128017563087721 (.adr 237) .aj) 23438617217355597 (.adr 601) .aj) 26845003462762335 (.none) (.bnd (.bnd .aj 28273320740746089 (.adr 271) .aj) 28832903138144099 (.adr 264) .aj)))) 28832903390719859 (.adr 244) (.bnd (.bnd (.bnd (.bnd (.bnd .aj 6002815979737404738 (.adr 602) .aj) 6872320843720122207 (.none) (.bnd .aj 6872323072689856351 (.str [47,99,108,97,105,109,47,99,117,116,46,112,121]) .aj)) 6872323076851130207 (.str [108,97,119,95,112,113,48,52,57,52,95,48,49]) (.bnd (.bnd .aj 7381223203347197040 (.adr 407) .aj) 7449343420811799647 (.adr 898) .aj)) 7810757299313537897 (.adr 283) (.bnd (.bnd (.bnd .aj 7953762057738024304 (.adr 421) .aj) 7955995165954105716 (.adr 258) .aj) 7959953321914753389 (.adr 600) (.bnd (.bnd .aj 8101817809940736364 (.adr 456) .aj) 8245935277855302983 (.adr 550) .aj))) 8389759014264989038 (.adr 372) (.bnd (.bnd (.bnd (.bnd .aj 8391737035952712044 (.adr 435) .aj) 1443837525180256833357 (.int (AI.lit 20000)) (.bnd .aj 1537010809991692898383 (.adr 23) .aj)) 1851983298167067208806 (.adr 498) (.bnd (.bnd .aj 1852485171258934126707 (.adr 335) .aj) 1852920348065284385131 (.adr 365) .aj)) 1871002853623659787622 (.adr 297) (.bnd (.bnd (.bnd .aj 1889593155523193956716 (.adr 400) .aj) 1907970644520465298000 (.adr 161) .aj) 1907970644520750770508 (.adr 82) (.bnd (.bnd .aj 2000058003531758530420 (.adr 428) .aj) 2000060247549444057452 (.adr 522) .aj))))) 2018005687988166814060 (.adr 414) (.bnd (.bnd (.bnd (.bnd (.bnd (.bnd .aj 2036451312758769935726 (.adr 386) .aj) 2037169923944901474373 (.ty 1) (.bnd .aj 2110522298404940245107 (.adr 323) .aj)) 2129836829831798679916 (.adr 484) (.bnd (.bnd .aj 2148136358094642047340 (.adr 449) .aj) 2148138609894186378606 (.adr 379) .aj)) 2148497774163810937951 (.adr 905) (.bnd (.bnd (.bnd .aj 2148497780760881621107 (.adr 309) .aj) 393381813070416634400589 (.int (AI.lit 20000)) (.bnd .aj 450384490862771188227935 (.none) .aj)) 478793196199587447665513 (.bi 1) (.bnd (.bnd .aj 478866983173597514655859 (.adr 330) .aj) 478959722138310449985391 (.adr 586) .aj))) 488440484997247571747154 (.adr 140) (.bnd (.bnd (.bnd (.bnd .aj 488440484997247654846804 (.adr 120) .aj) 488440484997303371983174 (.adr 201) (.bnd .aj 488440484997303540806213 (.adr 181) .aj)) 488440485032406442535027 (.adr 342) (.bnd (.bnd .aj 540221506423950520970335 (.adr 919) .aj) 540405614369491047440726 (.ty 2) .aj)) 544943514293448849978217 (.adr 276) (.bnd (.bnd (.bnd .aj 549683675356022592203116 (.adr 463) .aj) 549832115952473105327470 (.adr 393) .aj) 549924131814508483275116 (.adr 442) (.bnd (.bnd .aj 107921631608032419096380740 (.int (AI.lit 12)) .aj) 115298448249767165785300831 (.none) .aj)))) 122660801703700584460282979 (.adr 593) (.bnd (.bnd (.bnd (.bnd (.bnd .aj 125040764159295399959752525 (.adr 228) .aj) 131089986867360781202057331 (.adr 316) (.bnd .aj 138296650660379148719974515 (.adr 304) .aj)) 140695298809486965310974316 (.adr 477) (.bnd (.bnd .aj 140775616293196988981406060 (.adr 470) .aj) 25781888669741787176495959111 (.str [33,64,126,38,96,39,43,36,63,58,34,47,92,59,44,46,60,62,95,42]) .aj)) 29516468994777367089179156319 (.adr 4) (.bnd (.bnd (.bnd .aj 33542192103000902404306725983 (.adr 912) .aj) 36020499165001384020648618348 (.adr 527) .aj) 36045811343340879932011275629 (.adr 350) (.bnd (.bnd .aj 8749578195052691464328133042546 (.adr 579) .aj) 8749578199738159138375919165762 (.ty 0) .aj))) 1688931578015471499938660321413459 (.adr 22) (.bnd (.bnd (.bnd (.bnd .aj 2036277170781637223950687917009260 (.adr 505) .aj) 2360474186369004786868178226735468 (.adr 515) (.bnd .aj 495204175889884515450050897942503263 (.adr 6) .aj)) 521287354950921612240013498472687980 (.adr 532) (.bnd (.bnd .aj 563027206428384044445632883599569769 (.adr 290) .aj) 604423999323752855324228344824818783 (.adr 934) .aj)) 604423999323753077335364425541053535 (.adr 946) (.bnd (.bnd (.bnd .aj 154732543826880721389786029482573917279 (.adr 941) .aj) 154732543826880782744021056056499203167 (.adr 924) .aj) 154732543826880806539525443066427173983 (.adr 951) (.bnd (.bnd .aj 34520577589448417458060670556525458319724 (.adr 510) .aj) 39611531219681463457414669863158072568927 (.adr 929) .aj))))))
noncomputable def mH{I:Type}:List (Nat×I)->Nat->Option I
 | [],_=>af
 |p::l,k=>match aH p.1 k with
  |true=>aa p.2
  |false=>mH l k
noncomputable def yX:List (Nat×List Nat):=[(40,[40]),(62,[62,40]),(82,[82,40]),(228,[228,40]),(140,[140,40]),(181,[181,40]),(889,[889])]
noncomputable def I8(b:Nat):Bool:=[40,62,82,228,140,181].any (aH b)
noncomputable def dG(rest:List Nat)(cnt j:Nat):Nat:=match rest[j]? with
 |some n=>n
 |none=>(3*(cnt+j+1)*(cnt+j+1)+5*(cnt+j+1)) % 89
noncomputable def gv(re:List Nat)(ct:Nat)(w j:Nat):Option (List Nat):=aa [dG re ct j % w]
noncomputable def br(sym:Nat->Nat->Option (List Nat)):EC where
 fn:=jN.get
 spec:=λa=>match aH a 905 with
  |true=>aa .next
  |false=>af
 fC:=λa=>[40,62,82,228,140,181,889].any (aH a)
 may:=λa=>match jN.get a with
  |some _=>ah
  |none=>[40,62,82,228,140,181,889,570].any (aH a)
 isExc:=λa=>aH a 570
 cls:=λa k=>match clsTree.get a with
  |some l=>l.get k
  |none=>af
 rB:=λa k=>match aH k dZ&&(aH a 40||aH a 550)with
  |true=>(match clsTree.get a with
   |some l=>(match l.get k with
    |some (aa f)=>aa f
    |_=>af)
   |none=>af)
  |false=>af
 sub:=λa b=>match mH yX a,I8 b with
  |some l,ah=>aa (l.any (aH b))
  |_,_=>af
 zA:=I8
 wF:=λa b=>match aH a 570&&aH b 570 with
  |true=>aa ah
  |false=>af
 tups:=mH y9
 oj:=mH pX
 lists:=λ_=>af
 tabOf:=λa=>mH [(934,931),(941,936),(946,943),(951,948)] a
 sym:=sym
noncomputable def gK:Ev->Nat->List AV->ES->R Out:=ae9 (br λ_ _=>af) 82 823 bR bf [65,114,103,117,109,101,110,116,69,114,114,111,114] [116,114,105,101,100,32,116,111,32,102,108,97,116,116,101,110,32,114,101,99,117,114,115,105,118,101,32,97,114,114,97,121]
noncomputable def fk(k:Nat):Option AV:=De.get k
end Mine
end
section
namespace Mine
open PySem PySem.W PySem.Calls PyProof.Rows
theorem Tr.get_nil(i:Nat):Tr.nil.get i=af:=rfl
theorem Tr.pV(v:Option AO)(l r:Tr):(Tr.node v l r).get 0=v:=rfl
theorem Tr.eU(v:Option AO)(l r:Tr)(j:Nat):(Tr.node v l r).get (j+1)=if j % 2=0 then l.get (j / 2)else r.get (j / 2):=by
 show @ee (λ_=>Nat->Option AO) r.get l.get (aH (j % 2) 0) (j / 2)=_;rw[fT]
 by_cases h:j % 2=0<;>simp[h]
theorem Tr.Nl(o:AO)(v:Option AO)(l r:Tr):Tr.upd o (Tr.node v l r) 0= .node (aa o) l r:=rfl
theorem Tr.Nv(o:AO)(v:Option AO)(l r:Tr)(j:Nat):Tr.upd o (Tr.node v l r) (j+1)=if j % 2=0 then .node v (Tr.upd o l (j / 2)) r else .node v l (Tr.upd o r (j / 2)):=by
 show @ee (λ_=>Tr) (.node v l (Tr.upd o r (j / 2))) (.node v (Tr.upd o l (j / 2)) r) (aH (j % 2) 0)=_;rw[fT]
 by_cases h:j % 2=0<;>simp[h]
theorem Tr.Cz(o:AO):∀(t:Tr) (i:Nat) (p:AO),t.get i=aa p->∀j,(Tr.upd o t i).get j=if j=i then aa o else t.get j
 | .nil,_,_,h,_=>by exact aN h
 | .node v l r,0,p,h,j=>by
  rw[Tr.Nl];cases j with
  |zero=>rfl
  |succ j=>rw[Tr.eU,Tr.eU,if_neg (vD j)]
 | .node v l r,i+1,p,h,j=>by
  rw[Tr.eU]at h;rw[Tr.Nv]
  by_cases hi:i % 2=0
  ·rw[if_pos hi]at h ⊢;cases j with
   |zero=>rw[Tr.pV,Tr.pV,if_neg (vD i).symm]
   |succ j=>
    rw[Tr.eU,Tr.eU]
    by_cases hj:j % 2=0
    ·rw[if_pos hj,if_pos hj,Tr.Cz o l (i / 2) p h]
     by_cases q:j / 2=i / 2
     ·have:j=i:=by exact ajs hi hj q
      subst this;simp
     ·rw[if_neg q,if_neg (Sy q)]
    ·rw[if_neg hj,if_neg hj,if_neg (ajj hi hj)]
  ·rw[if_neg hi]at h ⊢;cases j with
   |zero=>rw[Tr.pV,Tr.pV,if_neg (vD i).symm]
   |succ j=>
    rw[Tr.eU,Tr.eU]
    by_cases hj:j % 2=0
    ·rw[if_pos hj,if_pos hj,if_neg (aiy hi hj)]
    ·rw[if_neg hj,if_neg hj,Tr.Cz o r (i / 2) p h]
     by_cases q:j / 2=i / 2
     ·have:j=i:=by exact ail hi hj q
      subst this;simp
     ·rw[if_neg q,if_neg (Sy q)]
theorem Tr.L7(n:Nat)(o:AO):Tr.put (n+1) .nil 0 o= .node (aa o) .nil .nil:=rfl
theorem Tr.Ma(n j:Nat)(o:AO):Tr.put (n+1) .nil (j+1) o=if j % 2=0 then .node af (Tr.put n .nil (j / 2) o) .nil else .node af .nil (Tr.put n .nil (j / 2) o):=by
 show @ee (λ_=>Tr) (.node af .nil (Tr.put n .nil (j / 2) o)) (.node af (Tr.put n .nil (j / 2) o) .nil) (aH (j % 2) 0)=_;rw[fT]
 by_cases h:j % 2=0<;>simp[h]
theorem Tr.LI(n:Nat)(v:Option AO)(l r:Tr)(o:AO):Tr.put (n+1) (.node v l r) 0 o= .node (aa o) l r:=rfl
theorem Tr.LK(n j:Nat)(v:Option AO)(l r:Tr)(o:AO):Tr.put (n+1) (.node v l r) (j+1) o=if j % 2=0 then .node v (Tr.put n l (j / 2) o) r else .node v l (Tr.put n r (j / 2) o):=by
 show @ee (λ_=>Tr) (.node v l (Tr.put n r (j / 2) o)) (.node v (Tr.put n l (j / 2) o) r) (aH (j % 2) 0)=_;rw[fT]
 by_cases h:j % 2=0<;>simp[h]
theorem Tr.r7(o:AO):∀(n:Nat) (t:Tr) (i j:Nat),(j≠i->(Tr.put n t i o).get j=t.get j)/\((Tr.put n t i o).get i=aa o\/(Tr.put n t i o).get i=t.get i)
 |0,t,i,j=>⟨λ_=>rfl,.inr rfl⟩
 |n+1,.nil,0,j=>by
  rw[Tr.L7];refine⟨λh=>?_,.inl rfl⟩;cases j with
  |zero=>exact absurd rfl h
  |succ j=>rw[Tr.eU,Tr.get_nil,ite_self]
 |n+1,.nil,i+1,j=>by
  rw[Tr.Ma];have ih:=λk=>Tr.r7 o n .nil (i / 2) k
  by_cases hi:i % 2=0
  ·rw[if_pos hi];refine⟨λh=>?_,?_⟩
   ·cases j with
    |zero=>rfl
    |succ j=>
     rw[Tr.eU]
     by_cases hj:j % 2=0
     ·rw[if_pos hj];exact(ih (j / 2)).1 (I3 hi h hj)
     ·rw[if_neg hj];rfl
   ·rw[Tr.eU,if_pos hi];exact(ih 0).2
  ·rw[if_neg hi];refine⟨λh=>?_,?_⟩
   ·cases j with
    |zero=>rfl
    |succ j=>
     rw[Tr.eU]
     by_cases hj:j % 2=0
     ·rw[if_pos hj];rfl
     ·rw[if_neg hj];exact(ih (j / 2)).1 (IG hi h hj)
   ·rw[Tr.eU,if_neg hi];exact(ih 0).2
 |n+1,.node v l r,0,j=>by
  rw[Tr.LI];refine⟨λh=>?_,.inl rfl⟩;cases j with
  |zero=>exact absurd rfl h
  |succ j=>rw[Tr.eU,Tr.eU]
 |n+1,.node v l r,i+1,j=>by
  rw[Tr.LK]
  by_cases hi:i % 2=0
  ·have ih:=λk=>Tr.r7 o n l (i / 2) k;rw[if_pos hi];refine⟨λh=>?_,?_⟩
   ·cases j with
    |zero=>rfl
    |succ j=>
     rw[Tr.eU,Tr.eU]
     by_cases hj:j % 2=0
     ·rw[if_pos hj,if_pos hj];exact(ih (j / 2)).1 (I3 hi h hj)
     ·rw[if_neg hj,if_neg hj]
   ·rw[Tr.eU,Tr.eU,if_pos hi,if_pos hi];exact(ih 0).2
  ·have ih:=λk=>Tr.r7 o n r (i / 2) k;rw[if_neg hi];refine⟨λh=>?_,?_⟩
   ·cases j with
    |zero=>rfl
    |succ j=>
     rw[Tr.eU,Tr.eU]
     by_cases hj:j % 2=0
     ·rw[if_pos hj,if_pos hj]
     ·rw[if_neg hj,if_neg hj];exact(ih (j / 2)).1 (IG hi h hj)
   ·rw[Tr.eU,Tr.eU,if_neg hi,if_neg hi];exact(ih 0).2
noncomputable def ES.st(U:ES):St:=⟨U.get,U.next⟩
theorem ES.mG{U:ES}{x:Nat}{o p:AO}(h:U.get x=aa p):(U.put x o).st=U.st.put x o:=by
 unfold ES.st St.put
 congr 1
 funext y
 exact Tr.Cz o U.t x p h y
theorem ES.add_eq(U:ES)(o:AO):U.add o=(U.next,⟨Tr.put 40 U.t U.next o,U.next+1⟩):=by unfold ES.add;cases h:U.next<;>rfl
section
variable{W:WS}{U:ES}{Y:Nat->aG}{s:aE}
theorem Rel.weak(R:Rel W U.st Y s){o:AO}{a:aG}{r:Obj}:Rel W ⟨U.get,U.next+1⟩ (dK Y U.next a) {s with heap:=s.heap.push r}:=by
 have e:∀x o,U.get x=aa o->dK Y U.next a x=Y x:=λx o h=>dw x (R.lt x o h)
 refine⟨λb p h=>jo _ (R.base b p h),λx p h=>?_,λx p h=>?_,λx y p q hx hy h=>?_,λx p h=>m7 (R.lt x p h),R.gens,R.os⟩
 ·obtain⟨r',h1,h2⟩:=R.obj x p h;exact⟨r',by rw[e x p h];exact jo _ h1,h2.mono (iA _) dw⟩
 ·rw[e x p h];exact R.new x p h
 ·rw[e x p hx,e y q hy]at h;exact R.inj x y p q hx hy h
theorem Ext.weak{h:cy}{a:aG}{r:Obj}:Ext W U.st Y h ⟨U.get,U.next+1⟩ (dK Y U.next a) (h.push r):=
 ⟨iA _,dw,λ_ _ e=>⟨_,e,id⟩,λ_ _ e=>.inl ⟨_,e⟩,λ_ _ e _ _=>jo _ e,λ_ o e _ _=>⟨o.slots,jo _ e⟩,λ_ _ e=>⟨_,jo _ e,λx=>x⟩⟩
theorem MO(U:ES)(hl:∀x o,U.get x=aa o->x<U.next)(o:AO):(U.add o).2.st=U.st.add o\/(U.add o).2.st=⟨U.get,U.next+1⟩:=by
 rw[ES.add_eq];have q:=λj=>Tr.r7 o 40 U.t U.next j
 have hn:U.t.get U.next=af:=by
  cases z:U.t.get U.next with
  |none=>rfl
  |some p=>exact absurd (hl _ p z) (vE _)
 rcases(q 0).2 with h|h
 ·left
  unfold ES.st St.add
  congr 1
  funext y
  by_cases e:y=U.next
  ·subst e;rw[if_pos rfl];exact h
  ·rw[if_neg e];exact(q y).1 e
 ·right
  unfold ES.st
  congr 1
  funext y
  by_cases e:y=U.next
  ·subst e;exact h
  ·exact(q y).1 e
theorem Rel.jP(R:Rel W U.st Y s){o:AO}{r:Obj}(hf:r.isFreed=ak)(hr:OR W (U.next+1) (dK Y U.next s.heap.objs.size) o r):
  Rel W (U.add o).2.st (dK Y U.next s.heap.objs.size) {s with heap:=s.heap.push r}/\Ext W U.st Y s.heap (U.add o).2.st (dK Y U.next s.heap.objs.size) (s.heap.push r)/\
  VR W (U.add o).2.next (dK Y U.next s.heap.objs.size) (.ref (U.add o).1) (.ref s.heap.objs.size):=by
 have v:VR W (U.add o).2.next (dK Y U.next s.heap.objs.size) (.ref (U.add o).1) (.ref s.heap.objs.size):=by rw[ES.add_eq];exact⟨EL _,by rw[mw]⟩
 rcases MO U R.lt o with h|h
 ·rw[h];exact⟨R.add hf hr,Ext.add R.lt,v⟩
 ·rw[h];exact⟨R.weak (o:=o),Ext.weak,v⟩
theorem Rel.uN(R:Rel W U.st Y s){x:Nat}{o o':AO}{r:Obj}{f:Obj->Obj}(e:U.get x=aa o)(hr:s.heap.get? (Y x)=aa r)(hf:(f r).isFreed=ak)(hn:mK r->mK (f r))(ho:OR W U.next Y o' (f r))
  (hi:isNs o=ah->isNs o'=ah:=by intro z;first|rfl|exact absurd z nR|assumption):
  Rel W (U.put x o').st Y {s with heap:=s.heap.update (Y x) f}/\Ext W U.st Y s.heap (U.put x o').st Y (s.heap.update (Y x) f):=by
 rw[ES.mG e];exact⟨R.put e hr hf ho,Ext.put e hr hf hn hi⟩
end
noncomputable def PR{I H:Type}(W:WS)(U:St)(Y:Nat->aG)(h:cy)(V:Nat->(Nat->aG)->I->H->Prop)(Q:H->aE->Prop)(E:ay->aE->Prop):R I->Prop
 | .ok a σ'=>∀ρ' s' b,Rel W σ'.st ρ' s'->Ext W U Y h σ'.st ρ' s'.heap->V σ'.next ρ' a b->Q b s'
 | .exc x σ'=>∀ρ' s',Rel W σ'.st ρ' s'->Ext W U Y h σ'.st ρ' s'.heap->x<σ'.next->E (.ref (ρ' x)) s'
 | .alt r r'=>PR W U Y h V Q E r/\PR W U Y h V Q E r'
 | .stuck=>False
section
variable{I H γ δ:Type}{W:WS}{U U1_:ES}{Y cF:Nat->aG}{s s1_:aE}{V:Nat->(Nat->aG)->I->H->Prop}{V':Nat->(Nat->aG)->γ->δ->Prop}{Q:H->aE->Prop}{Q':δ->aE->Prop}{E E':ay->aE->Prop}
theorem PR.from(R0:Rel W U.st Y s)(DA:Rel W U1_.st cF s1_)(X:Ext W U.st Y s.heap U1_.st cF s1_.heap){r:R I}(h:PR W U.st Y s.heap V Q E r):PR W U1_.st cF s1_.heap V Q E r:=by
 induction r with
 |ok a σ'=>exact λρ' s' b R' X' v=>h ρ' s' b R' (X.trans R0.lt DA.lt X') v
 |exc x σ'=>exact λρ' s' R' X' l=>h ρ' s' R' (X.trans R0.lt DA.lt X') l
 |alt a b dh dj=>exact⟨dh h.1,dj h.2⟩
 |stuck=>exact h
theorem PR.here(R0:Rel W U.st Y s){a:I}{b:H}(h:PR W U.st Y s.heap V Q E (.ok a U))(v:V U.next Y a b):Q b s:=h Y s b R0 .refl v
theorem PR.fold{f:I->ES->R γ}{g:Nat->ES->R γ}{r:R I}(R0:Rel W U.st Y s)(h:PR W U.st Y s.heap V' Q' E' (gr f g r))
  (K:∀a U1_ cF s1_ b,Rel W U1_.st cF s1_->Ext W U.st Y s.heap U1_.st cF s1_.heap->V U1_.next cF a b->PR W U1_.st cF s1_.heap V' Q' E' (f a U1_)->Q b s1_)
  (G:∀x U1_ cF s1_,Rel W U1_.st cF s1_->Ext W U.st Y s.heap U1_.st cF s1_.heap->x<U1_.next->PR W U1_.st cF s1_.heap V' Q' E' (g x U1_)->E (.ref (cF x)) s1_):PR W U.st Y s.heap V Q E r:=by
 induction r with
 |ok a σ'=>exact λρ' s' b R' X' v=>K a σ' ρ' s' b R' X' v (PR.from R0 R' X' h)
 |exc x σ'=>exact λρ' s' R' X' l=>G x σ' ρ' s' R' X' l (PR.from R0 R' X' h)
 |alt a b dh dj=>exact⟨dh h.1,dj h.2⟩
 |stuck=>exact h
theorem PR.then{k:I->ES->R γ}{r:R I}(R0:Rel W U.st Y s)(h:PR W U.st Y s.heap V' Q' E (bindR r k))
  (K:∀a U1_ cF s1_ b,Rel W U1_.st cF s1_->Ext W U.st Y s.heap U1_.st cF s1_.heap->V U1_.next cF a b->PR W U1_.st cF s1_.heap V' Q' E (k a U1_)->Q b s1_):PR W U.st Y s.heap V Q E r:=
 PR.fold R0 h K λx U1_ cF s1_ DA akX l h=>h cF s1_ DA .refl l
theorem PR.ways{f:Nat->R I}:∀{n:Nat},PR W U.st Y s.heap V Q E (Um f n)->∀i,i<=n->PR W U.st Y s.heap V Q E (f i)
 |0,h,i,hi=>by have:i=0:=KS hi;subst this;exact h
 |n+1,h,i,hi=>by
  by_cases e:i=n+1
  ·subst e;exact h.2
  ·exact PR.ways (n:=n) h.1 i (EH (WY hi e))
theorem bZ{o:Option I}{k:I->R γ}{G:Prop}(h:PR W U.st Y s.heap V' Q' E (bz o k))(q:∀r,o=aa r->PR W U.st Y s.heap V' Q' E (k r)->G):G:=by
 cases o with
 |none=>exact h.elim
 |some r=>exact q r rfl h
theorem Ag{δ:Type}{o:Option δ}{f:δ->R I}{k:I->ES->R γ}{G:Prop}(h:PR W U.st Y s.heap V' Q' E (bindR (bz o f) k))(q:∀r,o=aa r->PR W U.st Y s.heap V' Q' E (bindR (f r) k)->G):G:=by
 cases o with
 |none=>exact h.elim
 |some r=>exact q r rfl h
theorem ajM{b:Bool}{f:R I}{k:I->ES->R γ}{G:Prop}(h:PR W U.st Y s.heap V' Q' E (bindR (cond b f .stuck) k))(q:b=ah->PR W U.st Y s.heap V' Q' E (bindR f k)->G):G:=by
 cases b with
 |false=>exact h.elim
 |true=>exact q rfl h
theorem Sf{δ:Type}{o:Option δ}{e:δ->R I}{f:I->ES->R γ}{g:Nat->ES->R γ}{G:Prop}(h:PR W U.st Y s.heap V' Q' E (gr f g (bz o e)))(q:∀r,o=aa r->PR W U.st Y s.heap V' Q' E (gr f g (e r))->G):G:=by
 cases o with
 |none=>exact h.elim
 |some r=>exact q r rfl h
theorem uR{δ:Type}{p r:δ}{k:δ->R γ}(e:aa p=aa r)(h:PR W U.st Y s.heap V' Q' E (k r)):PR W U.st Y s.heap V' Q' E (k p):=by cases e;exact h
theorem prV{V':Nat->(Nat->aG)->Out->H->Prop}{Q':H->aE->Prop}{σ':ES}{p r:AV}(e:aa p=aa r)(h:PR W U.st Y s.heap V' Q' E (eS r σ')):PR W U.st Y s.heap V' Q' E (eS p σ'):=by cases e;exact h
theorem jA{b:Bool}{r:R γ}{G:Prop}(h:PR W U.st Y s.heap V' Q' E (cond b r .stuck))(q:b=ah->PR W U.st Y s.heap V' Q' E r->G):G:=by
 cases b with
 |false=>exact h.elim
 |true=>exact q rfl h
end
theorem sR{I:Type}{a r:I}(e:aa a=aa r){P:I->Prop}(h:P r):P a:=(aX e).symm▸h
section
variable{W:WS}{n:Nat}{Y:Nat->aG}{a:AV}{v:ay}{P:ay->Prop}
@[elab_as_elim] theorem vInt{i:AI}(e:mO a=aa i)(h:VR W n Y a v)(k:∀t,P (.int (i.at W) t)):P v:=by rw[Ge e]at h;obtain⟨t,rfl⟩:=h;exact k t
@[elab_as_elim] theorem uE{i:Int}(e:iH a=aa i)(h:VR W n Y a v)(k:∀t,P (.int ((AI.lit i).at W) t)):P v:=by rw[qT e]at h;obtain⟨t,rfl⟩:=h;exact k t
@[elab_as_elim] theorem vStr{l:List Nat}(e:mQ a=aa l)(h:VR W n Y a v)(k:∀t,P (.str (strOf l) t)):P v:=by rw[Gn e]at h;obtain⟨t,rfl⟩:=h;exact k t
@[elab_as_elim] theorem oB{x:Nat}(e:fU a=aa x)(h:VR W n Y a v)(k:P (.ref (Y x))):P v:=by rw[kh e]at h;obtain⟨_,rfl⟩:=h;exact k
@[elab_as_elim] theorem ru{x:aG}(e:lu a=aa x)(h:VR W n Y a v)(k:P (.ref x)):P v:=by rw[vO e]at h;obtain rfl:=h;exact k
@[elab_as_elim] theorem vBool{x:Bool}(e:se a=aa x)(h:VR W n Y a v)(k:P (.bool x)):P v:=by rw[FY e]at h;obtain rfl:=h;exact k
@[elab_as_elim] theorem J1{x:Nat}(e:AU a=aa x)(h:VR W n Y a v)(k:P (.builtin (KJ x))):P v:=by rw[aci e]at h;obtain rfl:=h;exact k
@[elab_as_elim] theorem AA{x:Nat}(e:vd a=aa x)(h:VR W n Y a v)(k:P (.type (Az x))):P v:=by rw[abM e]at h;obtain rfl:=h;exact k
@[elab_as_elim] theorem Ab(e:a.isNil=ah)(h:VR W n Y a v)(k:P .none):P v:=by rw[yy e]at h;obtain rfl:=h;exact k
@[elab_as_elim] theorem aO.l1{I H:Type}{R:I->H->Prop}{P:List H->Prop}{as:List I}{vs:List H}{a:I}(e:l1 as=aa a)(h:aO R as vs)(k:∀v,R a v->P [v]):P vs:=by rw[OZ e]at h;cases h with|cons h t=>cases t;exact k _ h
@[elab_as_elim] theorem aO.l2{I H:Type}{R:I->H->Prop}{P:List H->Prop}{as:List I}{vs:List H}{p:I×I}(e:l2 as=aa p)(h:aO R as vs)(k:∀v w,R p.1 v->R p.2 w->P [v,w]):P vs:=by rw[Pz e]at h;cases h with|cons h t=>cases t with|cons h' t=>cases t;exact k _ _ h h'
end
theorem Pp:∀{a b:List Nat},D5 a b=ah->a=b
 | [],[],_=>rfl
 |a::l,b::m,h=>by
  unfold D5 at h;rw[fT]at h
  by_cases q:a=b
  ·rw[decide_eq_true q]at h;rw[q,Pp h]
  ·rw[decide_eq_false q]at h;exact cB h
 | [],_::_,h=>by exact cB h
 |_::_,[],h=>by exact cB h
theorem mz{s:Str}{k:Nat}(h:codeN s=aa k):nm k=s/\(s==("__debug__" :Str))=ak/\(s==("__classdict__" :Str))=ak:=by
 unfold codeN at h;split at h
 ·rename_i q
  rw[bJ,bJ]at q
  (injection h with h;subst h)
  refine⟨?_,by simpa using q.1.2,by simpa using q.2⟩;unfold nm;rw[Pp q.1.1];rfl
 ·exact aN h
structure eu(W:WS)(d:Nat)(A:cR)(U:St)(Y:Nat->aG)(h:cy):Prop where
 hd:A.depth+4*d+8<recursionLimit
 hu:A.units+40*d+40<cLine
 hh:d≠0->A.handled=af
 fr:∃l,A.frames=aa l/\h.FunFrames W.h0_ l/\∀env∈l,∀L,env.frame=aa L->∃x o,U.get x=aa o/\isNs o=ah/\Y x=L
 tb:∀t,t∈W.tabs->t<U.next/\Y t=t
theorem Lu{h0_ h h':cy}(t:∀b o,h.get? b=aa o->∃o',h'.get? b=aa o'/\(mK o->mK o')):∀{l:List Env},h.FunFrames h0_ l->h'.FunFrames h0_ l
 | [],_=>trivial
 |env::_,⟨hk,⟨L,o,hf,hn,ho,hd⟩,hr⟩=>by refine aV (t L o ho) λo' ho' hn'=>?_;exact⟨hk,⟨L,o',hf,hn,ho',hn' hd⟩,Lu t hr⟩
theorem eu.ext{W:WS}{d:Nat}{A:cR}{U σ':St}{Y ρ':Nat->aG}{h h':cy}(a:eu W d A U Y h)(X:Ext W U Y h σ' ρ' h')(hl:∀x o,U.get x=aa o->x<U.next):eu W d A σ' ρ' h':=by obtain⟨h1,h2,h3,⟨l,h4,h5,h6⟩,h7⟩:=a;refine⟨h1,h2,h3,⟨l,h4,Lu X.there h5,λenv he L hL=>?_⟩,λt ht=>⟨dm (h7 t ht).1 X.le,(X.ag t (h7 t ht).1).trans (h7 t ht).2⟩⟩;refine fE (h6 env he L hL) λx o hx hi hr=>?_;refine aV (X.mono x o hx) λo' ho' hi'=>?_;exact⟨x,o',ho',hi' hi,by rw[X.ag x (hl x o hx)];exact hr⟩
noncomputable def GW(a b:Option pU):Prop:=a=b\/(a=aa .cell/\b=aa .free)
structure jg(W:WS)(n:Nat)(Y:Nat->aG)(sc:cu)(cx:CX)(env:Env):Prop where
 kinds:∀id,GW (env.kindOf id) (sc.names.lookup id)
 kind:env.scope.kind= .function
 gl:env.globals=eY
 bi:env.builtins=eK
 loc:env.locals=Y cx.loc/\cx.loc<n
 fr:env.frame=aa (Y cx.fr)/\cx.fr<n
 cells:aO (λ(p:Nat×Nat) (q:Str×aG)=>q.1=nm p.1/\q.2=Y p.2/\p.2<n) cx.cells env.cells
theorem jg.mono{W:WS}{n n':Nat}{Y ρ':Nat->aG}{sc:cu}{cx:CX}{env:Env}(e:jg W n Y sc cx env)(le:n<=n')(ag:∀x,x<n->ρ' x=Y x):jg W n' ρ' sc cx env:=by obtain⟨h1,h2,h3,h4,h5,h6,h7⟩:=e;exact⟨h1,h2,h3,h4,⟨by rw[ag _ h5.2];exact h5.1,dm h5.2 le⟩,⟨by rw[ag _ h6.2];exact h6.1,dm h6.2 le⟩,h7.mono λa b q=>⟨q.1,by rw[ag _ q.2.2];exact q.2.1,dm q.2.2 le⟩⟩
theorem FF{n:Nat}{Y:Nat->aG}{l:List (Nat×Nat)}{m:List (Str×aG)}(h:aO (λ(p:Nat×Nat) (q:Str×aG)=>q.1=nm p.1/\q.2=Y p.2/\p.2<n) l m){k c:Nat}(e:ri l k=aa c):
  m.lookup (nm k)=aa (Y c)/\c<n:=by
 induction h with
 |nil=>exact aN e
 |@cons p q l m h _ ih=>
  have e':@ee (λ_=>Option Nat) (ri l k) (aa p.2) (aH p.1 k)=aa c:=e;rw[fT]at e';obtain⟨q1,q2⟩:=q;refine cU h λh1 h2 h3=>?_;try clear h
  dsimp only at h1 h2;subst h1 h2;rw[l8]
  by_cases z:p.1=k
  ·rw[decide_eq_true z]at e'
   (injection e' with e';subst e')
   rw[z];simp only[beq_self_eq_true];exact⟨trivial,h3⟩
  ·rw[decide_eq_false z]at e';have:(nm k==nm p.1)=ak:=beq_eq_false_iff_ne.mpr λq=>z (O3 q).symm;rw[this];exact ih e'
noncomputable def VO(W:WS)(n:Nat)(Y:Nat->aG)(o:Out)(v:ay):Prop:=∃a,o= .v a/\VR W n Y a v
noncomputable def VB(n:Nat)(Y:Nat->aG)(o:Out)(b:Bool):Prop:=o= .b b
noncomputable def gM(W:WS)(n:Nat)(Y:Nat->aG):Flow->gA->Prop
 | .next,f=>f= .next
 | .cont,f=>f= .cont
 | .brk,f=>f= .brk
 | .ret a,f=>∃v,f= .ret v/\VR W n Y a v
noncomputable def VF(W:WS)(n:Nat)(Y:Nat->aG)(o:Out)(f:gA):Prop:=∃g,o= .f g/\gM W n Y g f
set_option backward.match.sparseCases true in
noncomputable def om(Q:ay->aE->Prop)(E:ay->aE->Prop):Result->aE->Prop:=λr s'=>match r with
 | .ok (.ret v)=>Q v s'
 | .ok _=>False
 | .error e=>E e s'
section
variable{W:WS}{U:ES}{Y:Nat->aG}{s:aE}{A:cR}{Q:ay->aE->Prop}{E:ay->aE->Prop}{cx:CX}{sc:cu}{env:Env}
theorem agY{k:Nat}{id:Str}{pos:Pos}(R0:Rel W U.st Y s)(N:jg W U.next Y sc cx env)(hc:codeN id=aa k)(hk:sc.names.lookup id=aa .local)
  (h:PR W U.st Y s.heap (VO W) Q E (HB cx k U)):aC (model W.prog W.w) A (eval (.Name id pos) env) Q E s:=by
 refine cU (mz hc) λhn hd _=>bZ h λkvs hx h=>bZ h λa ha h=>aV (R0.obj cx.loc _ (kQ hx)) λr hr ho=>aV (Q5 hr ho) λm hm hl=>?_;rcases hl k with⟨av,v,h1,h2,h3⟩|⟨h1,_⟩
 ·have kd:env.kindOf id=aa .local:=by
   rcases N.kinds id with q|⟨q1,q2⟩
   ·rw[q,hk]
   ·rw[hk]at q2;cases q2
  refine wpAny_Name (wpAny_loadName_local N.kind kd (by rw[N.loc.1];exact hm) (by rw[<-hn];exact h2) ?_) hd;rw[h1]at ha;exact PR.here R0 h ⟨a,rfl,sR ha.symm (P:=λa=>VR W U.next Y a v) h3⟩
 ·rw[h1]at ha;exact aN ha
theorem Rn{k:Nat}{id:Str}{pos:Pos}(R0:Rel W U.st Y s)(N:jg W U.next Y sc cx env)(hc:codeN id=aa k)(hk:sc.names.lookup id=aa .cell\/sc.names.lookup id=aa .free)
  (h:PR W U.st Y s.heap (VO W) Q E (Ik cx k U)):aC (model W.prog W.w) A (eval (.Name id pos) env) Q E s:=by
 refine cU (mz hc) λhn hd hcd=>bZ h λc hl h=>bZ h λo hx h=>bZ h λa ha h=>Df (R0.obj c _ (Hv hx)) λr hr v' hdat hv=>?_;rw[ha]at hv;have g:=(FF N.cells hl).1;rw[hn]at g;cases v' with
 |none=>exact hv.elim
 |some v=>
  have fin:Q v s:=PR.here R0 h ⟨a,rfl,hv⟩;refine wpAny_Name ?_ hd;rcases(show env.kindOf id=aa .cell\/env.kindOf id=aa .free from by
   rcases N.kinds id with q|⟨q1,q2⟩
   ·rw[q];exact hk
   ·exact .inl q1)with q|q
  ·exact wpAny_loadName_cell N.kind q g ⟨r,hr,hdat⟩ fin
  ·exact wpAny_loadName_free N.kind q g ⟨r,hr,hdat⟩ fin hcd
end
theorem iK(i:Int):fq i=i:=by
 unfold fq;cases i with
 |ofNat n=>cases n<;>rfl
 |negSucc n=>cases n<;>rfl
theorem kq(a b:Int):iP a b=decide (a=b):=by
 cases a with
 |ofNat m=>cases b with
  |ofNat n=>exact(fT m n).trans (decide_eq_decide.mpr ⟨congrArg _,LA⟩)
  |negSucc n=>exact(decide_eq_false λq=>nomatch q).symm
 |negSucc m=>cases b with
  |ofNat n=>exact(decide_eq_false λq=>nomatch q).symm
  |negSucc n=>exact(fT m n).trans (decide_eq_decide.mpr ⟨congrArg _,Int.negSucc.inj⟩)
theorem kY(a b:Nat):cZ a b=decide (a<b):=by
 by_cases h:a<b
 ·rw[decide_eq_true h];exact Bf h
 ·rw[decide_eq_false h];cases q:cZ a b with
  |false=>rfl
  |true=>exact absurd (fH q) h
theorem gG(a b:Int):ltI a b=decide (a<b):=by
 cases a with
 |ofNat m=>cases b with
  |ofNat n=>simp only[ltI,kY];by_cases h:m<n<;>simp[h,Int.ofNat_lt]
  |negSucc n=>simp only[ltI];rw[decide_eq_false];intro h;have:(m:Int)<mu n:=h;exact ajL this
 |negSucc m=>cases b with
  |ofNat n=>simp only[ltI];rw[decide_eq_true];show mu m<(n:Int);exact ajF
  |negSucc n=>simp only[ltI,kY];by_cases h:n<m<;>simp[h]<;>(first|exact aiD h|exact aiW h)
section
variable{W:WS}
theorem NQ{i j k:AI}(h:uo i j=aa k):k.at W=i.at W+j.at W:=by cases i<;>cases j<;>first|exact aN h|(obtain rfl:=aX h;simp only[AI.at,iK];first|done|exact aiw|exact aiS)
theorem aa5{i j k:AI}(h:H7 i j=aa k):k.at W=i.at W- j.at W:=by cases i<;>cases j<;>first|exact aN h|(obtain rfl:=aX h;simp only[AI.at,iK];first|done|exact aj5)
theorem Pa{f:Int->Int->Bool}{r:Int->Int->Prop} [∀x y,Decidable (r x y)]{i j:AI}{b:Bool}(h:JV f i j=aa b)(K:∀x y,f x y=decide (r x y))(T:∀c x y,r x y ↔ r (c+x) (c+y)):b=decide (r (i.at W) (j.at W)):=by
 cases i with
 |lit a=>cases j with
  |lit c=>obtain rfl:=aX h;exact K a c
  |var l c=>exact aN h
 |var k a=>cases j with
  |lit c=>exact aN h
  |var l c=>refine bE h λq e=>?_;obtain rfl:=aX e;obtain rfl:=cG q;exact(K a c).trans (decide_eq_decide.mpr (T _ a c))
theorem N8{i j:AI}{b:Bool}(h:sF i j=aa b):b=decide (i.at W=j.at W):=Pa h kq λc _ _=>⟨congrArg (c+ ·),WT⟩
theorem Gv{i j:AI}{b:Bool}(h:uM i j=aa b):b=decide (i.at W<j.at W):=Pa h gG λc _ _=>⟨λe=>Int.add_lt_add_left e c,Int.lt_of_add_lt_add_left⟩
end
section
variable{W:WS}{U:ES}{Y:Nat->aG}{s:aE}{A:cR}{Q:ay->aE->Prop}{E:ay->aE->Prop}
theorem Rel.isList(R0:Rel W U.st Y s){x:Nat}{xs:List AV}(e:U.get x=aa (.list xs)):∃vs:Array ay,s.heap.IsList (Y x) vs/\aO (VR W U.next Y) xs vs.toList:=by refine qX (R0.obj x _ e) λr h1 vs m h3 h4=>?_;subst h3;exact⟨vs,⟨_,h1,rfl,m,rfl⟩,h4⟩
theorem Rel.isPlain(R0:Rel W U.st Y s){x:Nat}{xs:List AV}(e:U.get x=aa (.list xs)):∃vs:Array ay,s.heap.PlainList (Y x) vs/\aO (VR W U.next Y) xs vs.toList:=by refine qX (R0.obj x _ e) λr h1 vs m h3 h4=>?_;subst h3;exact⟨vs,⟨m,h1⟩,h4⟩
theorem Rel.ur(R0:Rel W U.st Y s){x k:Nat}{i:Int}(e:U.get x=aa (.rep k i)):∃vs:Array ay,s.heap.IsList (Y x) vs/\s.heap.PlainList (Y x) vs/\aO (VR W U.next Y) (nU k (.int (.lit i))) vs.toList:=by refine qX (R0.obj x _ e) λr h1 vs m h3 h4=>?_;subst h3;exact⟨vs,⟨_,h1,rfl,m,rfl⟩,⟨m,h1⟩,h4⟩
theorem OB(n:Nat):sE n=n:=by cases n<;>rfl
theorem tV{k:AI}{i:Int}(R0:Rel W U.st Y s)(h:PR W U.st Y s.heap (VO W) Q E (eS (.int k) U))(e:k.at W=i):Q (.int i s.toks) {s with toks:=s.toks+1}:=
 h Y _ _ (R0.tok _) .refl ⟨_,rfl,⟨_,by rw[e]⟩⟩
theorem val_back{a:AV}{v:ay}(R0:Rel W U.st Y s)(h:PR W U.st Y s.heap (VO W) Q E (eS a U))(e:VR W U.next Y a v):Q v s:=h Y _ _ R0 .refl ⟨_,rfl,e⟩
theorem Gf{o:AO}{r:Obj}(R0:Rel W U.st Y s)(h:PR W U.st Y s.heap (VO W) Q E (uP (U.add o)))(hf:r.isFreed=ak)(ho:OR W (U.next+1) (dK Y U.next s.heap.objs.size) o r):
  Q (.ref s.heap.objs.size) {s with heap:=s.heap.push r}:=by
 refine cU (R0.jP hf ho) λR1 X1 V1=>?_;rw[show U.add o=((U.add o).1,(U.add o).2)from rfl]at h;exact h _ _ _ R1 X1 ⟨_,rfl,V1⟩
theorem ZE{a b:Int}(h1:ltI (-18446744073709551616) b=ah)(h2:ltI b 18446744073709551616=ah):IntMulOk a b:=by rw[gG]at h1 h2;exact .of_right (intBits_le_64 (by have:=of_decide_eq_true h1;exact K5 this) (by have:=of_decide_eq_true h2;exact K5 this))
theorem aO.flat{I H:Type}{R:I->H->Prop}{l:List I}{m:List H}(h:aO R l m):∀n,aO R (nU n l).flatten (nU n m).flatten
 |0=>.nil
 |n+1=>by rw[WV,WV,Xd,Xd];exact h.append (h.flat n)
theorem aO.size{I H:Type}{R:I->H->Prop}{l:List I}{m:Array H}(h:aO R l m.toList):l.length=m.size:=by rw[<-EA];exact h.length
theorem iB{n:Nat}(h:fits n=ah):n<=1000000:=fH h
theorem E9(a b:List Nat):strOf a++strOf b=strOf (a++b):=by show(⟨a.toArray++b.toArray⟩:Str)=⟨(a++b).toArray⟩;simp
theorem yi(a:List Nat):(strOf a).length=a.length:=by show a.toArray.size=_;simp
theorem Cg{o:AO}{r:Obj}(R0:Rel W U.st Y s)(h:PR W U.st Y s.heap (VO W) Q E (dH (.ref (U.add o).1,(U.add o).2)))(hf:r.isFreed=ak)(ho:OR W (U.next+1) (dK Y U.next s.heap.objs.size) o r):
  Q (.ref s.heap.objs.size) {s with heap:=s.heap.push r}:=by
 refine cU (R0.jP hf ho) λR1 X1 V1=>?_;exact h _ _ _ R1 X1 ⟨_,rfl,V1⟩
theorem add_list{a b:aG}{vs ws:Array ay}{Q:ay->aE->Prop}(ha:s.heap.IsList a vs)(hb:s.heap.IsList b ws)(hz:vs.size+ws.size<=sizeLine)
  (h:Q (.ref s.heap.objs.size) {s with heap:=s.heap.push {cls:=.type "list",data:=.seq (vs++ws)}}):aC (model W.prog W.w) A (binaryOp .Add (.ref a) (.ref b)) Q E s:=by
 refine qk (id ha) λdQ ho hc n hd=>?_;obtain⟨cls,dd,data,sl⟩:=dQ;refine qk (id hb) λig ho2 hc2 n2 hd2=>?_;obtain⟨ak5,dd2,data2,sl2⟩:=ig;simp only at hc hd hc2 hd2;subst hc hd hc2 hd2;exact concat_meets ⟨_,ho,rfl⟩ ⟨_,ho2,rfl⟩ noFill_list_add seq_list_add PySem.F.slot_list_add PySem.F.entry_list_add (PySem.F.args_list_add_2 _ _) (list_addW a b vs ws n n2 dd dd2 sl sl2 hz) ⟨ho,ho2,h⟩
theorem Zz{l:aG}{items:Array ay}{x:Int}{u:Tok}{Q:ay->aE->Prop}(hl:s.heap.IsList l items)
  (hlo: -(2 ^ 63:Int)<=x) (hhi:x<2 ^ 63) (hsz:items.size*x.toNat<=2 ^ 24)
  (h:Q (.ref s.heap.objs.size) {s with heap:=s.heap.push {cls:=.type "list",data:=.seq (nU x.toNat items.toList).flatten.toArray}}):
  aC (model W.prog W.w) A (binaryOp .Mult (.ref l) (.int x u)) Q E s:=by
 refine qk (id hl) λjW ho hc n hd=>?_;obtain⟨cls,dd,data,sl⟩:=jW;simp only at hc hd;subst hc hd;rw[<-listMul_foldl_if]at h;exact wpAny_binaryOp_repeat_ref (T:= "list") (U:= "int") (by decide) ⟨_,ho,rfl⟩ (λs'=>typeIs_int s' x u) noFill_list_mul PySem.F.fills_int_mul WI repeat_list PySem.F.slot_int_index.lookup
  (Ft WI (typeIs_int s x u) PySem.F.entry_int_rmul (PySem.F.args_int_rmul_2 _ _) (lm_int_rmul_list_any x u l items n dd sl)
   ⟨ho,rfl,⟨_,ho,rfl⟩,Ft PySem.F.slot_list_mul ⟨_,ho,rfl⟩ PySem.F.entry_list_mul (PySem.F.args_list_mul_2 _ _)
    (lm_list_mul_any l items n dd sl x u (by simp[Builtin.List.listFitsIndex];exact And.symm ⟨hhi,hlo⟩) (ah3 hsz) (by simp[Eu,sizeLine];exact hsz))
    ⟨ho,h⟩⟩)
inductive BI(U:ES):jI->AV->AV->AV×ES->Prop
 |Uo (i j k) (q:uo i j=aa k):BI U .Add (.int i) (.int j) (.int k,U)
 |Sh (i j k) (q:H7 i j=aa k):BI U .Sub (.int i) (.int j) (.int k,U)
 |Ue (i j) (q1:ltI (-18446744073709551616) j=ah) (q2:ltI j 18446744073709551616=ah):BI U .Mult (.int (.lit i)) (.int (.lit j)) (.int (.lit (fq (i*j))),U)
 |SI (i j) (q:ltI 0 j=ah):BI U .Mod (.int (.lit i)) (.int (.lit j)) (.int (.lit (fq (Gb i j))),U)
 |SG (i j) (q1:cZ i 1000=ah) (q2:cZ j 1000=ah):BI U .Pow (.int (.lit (.ofNat i))) (.int (.lit (.ofNat j))) (.int (.lit (.ofNat (Nat.pow i j))),U)
 |Tv (s t) (q:fits (s.length+t.length)=ah):BI U .Add (.str s) (.str t) (.str (s++t),U)
 |uQ (x y xs ys) (hx:U.get x=aa (.list xs)) (hy:U.get y=aa (.list ys)) (q:fits (xs.length+ys.length)=ah):BI U .Add (.ref x) (.ref y) (.ref (U.add (.list (xs++ys))).1,(U.add (.list (xs++ys))).2)
 |SN (x y a i b j) (hx:U.get x=aa (.rep a i)) (hy:U.get y=aa (.rep b j)) (q:(fits (a+b)&&iP i j)=ah):BI U .Add (.ref x) (.ref y) (.ref (U.add (.rep (sE (a+b)) i)).1,(U.add (.rep (sE (a+b)) i)).2)
 |mulL (x xs n) (hx:U.get x=aa (.list xs)) (q:(fits n&&fits (xs.length*n))=ah):BI U .Mult (.ref x) (.int (.lit (.ofNat n))) (.ref (U.add (.list (nU n xs).flatten)).1,(U.add (.list (nU n xs).flatten)).2)
set_option tactic.hygienic true in
theorem aad{a b:AV}{U:ES}{r:AV×ES}(h:Ui a b U=aa r):BI U .Add a b r:=by
 cases a<;>first|exact aN h|skip
 ·cases b<;>first|exact aN h|skip
  refine aV (Option.map_eq_some_iff.mp (show jH _ _=aa r from h)) λk q uS=>?_;subst uS;exact .Uo _ _ _ q
 ·cases b<;>first|exact aN h|skip
  rename_i s t
  replace h:(match fits (s.length+t.length)with|true=>aa (AV.str (s++t),U)|false=>af)=aa r:=h;cases q:fits (s.length+t.length)with
  |false=>rw[q]at h;exact aN h
  |true=>rw[q]at h;obtain rfl:=aX h;exact .Tv _ _ q
 ·cases b<;>first|exact aN h|skip
  rename_i x y
  replace h:(match U.get x with|some ox=>(match U.get y with|some oy=>DI ox oy U|none=>af)|none=>af)=aa r:=h;cases hx:U.get x with
  |none=>rw[hx]at h;exact aN h
  |some ox=>
   rw[hx]at h;cases hy:U.get y with
   |none=>rw[hy]at h;exact aN h
   |some oy=>
    rw[hy]at h;replace h:DI ox oy U=aa r:=h;cases ox<;>first|exact aN h|skip
    ·rename_i xs
     cases oy<;>first|exact aN h|skip
     rename_i ys
     replace h:(match fits (xs.length+ys.length)with|true=>aa (AV.ref (U.add (.list (xs++ys))).1,(U.add (.list (xs++ys))).2)|false=>af)=aa r:=h;cases q:fits (xs.length+ys.length)with
     |false=>rw[q]at h;exact aN h
     |true=>rw[q]at h;obtain rfl:=aX h;exact .uQ _ _ _ _ hx hy q
    ·rename_i a i
     cases oy<;>first|exact aN h|skip
     rename_i b j
     replace h:(match fits (a+b)&&iP i j with|true=>aa (AV.ref (U.add (.rep (sE (a+b)) i)).1,(U.add (.rep (sE (a+b)) i)).2)|false=>af)=aa r:=h;cases q:fits (a+b)&&iP i j with
     |false=>rw[q]at h;exact aN h
     |true=>rw[q]at h;obtain rfl:=aX h;exact .SN _ _ _ _ _ _ hx hy q
theorem Nj{I:Type}{a b:Bool}{x r:I}(h:(match a,b with|true,ah=>aa x|_,_=>af)=aa r):a=ah/\b=ah/\x=r:=by cases a<;>cases b<;>first|exact aN h|exact⟨rfl,rfl,aX h⟩
set_option tactic.hygienic true in
theorem aaF{a b:AV}{U:ES}{r:AV×ES}(h:I4 a b U=aa r):BI U .Mult a b r:=by
 unfold I4 at h;cases hb:iH b with
 |none=>rw[hb]at h;exact aN h
 |some j=>
  rw[hb]at h;obtain rfl:=qT hb;cases a<;>first|exact aN h|skip
  ·rename_i i
   cases i<;>first|exact aN h|skip
   refine cU (Nj h) λq1 q2 Aj=>?_;subst Aj;exact .Ue _ _ q1 q2
  ·rename_i x
   dsimp only at h;cases hn:ry j with
   |none=>rw[hn]at h;exact aN h
   |some n=>
    rw[hn]at h;obtain rfl:=yK hn;cases hx:U.get x with
    |none=>dsimp only at h;rw[hx]at h;exact aN h
    |some ox=>
     dsimp only at h;rw[hx]at h;replace h:Tt ox n U=aa r:=h;cases ox<;>first|exact aN h|skip
     rename_i xs
     replace h:(match fits n&&fits (xs.length*n)with|true=>aa (AV.ref (U.add (.list (nU n xs).flatten)).1,(U.add (.list (nU n xs).flatten)).2)|false=>af)=aa r:=h;cases q:fits n&&fits (xs.length*n)with
     |false=>rw[q]at h;exact aN h
     |true=>rw[q]at h;obtain rfl:=aX h;exact .mulL _ _ _ hx q
theorem binI{o:jI}{a b:AV}{U:ES}{r:AV×ES}(h:rD o a b U=aa r):BI U o a b r:=by
 cases o<;>first|exact aN h|skip
 ·exact aad h
 ·replace h:Tz a b U=aa r:=h;cases a<;>first|exact aN h|skip
  cases b<;>first|exact aN h|skip
  refine aV (Option.map_eq_some_iff.mp (show jH _ _=aa r from h)) λk q Ao=>?_;subst Ao;exact .Sh _ _ _ q
 ·exact aaF h
 ·replace h:Iz a b U=aa r:=h;unfold Iz at h;cases ha:iH a with
  |none=>rw[ha]at h;exact aN h
  |some i=>
   rw[ha]at h;obtain rfl:=qT ha;cases hb:iH b with
   |none=>dsimp only at h;rw[hb]at h;exact aN h
   |some j=>
    dsimp only at h;rw[hb]at h;obtain rfl:=qT hb;dsimp only at h;cases q:ltI 0 j with
    |false=>rw[q]at h;exact aN h
    |true=>rw[q]at h;obtain rfl:=aX h;exact .SI _ _ q
 ·replace h:Jj a b U=aa r:=h;unfold Jj at h;cases ha:(iH a).bind ry with
  |none=>rw[ha]at h;exact aN h
  |some i=>
   rw[ha]at h;refine aV (Option.bind_eq_some_iff.mp ha) λi' ha1 ha2=>?_;obtain rfl:=qT ha1;obtain rfl:=yK ha2;cases hb:(iH b).bind ry with
   |none=>dsimp only at h;rw[hb]at h;exact aN h
   |some j=>dsimp only at h;rw[hb]at h;refine aV (Option.bind_eq_some_iff.mp hb) λj' hb1 hb2=>?_;obtain rfl:=qT hb1;obtain rfl:=yK hb2;refine cU (Nj h) λq1 q2 y7_=>?_;subst y7_;exact .SG _ _ q1 q2
theorem Zq{i j t u:Nat}(R0:Rel W U.st Y s)(h:PR W U.st Y s.heap (VO W) Q E (bz (aa (.int (.lit (.ofNat (Nat.pow i j))),U)) dH))(q1:cZ i 1000=ah)(q2:cZ j 1000=ah):
  aC (model W.prog W.w) A (binaryOp .Pow (.int (AI.at W (.lit (.ofNat i))) t) (.int (AI.at W (.lit (.ofNat j))) u)) Q E s:=by
 rw[kY]at q1 q2;have h1:=of_decide_eq_true q1;have h2:=of_decide_eq_true q2;refine pow_int_small (n:=gU j) (a:=gU i) (by show(0:Int)<=(j:Int);exact SA) (by show(j:Int)<=1000000;exact ait h2) (by show(i:Int).natAbs<2 ^ 64;exact aio h1) ?_;refine tV R0 h ?_;show gU (Nat.pow i j)=(i:Int) ^ (gU j).toNat;rw[show(gU j).toNat=j from rfl];exact Int.natCast_pow i j
theorem YT{o:jI}{a b:AV}{v w:ay}(R0:Rel W U.st Y s)(va:VR W U.next Y a v)(vb:VR W U.next Y b w)
  (h:PR W U.st Y s.heap (VO W) Q E (bz (rD o a b U) dH)):aC (model W.prog W.w) A (binaryOp o v w) Q E s:=by
 cases qq:rD o a b U with
 |none=>rw[qq]at h;exact h.elim
 |some r=>
 rw[qq]at h;have ak9:=binI qq;clear qq;cases ak9 with
 |Uo i j k q=>obtain⟨t,rfl⟩:=va;obtain⟨u,rfl⟩:=vb;exact add_int (tV R0 h (NQ q))
 |Sh i j k q=>obtain⟨t,rfl⟩:=va;obtain⟨u,rfl⟩:=vb;exact sub_int (tV R0 h (aa5 q))
 |Ue i j q1 q2=>obtain⟨t,rfl⟩:=va;obtain⟨u,rfl⟩:=vb;exact PyProof.Rows.mul_int (tV R0 h (by simp only[AI.at,iK])) (ZE q1 q2)
 |SI i j q=>obtain⟨t,rfl⟩:=va;obtain⟨u,rfl⟩:=vb;rw[gG]at q;exact mod_int (λe=>absurd (of_decide_eq_true q) (by rw[show j=0 from e];decide)) (tV R0 h (by simp only[AI.at,iK]))
 |SG i j q1 q2=>obtain⟨t,rfl⟩:=va;obtain⟨u,rfl⟩:=vb;exact Zq R0 h q1 q2
 |Tv x y q=>obtain⟨t,rfl⟩:=va;obtain⟨u,rfl⟩:=vb;have:=iB q;refine PyProof.Rows.add_str (λt' tk=>?_) (by rw[yi,yi,gp];exact cL (cC this) rfl);rw[E9];exact h Y _ _ (R0.tok _) .refl ⟨_,rfl,⟨_,rfl⟩⟩
 |uQ x y xs ys hx hy q=>obtain⟨_,rfl⟩:=va;obtain⟨_,rfl⟩:=vb;have:=iB q;refine aV (R0.isList hx) λvs hl hv=>?_;refine aV (R0.isList hy) λws hl' hw=>?_;refine add_list hl hl' (by rw[gp];exact VZ this hv.size hw.size) (Cg R0 h rfl ⟨_,_,rfl,?_⟩);rw[xM];exact(hv.mono λ_ _=>VR.mono (iA _) dw).append (hw.mono λ_ _=>VR.mono (iA _) dw)
 |SN x y a i b j hx hy q=>obtain⟨_,rfl⟩:=va;obtain⟨_,rfl⟩:=vb;rw[bJ]at q;have q1:=iB q.1;have q2:=q.2;rw[kq]at q2;have q2:=of_decide_eq_true q2;subst q2;refine fS (R0.ur hx) λvs hl _ hv=>?_;refine fS (R0.ur hy) λws hl' _ hw=>?_;have e1:=hv.size;have e2:=hw.size;rw[xJ]at e1 e2;refine add_list hl hl' (by rw[gp];exact VZ q1 e1 e2) (Cg R0 h rfl ⟨_,_,rfl,?_⟩);rw[xM,OB,<-Wl];exact(hv.mono λ_ _=>VR.mono (iA _) dw).append (hw.mono λ_ _=>VR.mono (iA _) dw)
 |mulL x xs n hx q=>obtain⟨_,rfl⟩:=va;obtain⟨u,rfl⟩:=vb;rw[bJ]at q;have q1:=iB q.1;have q2:=iB q.2;refine aV (R0.isList hx) λvs hl hv=>?_;have e1:=hv.size;refine Zz hl (by show(-(2 ^ 63:Int))<=(n:Int);exact ahV) (by show(n:Int)<2 ^ 63;exact ai0 q1) (by show vs.size*n<=_;rw[<-e1];exact ah8 q2) (Cg R0 h rfl ⟨_,_,rfl,?_⟩);exact(hv.mono λ_ _=>VR.mono (iA _) dw).flat n
end
end Mine
end
section
namespace Mine
open PySem PySem.W PySem.Calls PyProof.Rows PySem.SeqAt
theorem yM:∀(a b:List Nat),k9 a b=decide (a=b)
 | [],[]=>rfl
 | [],_::_=>rfl
 |_::_,[]=>rfl
 |a::l,b::m=>by
  unfold k9;rw[fT]
  by_cases h:a=b
  ·rw[decide_eq_true h];show k9 l m=_;rw[yM l m]
   by_cases h':l=m<;>simp[h,h']
  ·rw[decide_eq_false h];simp[h]
theorem M6(a b:List Nat):(strOf a==strOf b)=k9 a b:=by
 rw[yM]
 by_cases h:a=b
 ·subst h;simp
 ·rw[decide_eq_false h];exact beq_eq_false_iff_ne.mpr λe=>h (Cc e)
theorem IZ(a b:Int):(a==b)=decide (a=b):=by
 by_cases h:a=b
 ·subst h;simp
 ·rw[decide_eq_false h];exact beq_eq_false_iff_ne.mpr h
theorem O4{f:AV->AV->Option Bool}{xs ys:List AV}{r:Bool}(h:fG.go f xs ys=aa r)(e:xs.length=ys.length):
  ∃bs:List Bool,bs.length=xs.length/\(∀(j:Nat) x y,xs[j]?=aa x->ys[j]?=aa y->∃b,bs[j]?=aa b/\f x y=aa b)/\r=bs.all id:=by
 induction xs generalizing ys r with
 |nil=>
  cases ys with
  |nil=>obtain rfl:=aX h;exact⟨[],rfl,λj x y h=>aN h,rfl⟩
  |cons _ _=>cases e
 |cons x xs ih=>
  cases ys with
  |nil=>cases e
  |cons y ys=>
   refine oE h λp hp h1=>oE h1 λq hq h2=>?_;obtain rfl:=aX h2;refine fS (ih hq (qO e)) λbs h1 h2 h3=>?_;refine⟨p::bs,by rw[lH,lH,h1],λj a b ha hb=>?_,by rw[List.all_cons,h3];rfl⟩;cases j with
   |zero=>obtain rfl:=aX ha;obtain rfl:=aX hb;exact⟨p,rfl,hp⟩
   |succ j=>exact h2 j a b ha hb
theorem Zr(i:AI):sF i i=aa ah:=by
 cases i with
 |lit a=>show aa (iP a a)=_;rw[kq];simp
 |var k a=>show cond (aH k k) (aa (iP a a)) af=_;rw[fT,kq];simp
set_option tactic.hygienic true in
theorem aaI{U:ES}:∀{n:Nat} {a:AV} {r:Bool},fG U n a a=aa r->r=ah:=by
 intro n;induction n with
 |zero=>intro _ _ h;exact aN h
 |succ n ih=>
  intro a r h;cases a with
  |int i=>have h:sF i i=aa r:=h;rw[Zr]at h;(injection h with h;subst h);rfl
  |str s=>
   have h:aa (k9 s s)=aa r:=h
   (injection h with h;subst h);rw[yM];simp
  |none=>(injection h with h;subst h);rfl
  |bool p=>(injection h with h;subst h);simp
  |ref x=>
   refine oE (show(U.gL x).bind _=aa r from h) λxs hx h1=>?_;rw[hx]at h1;refine bS (P:=(· =aa r)) h1 (λ_ h2=>?_) λq _=>by rw[fT]at q;simp at q
   refine fS (O4 h2 rfl) λbs h1 h2 h3=>?_;rw[h3,EM];intro b hb;obtain⟨j,hj,e⟩:=List.mem_iff_getElem.mp hb;have hj':j<xs.length:=by rw[<-h1];exact hj
   refine aV (h2 j _ _ (qF hj') (qF hj')) λb' e1 e2=>?_;have:=ih e2;rw[qF hj]at e1;obtain rfl:=aX e1;rw[<-e];exact this
  |adr a=>exact aN h
  |bi a=>exact aN h
  |ty a=>exact aN h
  |top=>exact aN h
section
variable{W:WS}{U:ES}{Y:Nat->aG}{s:aE}
theorem all_range{bs:List Bool}{n:Nat}(h:bs.length=n):(List.range n).all (λj=>bs.getD j ah)=bs.all id:=by
 subst h;rw[Bool.eq_iff_iff,EM,EM];constructor
 ·intro h b hb;obtain⟨j,hj,e⟩:=List.mem_iff_getElem.mp hb;have:=h j (List.mem_range.mpr hj);rw[Er,qF hj]at this;rw[<-e];exact this
 ·intro h j hj;have hj:=List.mem_range.mp hj;rw[Er,qF hj];exact h _ (List.getElem_mem hj)
theorem aO.at{R:AV->ay->Prop}{xs:List AV}{vs:Array ay}(h:aO R xs vs.toList){j:Nat}(hj:j<vs.size):∃x,xs[j]?=aa x/\R x vs[j]:=by
 have e:=h.size;have hj':j<xs.length:=by exact aA (aT (aq hj) (ao e)) rfl
 refine aV (h.get (qF hj')) λb h1 h2=>?_;rw[Bh,Es hj]at h1;obtain rfl:=aX h1;exact⟨_,qF hj',h2⟩
set_option tactic.hygienic true in
theorem Gg(R0:Rel W U.st Y s){n:Nat}{x y:Nat}{xs ys:List AV}{r:Bool}{A:cR}(hx:U.get x=aa (.list xs))(hy:U.get y=aa (.list ys))(hn:aH xs.length ys.length=ah)
  (h:fG.go (fG U n) xs ys=aa r) (ih:∀a b r v w,fG U n a b=aa r->VR W U.next Y a v->VR W U.next Y b w->EqAt A.in1 s v w r):
  ∃(vs ws:Array ay) (bs:List Bool),s.heap.IsList (Y x) vs/\s.heap.IsList (Y y) ws/\vs.size=ws.size/\r=(List.range vs.size).all (λj=>bs.getD j ah)/\∀j (h1:j<vs.size) (h2:j<ws.size),EqAt A.in1 s vs[j] ws[j] (bs.getD j ah):=by
 refine aV (R0.isList hx) λvs hl hv=>?_;refine aV (R0.isList hy) λws hl' hw=>?_;rw[fT]at hn;have hn:=of_decide_eq_true hn;refine fS (O4 h hn) λbs h1 h2 h3=>?_;have e1:=hv.size;have e2:=hw.size;refine⟨vs,ws,bs,hl,hl',by exact cO (aR (aT (ao e1) (aT (aD hn) (aD e2))) rfl) (aR (aT (ao e2) (aT (ao hn) (aD e1))) rfl),by rw[all_range (cO (aR (aT (aD h1) (aD e1)) rfl) (aR (aT (ao e1) (ao h1)) rfl))];exact h3,λj j1 j2=>?_⟩;refine aV (hv.at j1) λa a1 a2=>?_;refine aV (hw.at j2) λb b1 b2=>?_;refine aV (h2 j a b a1 b1) λc c1 c2=>?_;rw[Er,c1];exact ih a b c _ _ c2 a2 b2
theorem FZ(R0:Rel W U.st Y s){x y:Nat}{xs ys:List AV}(hx:U.get x=aa (.list xs))(hy:U.get y=aa (.list ys))(hn:aH xs.length ys.length=ak):
  ∃(vs ws:Array ay),s.heap.IsList (Y x) vs/\s.heap.IsList (Y y) ws/\(vs.size != ws.size)=ah/\Y x≠Y y:=by
 refine aV (R0.isList hx) λvs hl hv=>?_;refine aV (R0.isList hy) λws hl' hw=>?_;rw[fT]at hn;have hn:=of_decide_eq_false hn;have e1:=hv.size;have e2:=hw.size;refine⟨vs,ws,hl,hl',by simp;exact λh=>hn (e1.trans (h.trans e2.symm)),λe=>?_⟩;have:=R0.inj x y _ _ hx hy e;subst this;rw[hx]at hy;cases hy;exact hn rfl
theorem GK{n:Nat}{a b:AV}{r:Bool}{v w:ay}{G:Prop}(h:fG U (n+1) a b=aa r)(va:VR W U.next Y a v)(vb:VR W U.next Y b w)
  (c1:∀x y t u,v= .int x t->w= .int y u->r=(x==y)->G) (c2:∀x y t u,v= .str x t->w= .str y u->r=(x==y)->G) (c3:v= .none->w= .none->r=ah->G) (c4:∀p q,v= .bool p->w= .bool q->r=(p==q)->G)
  (c5:∀x t,v= .int x t->w= .none->r=ak->G) (c6:∀x t,v= .none->w= .int x t->r=ak->G)
  (c7:∀x y xs ys,a= .ref x->b= .ref y->v= .ref (Y x)->w= .ref (Y y)->U.get x=aa (.list xs)->U.get y=aa (.list ys)->aH xs.length ys.length=ak->r=ak->G)
  (c8:∀x y xs ys,a= .ref x->b= .ref y->v= .ref (Y x)->w= .ref (Y y)->U.get x=aa (.list xs)->U.get y=aa (.list ys)->aH xs.length ys.length=ah->fG.go (fG U n) xs ys=aa r->G):G:=by
 cases a with
 |int i=>
  refine oS (P:=(· =aa r)) h (λj hj h1=>?_) λ_ h1=>bE h1 λhb h2=>?_
  ·obtain rfl:=Ge hj;obtain⟨t,e1⟩:=va;obtain⟨u,e2⟩:=vb;exact c1 _ _ t u e1 e2 (by rw[N8 (W:=W) h1,<-IZ])
  ·rw[yy hb]at vb;obtain⟨t,e1⟩:=va;exact c5 _ t e1 vb (aX h2).symm
 |str s=>refine oE h λj hj h1=>?_;obtain rfl:=Gn hj;obtain⟨t,e1⟩:=va;obtain⟨u,e2⟩:=vb;exact c2 _ _ t u e1 e2 ((aX h1).symm.trans (M6 _ _).symm)
 |none=>
  refine bS (P:=(· =aa r)) h (λhb h1=>?_) λ_ h1=>oE h1 λj hj h2=>?_
  ·rw[yy hb]at vb;exact c3 va vb (aX h1).symm
  ·obtain rfl:=Ge hj;obtain⟨u,e2⟩:=vb;exact c6 _ u va e2 (aX h2).symm
 |bool p=>refine oE h λj hj h1=>?_;obtain rfl:=FY hj;exact c4 _ _ va vb (aX h1).symm
 |ref x=>
  refine oE h λy hy h1=>oE h1 λxs hx h2=>oE h2 λys hys h3=>?_;obtain rfl:=kh hy;refine bS (P:=(· =aa r)) h3 (λhn h4=>?_) λhn h4=>?_
  ·exact c8 x y xs ys rfl rfl va.2 vb.2 (jM hx) (jM hys) hn h4
  ·exact c7 x y xs ys rfl rfl va.2 vb.2 (jM hx) (jM hys) hn (aX h4).symm
 |adr _=>exact aN h
 |bi _=>exact aN h
 |ty _=>exact aN h
 |top=>exact aN h
theorem Qz(R0:Rel W U.st Y s):∀(n:Nat) {a b:AV} {r:Bool} {v w:ay} {A:cR},fG U n a b=aa r->A.units+n<cLine->VR W U.next Y a v->VR W U.next Y b w->EqAt A s v w r:=by
 intro n;induction n with
 |zero=>intro _ _ _ _ _ _ h _ _ _;exact aN h
 |succ n ih=>
  intro a b r v w A h hu va vb;refine GK h va vb ?_ ?_ ?_ ?_ ?_ ?_ (λx y xs ys ea eb e1 e2 hx hy hn e3=>?_) λx y xs ys ea eb e1 e2 hx hy hn hg=>?_
  ·intro x y t u e1 e2 e3;subst e1 e2 e3;exact EqAt.int_int _ _ _ _
  ·intro x y t u e1 e2 e3;subst e1 e2 e3;exact EqAt.str_str _ _ _ _
  ·intro e1 e2 e3;subst e1 e2 e3;exact EqAt.same _
  ·intro p q e1 e2 e3;subst e1 e2 e3;exact EqAt.bool_bool _ _
  ·intro x t e1 e2 e3;subst e1 e2 e3;exact EqAt.int_none _ _
  ·intro x t e1 e2 e3;subst e1 e2 e3;exact EqAt.none_int _ _
  ·subst e1 e2 e3;have hne:Y x≠Y y:=λq=>by
    have e:=R0.inj x y _ _ hx hy q;subst e;rw[hx]at hy;injection aX hy with hy;subst hy;rw[fT]at hn;simp at hn
   refine pY (FZ R0 hx hy hn) λvs ws h1 h2 h3 _=>?_;exact EqAt.of_refs hne (W0 h1 h2 h3 (aA (aT aU (xd hu)) rfl))
  ·subst e1 e2
   by_cases e:x=y
   ·subst e ea eb;rw[aaI h];exact EqAt.same _
   have hne:Y x≠Y y:=λq=>e (R0.inj x y _ _ hx hy q);refine qU (Gg (A:=A) R0 hx hy hn hg λa b r v w q1 q2 q3=>ih q1 (by show A.units+1+n<cLine;exact HG hu) q2 q3) λvs ws bs h1 h2 h3 h4 h5=>?_;rw[h4];exact EqAt.of_refs hne (RcAt.lists h1 h2 h3 (aA (aT aU (xd hu)) rfl) h5)
theorem agy(R0:Rel W U.st Y s){n:Nat}{a b:AV}{r:Bool}{v w:ay}{A:cR}(h:fG U n a b=aa r)(hu:A.units+n<cLine)(va:VR W U.next Y a v)(vb:VR W U.next Y b w):RcAt A s v w r:=by
 cases n with
 |zero=>exact aN h
 |succ n=>
  refine GK h va vb ?_ ?_ ?_ ?_ ?_ ?_ (λx y xs ys _ _ e1 e2 hx hy hn e3=>?_) λx y xs ys _ _ e1 e2 hx hy hn hg=>?_
  ·intro x y t u e1 e2 e3;subst e1 e2 e3;exact RcAt.int_int _ _ _ _
  ·intro x y t u e1 e2 e3;subst e1 e2 e3;exact RcAt.str_str _ _ _ _
  ·intro e1 e2 e3;subst e1 e2 e3;exact RcAt.none_none
  ·intro p q e1 e2 e3;subst e1 e2 e3;exact RcAt.bool_bool _ _
  ·intro x t e1 e2 e3;subst e1 e2 e3;exact RcAt.int_none _ _
  ·intro x t e1 e2 e3;subst e1 e2 e3;exact RcAt.none_int _ _
  ·subst e1 e2 e3;refine pY (FZ R0 hx hy hn) λvs ws h1 h2 h3 _=>?_;exact W0 h1 h2 h3 (aA (aT aU (xd hu)) rfl)
  ·subst e1 e2;refine qU (Gg (A:=A) R0 hx hy hn hg λa b r v w q1 q2 q3=>Qz R0 n q1 (by show A.units+1+n<cLine;exact HG hu) q2 q3) λvs ws bs h1 h2 h3 h4 h5=>?_;rw[h4];exact RcAt.lists h1 h2 h3 (aA (aT aU (xd hu)) rfl) h5
theorem agE(R0:Rel W U.st Y s){n:Nat}{a b:AV}{r:Bool}{v w:ay}{A:cR}(h:fG U n a b=aa r)(hu:A.units+n<cLine)(va:VR W U.next Y a v)(vb:VR W U.next Y b w):RcNeAt A s v w (!r):=by
 cases n with
 |zero=>exact aN h
 |succ n=>
  refine GK h va vb ?_ ?_ ?_ ?_ ?_ ?_ (λx y xs ys _ _ e1 e2 hx hy hn e3=>?_) λx y xs ys _ _ e1 e2 hx hy hn hg=>?_
  ·intro x y t u e1 e2 e3;subst e1 e2 e3;exact RcNeAt.int_int _ _ _ _
  ·intro x y t u e1 e2 e3;subst e1 e2 e3;exact RcNeAt.str_str _ _ _ _
  ·intro e1 e2 e3;subst e1 e2 e3;exact RcNeAt.none_none
  ·intro p q e1 e2 e3;subst e1 e2 e3;exact RcNeAt.bool_bool _ _
  ·intro x t e1 e2 e3;subst e1 e2 e3;exact RcNeAt.int_none _ _
  ·intro x t e1 e2 e3;subst e1 e2 e3;exact RcNeAt.none_int _ _
  ·subst e1 e2 e3;refine pY (FZ R0 hx hy hn) λvs ws h1 h2 h3 _=>?_;exact RcNeAt.lists_lengths h1 h2 h3 (aA (aT aU (xd hu)) rfl)
  ·subst e1 e2;refine qU (Gg (A:=A) R0 hx hy hn hg λa b r v w q1 q2 q3=>Qz R0 n q1 (by show A.units+1+n<cLine;exact HG hu) q2 q3) λvs ws bs h1 h2 h3 h4 h5=>?_;rw[h4];exact RcNeAt.lists h1 h2 h3 (aA (aT aU (xd hu)) rfl) h5
end
noncomputable def VG(W:WS):AV->ay->Prop:=VR W 0 λ_=>0
theorem VG.vr{W:WS}{n:Nat}{Y:Nat->aG}{a:AV}{v:ay}(h:VG W a v):VR W n Y a v:=VR.mono (BO _) (λx hx=>absurd hx (Nat.not_lt_zero _)) h
structure Okc(W:WS)(C:EC):Prop extends W.Ok where
 sys:∃o,W.h0_.get? sysModules=aa o
 tups:∀t xs,C.tups t=aa xs->∃items,W.h0_.IsTuple t items/\aO (VG W) xs items.toList
 oj:∀t kvs,C.oj t=aa kvs->(t==sysModules)=ak/\∃ps,W.h0_.DictOf (strKind W.prog W.w) t ps/\aO (λ(p:List Nat×AV) (q:Str×ay)=>q.1=strOf p.1/\VG W p.2 q.2) kvs ps
 lists:∀t xs,C.lists t=aa xs->∃items,W.h0_.IsList t items/\aO (VG W) xs items.toList
 inst:∀K,C.fC K=ah->t6 W.K K
section
variable{W:WS}{C:EC}{U:ES}{Y:Nat->aG}{s:aE}{A:cR}{Q:ay->aE->Prop}{E:ay->aE->Prop}
theorem Rel.yW(O:Okc W C)(R0:Rel W U.st Y s){x:Nat}{o:AO}(e:U.get x=aa o):(Y x==sysModules)=ak:=by refine beq_eq_false_iff_ne.mpr λq=>?_;obtain⟨o',h⟩:=O.sys;have:=R0.new x o e;rw[q,h]at this;exact lV this
set_option tactic.hygienic true in
theorem Gp{n:Nat}{a:AV}{v:ay}{k:AK}(h:keyOf a=aa k)(va:VR W n Y a v):(su W.prog W.w).is (k.at W) v=ah:=by
 cases a<;>cases h
 ·rename_i i;obtain⟨t,rfl⟩:=va;show Fe (i.at W) (.int (i.at W) t)=ah;simp[Fe]
 ·rename_i x;obtain⟨t,rfl⟩:=va;show qK (strOf x) (.str (strOf x) t)=ah;simp[qK]
theorem vY{a:AV}{k k':AK}{r:Bool}(h:keyOf a=aa k)(e:ja a k'=aa r):r=decide (k'.at W=k.at W):=by
 cases a<;>cases h
 ·cases k' with
  |str s=>
   (injection e with e;subst e)
   exact(decide_eq_false (λq=>nomatch q)).symm
  |int j=>rw[N8 (W:=W) e];exact decide_eq_decide.mpr ⟨λq=>congrArg Sum.inr q.symm,λq=>(Sum.inr.inj q).symm⟩
 ·cases k' with
  |str s=>
   (injection e with e;subst e)
   rw[yM];exact decide_eq_decide.mpr ⟨λq=>congrArg (λl=>Sum.inl (strOf l)) q.symm,λq=>(Cc (Sum.inl.inj q)).symm⟩
  |int j=>
   (injection e with e;subst e)
   exact(decide_eq_false (λq=>nomatch q)).symm
theorem Mc{K:Type} [DecidableEq K](p:K×ay)(l:List (K×ay))(k:K):valueAt (p::l) k=if p.1=k then aa p.2 else valueAt l k:=by
 unfold valueAt;rw[List.find?_cons]
 by_cases h:p.1=k<;>simp[h]
set_option tactic.hygienic true in
theorem aaV{n:Nat}{a:AV}{k:AK}{kvs:List (AK×AV)}{ps:List ((Str ⊕ Int)×ay)}{r:Option AV}(hk:keyOf a=aa k)(h:aO (qj W n Y) kvs ps)(e:qe (ja a) kvs=aa r):
  (∃u w,r=aa u/\valueAt ps (k.at W)=aa w/\VR W n Y u w)\/(r=af/\valueAt ps (k.at W)=af):=by
 induction h with
 |nil=>(injection e with e;subst e);exact .inr ⟨rfl,rfl⟩
 |@cons p q l m h _ ih=>
  unfold qe at e;rw[Mc,h.1];split at e
  ·rename_i z
   (injection e with e;subst e)
   have:=vY (W:=W) hk z;rw[if_pos (of_decide_eq_true this.symm)];exact .inl ⟨_,_,rfl,rfl,h.2⟩
  ·rename_i z
   have:=vY (W:=W) hk z;rw[if_neg (of_decide_eq_false this.symm)];exact ih e
  ·exact aN e
set_option tactic.hygienic true in
theorem Gq{n:Nat}{a:AV}{v:ay}{kvs:List (AK×AV)}{ps:List ((Str ⊕ Int)×ay)}{r:Option AV}(h:aO (qj W n Y) kvs ps)(va:VR W n Y a v)(e:findD a kvs=aa r):
  ∃k,keyOf a=aa k/\(su W.prog W.w).is (k.at W) v=ah/\((∃u w,r=aa u/\valueAt ps (k.at W)=aa w/\VR W n Y u w)\/(r=af/\valueAt ps (k.at W)=af)):=by
 unfold findD at e;split at e
 ·rename_i k hk
  exact⟨k,hk,Gp hk va,aaV hk h e⟩
 ·exact aN e
set_option tactic.hygienic true in
theorem Rel.isDict(R0:Rel W U.st Y s){x:Nat}{kvs:List (AK×AV)}(e:U.get x=aa (.dict kvs)):∃ps,s.heap.DictOf (su W.prog W.w) (Y x) ps/\aO (qj W U.next Y) kvs ps:=by refine Df (R0.obj x _ e) λr h1 ps h2 h3=>?_;exact⟨ps,Heap.dictOf_iff.mpr ⟨r,h1,h2⟩,h3⟩
set_option tactic.hygienic true in
theorem Okc.isTup(O:Okc W C)(R0:Rel W U.st Y s){t:aG}{xs:List AV}(e:C.tups t=aa xs):∃items,s.heap.IsTuple t items/\aO (VR W U.next Y) xs items.toList:=by refine aV (O.tups t xs e) λitems dQ h3=>?_;obtain⟨o,h1,h2⟩:=dQ;exact⟨items,⟨o,R0.base _ _ h1,h2⟩,h3.mono λ_ _=>VG.vr⟩
set_option tactic.hygienic true in
theorem Okc.isDict(O:Okc W C)(R0:Rel W U.st Y s){t:aG}{kvs:List (List Nat×AV)}(e:C.oj t=aa kvs):
  (t==sysModules)=ak/\∃ps,s.heap.DictOf (strKind W.prog W.w) t ps/\aO (λ(p:List Nat×AV) (q:Str×ay)=>q.1=strOf p.1/\VR W U.next Y p.2 q.2) kvs ps:=by
 refine iY (O.oj t kvs e) λh0 ps ig h3=>?_;obtain⟨o,es,ep,h1,h2⟩:=ig;exact⟨h0,ps,⟨o,es,ep,R0.base _ _ h1,h2⟩,h3.mono λ_ _ q=>⟨q.1,q.2.vr⟩⟩
set_option tactic.hygienic true in
theorem Okc.HS(O:Okc W C)(R0:Rel W U.st Y s){t:aG}{xs:List AV}(e:C.lists t=aa xs):∃vs:Array ay,s.heap.IsList t vs/\aO (VR W U.next Y) xs vs.toList:=by refine aV (O.lists t xs e) λvs jW h3=>?_;obtain⟨o,h1,h2⟩:=jW;exact⟨vs,⟨o,R0.base _ _ h1,h2⟩,h3.mono λ_ _ q=>q.vr⟩
theorem aao{n:Nat}{xs:List AV}{vs:List ay}(h:aO (VR W n Y) xs vs)(hs:(xs.all λx=>(mQ x).isSome)=ah)(k:List Nat):
  ∃ys,StrsAre vs ys/\ys.any (· ==strOf k)=xs.any (λx=>(mQ x).any λu=>k9 u k):=by
 induction h with
 |nil=>exact⟨[],.nil,rfl⟩
 |@cons a v l m h _ ih=>rw[List.all_cons,bJ]at hs;refine aV (ih hs.2) λys h1 h2=>?_;obtain⟨u,hu⟩:=Option.isSome_iff_exists.mp hs.1;refine vStr hu h λt=>⟨strOf u::ys,.cons _ _ h1,?_⟩;rw[EX,EX,h2,M6,hu];rfl
theorem M4(O:Okc W C){neg:Bool}{a b:AV}{v w:ay}{r:Bool}(R0:Rel W U.st Y s)(va:VR W U.next Y a v)(vb:VR W U.next Y b w)(e:JT C U a b=aa r)
  (h:∀t,Q (.bool (xor neg r)) {s with toks:=t}):aC (model W.prog W.w) A (compareOp (cond neg .NotIn .In) v w) Q E s:=by
 refine oS (P:=(· =aa r)) e (λy hy e=>oE e λkvs hk e=>?_) λ_ e=>oE e λt ht e=>oE e λxs hx e=>oE e λk hk e=>bE e λhs e=>?_
 ·refine oB hy vb (aV (R0.isDict (qZ hk)) λps h1 h2=>?_);revert h;refine oM e λq hf h=>?_;refine fS (Gq h2 va hf) λk h3 h4 h5=>?_;have z:(valueAt ps (k.at W)).isSome=q.isSome:=by
   rcases h5 with⟨u,w,rfl,e,_⟩|⟨rfl,e⟩<;>rw[e]<;>rfl
  cases neg with
  |false=>exact wpAny_in_of h4 (R0.yW O (qZ hk)) h1.mapOf (by rw[z];simpa using h _)
  |true=>exact wpAny_notIn_of h4 (R0.yW O (qZ hk)) h1.mapOf (by rw[z];simpa using h _)
 ·refine ru ht vb (vStr hk va λu=>aV (O.isTup R0 hx) λitems h1 h2=>aV (aao h2 hs k) λys h3 h4=>?_);have z:=sR e (P:=λr=>∀t,Q (.bool (xor neg r)) {s with toks:=t}) h s.toks;cases neg with
  |false=>exact in_tuple_strs h1 h3 (by rw[h4];rw[Bool.false_xor]at z;exact z)
  |true=>exact notin_tuple_strs h1 h3 (by rw[h4];rw[Bool.true_xor]at z;exact z)
theorem decLe(a b:Int):decide (a<=b)= !decide (b<a):=by
 by_cases h:b<a
 ·rw[decide_eq_true h,decide_eq_false (Int.not_le.mpr h)];rfl
 ·rw[decide_eq_false h,decide_eq_true (Int.not_lt.mp h)];rfl
@[elab_as_elim] theorem CA{a b:AV}{v w:ay}{r:Bool}{n:Nat}{P:ay->ay->Prop}(e:Am a b=aa r)(va:VR W n Y a v)(vb:VR W n Y b w)(k:∀i j t u,r=decide (AI.at W i<AI.at W j)->P (.int (i.at W) t) (.int (j.at W) u)):P v w:=
 oE e λi hi e=>oE e λj hj e=>vInt (P:=λv=>P v w) hi va λt=>vInt hj vb λu=>k i j t u (Gv e)
@[elab_as_elim] theorem Ob{a b:AV}{v w:ay}{r:Bool}{n:Nat}{P:ay->ay->Bool->Prop}(e:isA a b=aa r)(va:VR W n Y a v)(vb:VR W n Y b w)(k1:P .none .none ah)(k2:∀v,PySem.plainIs v .none=ah->v≠ .none->P v .none ak):P v w r:=by
 refine bE e λhb e=>Ab hb vb (bS (P:=(· =aa r)) e (λha e=>Ab (P:=λv=>P v .none r) ha va (sI e k1)) λ_ e=>bE e λhs e=>sI e (k2 v ?_ ?_))
 ·cases a<;>first|exact cB hs|(obtain⟨_,rfl⟩:=va;rfl)|(cases va;rfl)
 ·cases a<;>first|exact cB hs|(obtain⟨_,rfl⟩:=va;exact nofun)|(cases va;exact nofun)
theorem Fz(O:Okc W C){o:lO}{a b:AV}{v w:ay}{r:Bool}(R0:Rel W U.st Y s)(va:VR W U.next Y a v)(vb:VR W U.next Y b w)(e:jv C o a b U=aa r)(hu:A.units+40<cLine)
  (h:∀t,Q (.bool r) {s with toks:=t}):aC (model W.prog W.w) A (compareOp o v w) Q E s:=by
 have h0:Q (.bool r) s:=h s.toks;revert h0 h;cases o with
 |Eq=>exact λ_ h0=>(agy R0 e (cX (bD hu) rfl) va vb) W.prog W.w E Q h0
 |NotEq=>exact oM e λb q _ h0=>(agE R0 q (cX (bD hu) rfl) va vb) W.prog W.w E Q h0
 |Lt=>exact λ_ h0=>CA e va vb λi j t u q=>lt_int (by rw[<-q];exact h0)
 |Gt=>exact λ_ h0=>CA e vb va λi j t u q=>gt_int (by rw[<-q];exact h0)
 |LtE=>exact oM e λb q _ h0=>CA q vb va λi j t u q=>PySem.P.le_int (by rw[decLe,<-q];exact h0)
 |GtE=>exact oM e λb q _ h0=>CA q va vb λi j t u q=>PySem.P.ge_int (by show Q (.bool (decide (AI.at W j<=AI.at W i))) s;rw[decLe,<-q];exact h0)
 |Is=>exact Ob e va vb (λ_ h=>wpAny_is_self rfl h) (λv hp hn _ h=>wpAny_is_other hp hn h)
 |IsNot=>exact oM e λb q=>Ob q va vb (λ_ h=>wpAny_isNot_self rfl h) (λv hp hn _ h=>wpAny_isNot_other hp hn h)
 |In=>exact λh _=>M4 (neg:=ak) O R0 va vb e λt=>by rw[Bool.false_xor];exact h t
 |NotIn=>exact oM e λb q h _=>M4 (neg:=ah) O R0 va vb q λt=>by rw[Bool.true_xor];exact h t
end
structure Oka(W:WS)(C:EC):Prop extends Okc W C where
 Ir:∀K a,C.fC K=ah->C.cls K a=aa af->findIn W.K (.ref K) (nm a)=aa af/\takerIn W.K K (nm a)=aa af
 IM:∀K a f,C.fC K=ah->C.cls K a=aa (aa f)->findIn W.K (.ref K) (nm a)=aa (aa (.ref f))/\typeIn W.K (.ref f)=aa (.type "function")
section
variable{W:WS}{C:EC}{U:ES}{Y:Nat->aG}{s:aE}{A:cR}{Q:ay->aE->Prop}{E:ay->aE->Prop}
set_option tactic.hygienic true in
theorem XK{x K d a:Nat}{av:AV}(O:Oka W C)(R0:Rel W U.st Y s)(hx:U.get x=aa (.inst K d)){v:ay}{expr:Bool}(va:v= .ref (Y x))(e:rY C (.ref x) a U=aa av)
  (h:∀v t,VR W U.next Y av v->Q v {s with toks:=t}):aC (model W.prog W.w) A (getAttr v (nm a) expr) Q E s:=by
 subst va;have e:(U.gI x).elim _ _=aa av:=e;rw[zq hx]at e;refine bE e λhq e1=>?_;clear e;rw[bJ]at hq;obtain⟨kvs,h3,hv,hh⟩:=NS e1;exact ZZ O.toOk R0 hx h3 (O.inst _ hq.1) (O.Ir _ _ hq.1 (yH hq.2)).1 hv hh λv q=>h v _ q
set_option tactic.hygienic true in
theorem XF{x K d a:Nat}{av:AV}{σ':ES}{Q:Unit->aE->Prop}(O:Oka W C)(R0:Rel W U.st Y s)(hx:U.get x=aa (.inst K d)){o v:ay}(vo:o= .ref (Y x))(va:VR W U.next Y av v)(e:rW C (.ref x) a av U=aa σ')
  (h:∀h' t,Rel W σ'.st Y {s with heap:=h',toks:=t}->Ext W U.st Y s.heap σ'.st Y h'->Q () {s with heap:=h',toks:=t}):aC (model W.prog W.w) A (setAttr o (nm a) v) Q E s:=by
 subst vo;have e:(U.gI x).elim _ _=aa σ':=e;rw[zq hx]at e;refine bE e λhq e1=>?_;clear e;rw[bJ]at hq;obtain⟨kvs,h3,hz,rfl⟩:=NF e1;refine ZQ O.toOk R0 hx h3 (O.inst _ hq.1) (O.Ir _ _ hq.1 (yH hq.2)).2 va (cL (cC hz) rfl) ?_;rw[ES.mG h3]at h;exact h
theorem Xy{i:Int}{n:Nat}{j:Nat}(h:uF n i=aa j):j<n/\((0<=i/\i.toNat=j)\/(i<0/\-(n:Int)<=i/\(i+n).toNat=j)):=by
 unfold uF at h;cases i with
 |ofNat k=>
  dsimp only at h;rw[kY]at h
  by_cases q:k<n
  ·rw[decide_eq_true q]at h;cases h;exact⟨q,.inl ⟨EO _,rfl⟩⟩
  ·rw[decide_eq_false q]at h;exact aN h
 |negSucc k=>
  dsimp only at h;rw[kY]at h
  by_cases q:k<n
  ·rw[decide_eq_true q]at h;(injection h with h;subst h);exact⟨by exact aj2 q,.inr ⟨by exact TN,by exact Int.neg_le_neg (Int.ofNat_le.mpr q),by exact akF⟩⟩
  ·rw[decide_eq_false q]at h;exact aN h
theorem MY(n:Nat)(i:Int):CR n i=kms_lo (aa i) n:=by
 unfold CR kms_lo;cases i with
 |ofNat k=>
  dsimp only;rw[kY,if_neg (show¬(gU k<0)from Int.not_lt.mpr (EO k))]
  by_cases q:k<n
  ·rw[decide_eq_true q];show k=min k n;exact(ET (Nat.le_of_lt q)).symm
  ·rw[decide_eq_false q];show n=min k n;exact(Ll (tG q)).symm
 |negSucc k=>
  dsimp only;rw[kY,if_pos (TN)]
  by_cases q:k<n
  ·rw[decide_eq_true q];show n-(k+1)=n-(-(mu k)).toNat;congr 1
  ·rw[decide_eq_false q];show 0=n-(-(mu k)).toNat;have:(-(mu k)).toNat=k+1:=rfl;exact ajJ q
theorem aaM{n m:Nat}{l:AV}{v:ay}{a:Nat}(h:J9 n l=aa a)(vl:VR W m Y l v):∃lo,IsPart v lo/\a=kms_lo lo n:=by
 unfold J9 at h;split at h
 ·(injection h with h;subst h);cases vl;exact⟨af,.none,rfl⟩
 ·(injection h with h;subst h);obtain⟨t,rfl⟩:=vl;exact⟨_,.int _ _,MY _ _⟩
 ·exact aN h
theorem aau{n m:Nat}{l:AV}{v:ay}{a:Nat}(h:hiL n l=aa a)(vl:VR W m Y l v):∃lo,IsPart v lo/\a=kms_hi lo n:=by
 unfold hiL at h;split at h
 ·(injection h with h;subst h);cases vl;exact⟨af,.none,rfl⟩
 ·(injection h with h;subst h);obtain⟨t,rfl⟩:=vl;exact⟨_,.int _ _,MY _ _⟩
 ·exact aN h
theorem aO.drop{I H:Type}{R:I->H->Prop}{l:List I}{m:List H}(h:aO R l m):∀n,aO R (l.drop n) (m.drop n)
 |0=>h
 |n+1=>by cases h with
  |nil=>exact .nil
  |cons _ h=>exact h.drop n
theorem aO.take{I H:Type}{R:I->H->Prop}{l:List I}{m:List H}(h:aO R l m):∀n,aO R (l.take n) (m.take n)
 |0=>.nil
 |n+1=>by cases h with
  |nil=>exact .nil
  |cons a h=>exact .cons a (h.take n)
theorem aO.set{I H:Type}{R:I->H->Prop}{l:List I}{m:List H}(h:aO R l m){a:I}{b:H}(q:R a b):∀n,aO R (l.set n a) (m.set n b):=by
 induction h with
 |nil=>intro n;exact .nil
 |cons h r ih=>intro n;cases n with
  |zero=>exact .cons q r
  |succ n=>exact .cons h (ih n)
set_option tactic.hygienic true in
theorem Rel.isSlice(R0:Rel W U.st Y s){y:Nat}{l u:AV}(e:U.get y=aa (.slice l u)):∃a b,s.heap.IsSliceOf (Y y) a b .none/\VR W U.next Y l a/\VR W U.next Y u b:=by obtain⟨o,h1,h2,a,b,h3,h4,h5⟩:=R0.obj _ _ e;exact⟨a,b,⟨o,h1,h2,h3⟩,h4,h5⟩
theorem Np{n:Nat}{kvs:List (List Nat×AV)}{ps:List (Str×ay)}{k:List Nat}(h:aO (λ(p:List Nat×AV) (q:Str×ay)=>q.1=strOf p.1/\VR W n Y p.2 q.2) kvs ps):
  (∃u w,wC kvs k=aa u/\valueAt ps (strOf k)=aa w/\VR W n Y u w)\/(wC kvs k=af/\valueAt ps (strOf k)=af):=by
 induction h with
 |nil=>exact .inr ⟨rfl,rfl⟩
 |@cons p q l m h _ ih=>
  unfold wC;rw[Mc,h.1,yM]
  by_cases z:p.1=k
  ·rw[decide_eq_true z,if_pos (by rw[z])];exact .inl ⟨_,_,rfl,rfl,h.2⟩
  ·rw[decide_eq_false z,if_neg λq=>z (Cc q)];exact ih
theorem MK{i:AV}{a:aG}{w:ay}{xs:List AV}{r:AV×ES}(R0:Rel W U.st Y s)(L:∃vs,s.heap.IsList a vs/\aO (VR W U.next Y) xs vs.toList)(vb:VR W U.next Y i w)(e:Jd xs i U=aa r)
  (h:PR W U.st Y s.heap (VO W) Q E (dH r)):aC (model W.prog W.w) A (getItem (.ref a) w) Q E s:=by
 obtain⟨vs,hl,hv⟩:=L;refine oE e λy hy e5=>oE e5 λp hp e6=>bE e6 λhf e7=>?_;clear e e5 e6;obtain rfl:=kh hy;obtain⟨_,rfl⟩:=vb;have e1:=hv.size;refine fE (R0.isSlice (PU hp)) λa b hs h1 h2=>?_;obtain⟨ys,hc,rfl⟩:=Option.map_eq_some_iff.mp e7;unfold DK at hc;refine oE hc λlo hlo hc2=>oE hc2 λhi hhi hc3=>?_;clear hc hc2;obtain rfl:=aX hc3;refine aV (aaM hlo h1) λlo' l1 dQ=>?_;subst dQ;refine aV (aau hhi h2) λhi' l2 ig=>?_;subst ig;have:=iB hf;refine wpAny_getItem_list_slice hl hs l1 l2 .none nofun ?_ (by rw[gp];exact cL (aT (ao e1) (cC this)) rfl)
 refine Cg R0 h rfl ⟨_,_,rfl,?_⟩;rw[kms_pick_eq];unfold kms_pick;rw[show vs.toList.length=xs.length from hv.length.symm];exact((hv.mono λ_ _=>VR.mono (iA _) dw).drop _).take _
theorem Xq{o i:AV}{v w:ay}(O:Okc W C)(R0:Rel W U.st Y s)(va:VR W U.next Y o v)(vb:VR W U.next Y i w)
  (h:PR W U.st Y s.heap (VO W) Q E (bz (rX C o i U) dH)):aC (model W.prog W.w) A (getItem v w) Q E s:=by
 refine bZ h λr e0 h0=>?_;clear h;refine oS (P:=(· =aa r)) e0 (λx hx e1=>?_) λ_ e1=>?_<;>clear e0
 ·obtain rfl:=kh hx;obtain⟨_,rfl⟩:=va;refine oE e1 λxs hx e2=>?_;clear e1;have hx:=jM hx;refine oS (P:=(· =aa r)) e2 (λk hk e3=>?_) λ_ e3=>MK R0 (aV (R0.isList hx) λvs hl hv=>⟨vs,hl,hv⟩) vb e3 h0;clear e2;obtain rfl:=qT hk;obtain⟨t,rfl⟩:=vb;refine oE e3 λj hj e4=>bE e4 λhz e5=>?_;clear e3 e4;rw[bJ,gG,gG]at hz;have z1:=of_decide_eq_true hz.1;have z2:=of_decide_eq_true hz.2;refine aV (R0.isList hx) λvs hl hv=>?_;have e1:=hv.size;obtain⟨j1,j2⟩:=Xy hj;have JS:j<vs.size:=by exact aA (aT (aq j1) (aD e1)) rfl
  refine aV (hv.at JS) λy hy1 hy2=>?_;have fin:Q vs[j] s:=by rw[hy1]at e5;obtain rfl:=aX e5;exact h0 Y _ _ R0 .refl ⟨_,rfl,hy2⟩
  rcases j2 with⟨k0,kj⟩|⟨k0,k1,kj⟩
  ·exact wpAny_getItem_list hl k0 (by simp only[AI.at];exact aie z2) (by simp only[AI.at];rw[kj];exact Es JS) fin
  ·refine wpAny_getItem_list_neg hl (by simp only[AI.at];exact ako j1 kj) (by simp only[AI.at];exact akB e1 k1) (by simp only[AI.at];exact aiY z1) ?_ fin;simp only[AI.at];rw[<-e1,kj];exact Es JS
 ·refine oE e1 λt ht e2=>?_;clear e1;obtain rfl:=vO ht;cases va;refine oS (P:=(· =aa r)) e2 (λk hk e3=>?_) λ_ e3=>oE e3 λxs hx e4=>MK R0 (aV (O.HS R0 hx) λvs hl hv=>⟨vs,hl,hv⟩) vb e4 h0;clear e2;obtain rfl:=Gn hk;refine oE e3 λkvs hk e4=>?_;clear e3;obtain⟨u,rfl⟩:=vb;refine iY (O.isDict R0 hk) λ_ ps h1 h2=>?_;rcases Np (k:=k) h2 with⟨a,b,h3,h4,h5⟩|⟨h3,h4⟩
  ·rw[h3]at e4;obtain rfl:=aX e4;exact wpAny_getItem_of (knd:=strKind W.prog W.w) (k:=strOf k) (by show qK (strOf k) (.str (strOf k) u)=ah;simp[qK]) h1.mapOf h4 (h0 Y _ _ (R0.tok _) .refl ⟨_,rfl,h5⟩)
  ·rw[h3]at e4;exact aN e4
end
section
variable{W:WS}{U:ES}{Y:Nat->aG}{s:aE}
set_option tactic.hygienic true in
theorem Rel.nL(R:Rel W U.st Y s){x:Nat}{o o':AO}{r':Obj}{h':cy}{t:Nat}(e:U.get x=aa o)(hb:pN (Y x) s.heap h')(hr:h'.get? (Y x)=aa r')(hn:∀r,s.heap.get? (Y x)=aa r->mK r->mK r')(ho:OR W U.next Y o' r')
  (hi:isNs o=ah->isNs o'=ah:=by intro z;first|rfl|exact absurd z nR|assumption):
  Rel W (U.put x o').st Y {s with heap:=h',toks:=t}/\Ext W U.st Y s.heap (U.put x o').st Y h':=by
 rw[ES.mG e];have ne:∀b p,W.h0_.get? b=aa p->b≠Y x:=λb p q z=>by have:=R.new x o e;rw[<-z,q]at this;exact lV this
 have same:∀{b:aG},b≠Y x->h'.get? b=s.heap.get? b:=λh=>hb.2 _ h;refine⟨⟨λb p q=>(same (ne b p q)).trans (R.base b p q),λy p q=>?_,λy p q=>?_,λy z p q ey ez h=>?_,λy p q=>?_,R.gens,R.os⟩,cN _,λ_ _=>rfl,λy p q=>?_,λy p q=>?_,λb p q hb' _=>?_,λb p q hb' _=>⟨p.slots,?_⟩,λb p q=>?_⟩
 ·rcases St.ni q with⟨rfl,rfl⟩|⟨hy,q⟩
  ·exact⟨r',hr,ho⟩
  ·refine aV (R.obj y p q) λr h1 h2=>?_;exact⟨r,(same λz=>hy (R.inj y x p o q e z)).trans h1,h2⟩
 ·rcases St.ni q with⟨rfl,rfl⟩|⟨hy,q⟩
  ·exact R.new y o e
  ·exact R.new y p q
 ·have a:∃p',U.st.get y=aa p':=by rcases St.ni ey with⟨rfl,rfl⟩|⟨_,q⟩<;>exact⟨_,by assumption⟩
  have b:∃p',U.st.get z=aa p':=by rcases St.ni ez with⟨rfl,rfl⟩|⟨_,q⟩<;>exact⟨_,by assumption⟩
  obtain⟨p',a⟩:=a;obtain⟨q',b⟩:=b;exact R.inj y z p' q' a b h
 ·rcases St.ni q with⟨rfl,rfl⟩|⟨hy,q⟩
  ·exact R.lt y o e
  ·exact R.lt y p q
 ·by_cases hy:y=x
  ·refine⟨o',if_pos hy,λz=>hi ?_⟩;subst hy;have q:U.st.get y=aa p:=q;rw[show U.st.get y=aa o from e]at q;obtain rfl:=aX q;exact z
  ·exact⟨p,(if_neg hy).trans q,id⟩
 ·rcases St.ni q with⟨rfl,rfl⟩|⟨hy,q⟩
  ·exact .inl ⟨_,e⟩
  ·exact .inl ⟨_,q⟩
 ·exact(same λz=>hb' x o e z.symm).trans q
 ·exact(same λz=>hb' x o e z.symm).trans q
 ·by_cases hy:b=Y x
  ·subst hy;exact⟨r',hr,hn p q⟩
  ·exact⟨p,(same hy).trans q,λx=>x⟩
theorem Rel.grow(R:Rel W U.st Y s){h':cy}{t:Nat}(hk:∀b o,s.heap.get? b=aa o->h'.get? b=aa o):Rel W U.st Y {s with heap:=h',toks:=t}/\Ext W U.st Y s.heap U.st Y h':=
 ⟨⟨λb p q=>hk _ _ (R.base b p q),λx o q=>let ⟨r,h1,h2⟩:=R.obj x o q;⟨r,hk _ _ h1,h2⟩,R.new,R.inj,R.lt,R.gens,R.os⟩,
 cN _,λ_ _=>rfl,λ_ _ e=>⟨_,e,id⟩,λ_ _ e=>.inl ⟨_,e⟩,λ_ _ e _ _=>hk _ _ e,λ_ o e _ _=>⟨o.slots,hk _ _ e⟩,λ_ _ e=>⟨_,hk _ _ e,λx=>x⟩⟩
theorem Nq{r:Obj}{vs:Array ay}{n:Nat}(h:r.data= .seq vs n):mK r:=λvs q=>by rw[h]at q;contradiction
end
section
variable{W:WS}{C:EC}{U:ES}{Y:Nat->aG}{s:aE}{A:cR}{E:ay->aE->Prop}
theorem OU(O:Okc W C)(R0:Rel W U.st Y s){a:AV}{u:ay}{xs:List AV}(va:VR W U.next Y a u)(e:Sa C a U=aa xs):∃vs t,u= .ref t/\s.heap.IsTuple t vs/\aO (VR W U.next Y) xs vs.toList:=by
 refine oS (P:=(· =aa xs)) e (λx hx e1=>?_) λ_ e1=>oE e1 λt ht e2=>?_
 ·obtain rfl:=kh hx;obtain⟨_,rfl⟩:=va;refine GD (R0.obj x _ (G7 e1)) λo o1 o2 vs m o3 hv=>?_;exact⟨vs,_,rfl,⟨o,o1,o2,m,o3⟩,hv⟩
 ·obtain rfl:=vO ht;cases va;refine aV (O.isTup R0 e2) λvs ht hv=>?_;exact⟨vs,_,rfl,ht,hv⟩
theorem next_item(O:Okc W C){it:Nat}{v:AV}{σ':ES}{Q:Option ay->aE->Prop}(R0:Rel W U.st Y s)(e:iW C it U=aa (aa v,σ'))
  (h:∀s' b,Rel W σ'.st Y s'->Ext W U.st Y s.heap σ'.st Y s'.heap->VR W σ'.next Y v b->Q (aa b) s'):aC (model W.prog W.w) A (pyNext (.ref (Y it))) Q E s:=by
 refine oE e λob hi e1=>?_;clear e;refine oS (P:=(· =aa (aa v,σ'))) e1 (λq hq e2=>?_) λ_ e2=>oS (P:=(· =aa (aa v,σ'))) e2 (λq hq e3=>?_) λ_ e3=>?_
 ·rw[Gw hq]at hi;clear e1;refine C9 (R0.obj it _ hi) λr h1 h2 h3 h4=>?_;refine oE e2 λxs hx e3=>?_;refine aV (R0.isList (jM hx)) λvs hl hv=>?_;obtain⟨ha,rfl⟩:=MI e3;refine aV (hv.get ha) λb hb hab=>?_;rw[Bh]at hb;refine wpAny_pyNext_list_item ⟨r,h1,h2,h3⟩ hl hb λh' q1 q2=>?_;refine fS q1 λr' k1 k2 k3=>?_;try clear q1
  obtain⟨R1,X1⟩:=R0.nL (t:=s.toks) (o':=.jO q.1 (q.2+1)) hi q2 k1 (λr0 e0 n=>(n _ (by rw[h1]at e0;cases e0;exact h3)).elim) ⟨k2,k3,h4⟩;exact h _ _ R1 X1 hab
 ·rw[Gz hq]at hi;clear e1 e2;refine zf (R0.obj it _ hi) λr h1 h2 u h3 h4=>?_;refine oE e3 λxs hx e4=>?_;obtain⟨vs,tt,rfl,ht,hv⟩:=OU O R0 h4 hx;obtain⟨ha,rfl⟩:=MI e4;refine aV (hv.get ha) λb hb hab=>?_;rw[Bh]at hb;refine wpAny_pyNext_tuple_item ⟨r,h1,h2,h3⟩ ht hb λh' q1 q2=>?_;refine fS q1 λr' k1 k2 k3=>?_;try clear q1
  obtain⟨R1,X1⟩:=R0.nL (t:=s.toks) (o':=.nD q.1 (q.2+1)) hi q2 k1 (λr0 e0 n=>(n _ (by rw[h1]at e0;cases e0;exact h3)).elim) ⟨k2,_,k3,h4⟩;exact h _ _ R1 X1 hab
 ·refine oE e3 λq hq e4=>?_;rw[GF hq]at hi;clear e1 e2 e3;refine aV (R0.obj it _ hi) λr h1 h2=>?_;obtain rfl:r=_:=h2;refine bS (P:=(· =(aa v,σ'))) (aX e4) (λhc e5=>?_) λhc e5=>by cases e5
  cases e5;rw[gG]at hc;have hc:=of_decide_eq_true hc;refine wpAny_pyNext_range_item h1 (by unfold tZ;rw[if_pos hc];exact Int.sub_pos_of_lt hc) λh' q1 q2=>?_;have e2:tZ q.1 q.2- 1=tZ (fq (q.1+1)) q.2:=by rw[iK];unfold tZ;rw[if_pos hc];split<;>(first|exact agw|exact ago hc (by assumption))
  rw[e2]at q1;obtain⟨R1,X1⟩:=R0.nL (t:=s.toks+1) (o':=.gX (fq (q.1+1)) q.2) hi q2 q1 (λr0 e0 n=>(n _ (by rw[h1]at e0;cases e0;rfl)).elim) (by show _=_;rw[iK]);exact h _ _ R1 X1 ⟨_,rfl⟩
theorem N9(R0:Rel W U.st Y s){it:Nat}{o:AO}{r:Obj}{vs:Array ay}(hi:U.get it=aa o)(h1:s.heap.get? (Y it)=aa r)(hd:r.data= .fields vs)(f:Array ay->Array ay)(a b:Obj)
  (hq:isNs o=ah->isNs .any=ah:=by intro z;exact absurd z nR):
  Rel W (U.put it .any).st Y {s with heap:=((s.heap.update (Y it) (qL f)).push a).push b}/\Ext W U.st Y s.heap (U.put it .any).st Y (((s.heap.update (Y it) (qL f)).push a).push b):=by
 obtain⟨R1,X1⟩:=R0.uN (o':=.any) (f:=qL f) hi h1 (Bj (Bo hd _)) (λn=>(n _ hd).elim) trivial hq;obtain⟨R2,X2⟩:=R1.grow (h':=((s.heap.update (Y it) (qL f)).push a).push b) (t:=s.toks) λb o e=>jo _ (jo _ e);exact⟨R2,X1.trans R0.lt R1.lt X2⟩
set_option tactic.hygienic true in
theorem aa8{it l:aG}{i:Nat}{items:Array ay}{Q:Option ay->aE->Prop}(hh:A.handled=af)
  (hit:s.heap.IsListIter it l i) (hl:s.heap.IsList l items) (hx:items[i]?=af)
  (hQ:∀f a b,Q af {s with heap:=((s.heap.update it (qL f)).push a).push b}):aC (model W.prog W.w) A (pyNext (.ref it)) Q E s:=by
 refine fS (id hit) λo ho hc hd=>?_;refine qk hl λol wZ _ nl hdl=>?_;try clear hl
 unfold pyNext;refine aF (By (Bd (name:=jc "__next__") hit.typeIs W6
  (xR W6 hit.typeIs entry_listiter_next ?_ (args_listiter_next _))))
 show aC _ _ (field (.ref it) 0 >>= _) _ _ s;refine aF (j9 ho hd (x:=.ref l) rfl ?_);show aC _ _ (if(eB l==kg)=ah then _ else _) _ _ s;rw[if_neg (show¬((eB l==kg)=ah)from nR)];show aC _ _ (field (.ref it) 1 >>= _) _ _ s;refine aF (j9 ho hd (x:=.int i 0) rfl ?_);show aC _ _ (seqItems? (.ref l) >>= _) _ _ s;refine aF (rS wZ hdl ?_);simp only[Xe,hx];refine aF (yr (aF (Bu ho hd (by simp) ?_)));show aC _ _ (newExc (.type "StopIteration") [] >>= _) _ _ _;refine aF ?_;simp only[newExc,newTuple];refine aF (qI ?_ (by size_fits));refine aF (m:=firstArgMember _ _) (tO (a:=kg) (by first|rfl|(simp only[firstArgMember];rfl)) ?_);refine qI ?_ (by size_fits);simp only[raiseNew];refine aF (LC ?_);rw[show A.in1.handled=af from hh];refine aF (bu (Mf ?_));refine aF (Lm (T:= "StopIteration") (b:=ah) ⟨_,Bk _ rfl,rfl⟩ Lv ?_);exact bu (hQ _ _ _)
set_option tactic.hygienic true in
theorem Zm{it l:aG}{i:Nat}{items:Array ay}{Q:Option ay->aE->Prop}(hh:A.handled=af)
  (hit:s.heap.IsTupleIter it l i) (hl:s.heap.IsTuple l items) (hx:items[i]?=af)
  (hQ:∀f a b,Q af {s with heap:=((s.heap.update it (qL f)).push a).push b}):aC (model W.prog W.w) A (pyNext (.ref it)) Q E s:=by
 refine fS (id hit) λo ho hc hd=>?_;refine qk hl λol wZ _ nl hdl=>?_;try clear hl
 unfold pyNext;refine aF (By (Bd (name:=jc "__next__") hit.typeIs Wj
  (xR Wj hit.typeIs PySem.F.entry_tuple_iterator_next ?_ (PySem.F.args_tuple_iterator_next_1 _))))
 show aC _ _ (field (.ref it) 0 >>= _) _ _ s;refine aF (j9 ho hd (x:=.ref l) rfl ?_);show aC _ _ (if(eB l==kg)=ah then _ else _) _ _ s;rw[if_neg (show¬((eB l==kg)=ah)from nR)];show aC _ _ (field (.ref it) 1 >>= _) _ _ s;refine aF (j9 ho hd (x:=.int i 0) rfl ?_);show aC _ _ (seqItems? (.ref l) >>= _) _ _ s;refine aF (rS wZ hdl ?_);simp only[Xe,hx];refine aF (yr (aF (Bu ho hd (by simp) ?_)));show aC _ _ (newExc (.type "StopIteration") [] >>= _) _ _ _;refine aF ?_;simp only[newExc,newTuple];refine aF (qI ?_ (by size_fits));refine aF (m:=firstArgMember _ _) (tO (a:=kg) (by first|rfl|(simp only[firstArgMember];rfl)) ?_);refine qI ?_ (by size_fits);simp only[raiseNew];refine aF (LC ?_);rw[show A.in1.handled=af from hh];refine aF (bu (Mf ?_));refine aF (Lm (T:= "StopIteration") (b:=ah) ⟨_,Bk _ rfl,rfl⟩ Lv ?_);exact bu (hQ _ _ _)
set_option tactic.hygienic true in
theorem Z3{it:aG}{x left step:Int}{Q:Option ay->aE->Prop}(hh:A.handled=af)(hit:IsRangeIter s.heap it x left step)(hleft:left<=0)
  (hQ:∀a b,Q af {s with heap:=(s.heap.push a).push b}):aC (model W.prog W.w) A (pyNext (.ref it)) Q E s:=by
 have hT:s.TypeIs (.ref it) "range_iterator" :=⟨_,hit,rfl⟩;unfold pyNext;refine aF (By (Bd (name:=jc "__next__") hT Wk
  (xR Wk hT PySem.F.entry_range_iterator_next ?_ (PySem.F.args_range_iterator_next_1 _))))
 show aC _ _ (field (.ref it) 0 >>= _) _ _ s;refine aF (j9 hit rfl (x:=rawInt x) rfl ?_);show aC _ _ (field (.ref it) 1 >>= _) _ _ s;refine aF (j9 hit rfl (x:=rawInt left) rfl ?_);show aC _ _ (field (.ref it) 2 >>= _) _ _ s;refine aF (j9 hit rfl (x:=rawInt step) rfl ?_);show aC _ _ (if left<=0 then _ else _) _ _ s;rw[if_pos hleft];refine aF (yr ?_);refine aF ?_;show aC _ _ (newExc (.type "StopIteration") [] >>= _) _ _ _;refine aF ?_;simp only[newExc,newTuple];refine aF (qI ?_ (by size_fits));refine aF (m:=firstArgMember _ _) (tO (a:=kg) (by first|rfl|(simp only[firstArgMember];rfl)) ?_);refine qI ?_ (by size_fits);simp only[raiseNew];refine aF (LC ?_)
 first|rw[show A.in1.handled=af from hh]|rw[hh]
 refine aF (bu (Mf ?_));refine aF (Lm (T:= "StopIteration") (b:=ah) ⟨_,Bk _ rfl,rfl⟩ Lv ?_);exact bu (hQ _ _)
theorem next_end(O:Okc W C){it:Nat}{σ':ES}{Q:Option ay->aE->Prop}(R0:Rel W U.st Y s)(hh:A.handled=af)(e:iW C it U=aa (af,σ'))
  (h:∀s',Rel W σ'.st Y s'->Ext W U.st Y s.heap σ'.st Y s'.heap->Q af s'):aC (model W.prog W.w) A (pyNext (.ref (Y it))) Q E s:=by
 refine oE e λob hi e1=>?_;clear e;refine oS (P:=(· =aa (af,σ'))) e1 (λq hq e2=>?_) λ_ e2=>oS (P:=(· =aa (af,σ'))) e2 (λq hq e3=>?_) λ_ e3=>?_
 ·rw[Gw hq]at hi;clear e1;refine C9 (R0.obj it _ hi) λr h1 h2 h3 h4=>?_;refine oE e2 λxs hx e3=>?_;refine aV (R0.isList (jM hx)) λvs hl hv=>?_;obtain⟨ha,rfl⟩:=MG e3;refine aa8 hh ⟨r,h1,h2,h3⟩ hl (by rw[KU];exact Qt hv.size ha) λf a b=>?_;obtain⟨R1,X1⟩:=N9 R0 hi h1 h3 f a b;exact h _ R1 X1
 ·rw[Gz hq]at hi;clear e1 e2;refine zf (R0.obj it _ hi) λr h1 h2 u h3 h4=>?_;refine oE e3 λxs hx e4=>?_;obtain⟨vs,tt,rfl,ht,hv⟩:=OU O R0 h4 hx;obtain⟨ha,rfl⟩:=MG e4;refine Zm hh ⟨r,h1,h2,h3⟩ ht (by rw[KU];exact Qt hv.size ha) λf a b=>?_;obtain⟨R1,X1⟩:=N9 R0 hi h1 h3 f a b;exact h _ R1 X1
 ·refine oE e3 λq hq e4=>?_;rw[GF hq]at hi;clear e1 e2 e3;refine aV (R0.obj it _ hi) λr h1 h2=>?_;obtain rfl:r=_:=h2;refine bS (P:=(· =(af,σ'))) (aX e4) (λhc e5=>by cases e5) λhc e5=>?_;cases e5;rw[gG]at hc;have hc:=of_decide_eq_false hc;refine Z3 hh h1 (by unfold tZ;rw[if_neg hc];decide) λa b=>?_;obtain⟨R1,X1⟩:=R0.nL (t:=s.toks) (o':=.any) hi (Heap.SameBut.refl _ _) h1 (λr0 e0 n=>(n _ (by rw[h1]at e0;cases e0;rfl)).elim) trivial;obtain⟨R2,X2⟩:=R1.grow (h':=(s.heap.push a).push b) (t:=s.toks) λb o e=>jo _ (jo _ e);exact h _ R2 (X1.trans R0.lt R1.lt X2)
theorem My(O:Okc W C){a:AV}{v:ay}{Q:ay->aE->Prop}{p:Nat×ES}(R0:Rel W U.st Y s)(va:VR W U.next Y a v)(e:uD C a U=aa p)
  (h:∀ρ' s',Rel W p.2.st ρ' s'->Ext W U.st Y s.heap p.2.st ρ' s'.heap->p.1<p.2.next->Q (.ref (ρ' p.1)) s'):aC (model W.prog W.w) A (pyIter v) Q E s:=by
 have fin:∀(o:AO) (r:Obj),p=U.add o->r.isFreed=ak->OR W (U.next+1) (dK Y U.next s.heap.objs.size) o r->Q (.ref s.heap.objs.size) {s with heap:=s.heap.push r}:=by rintro o r rfl hf ho;refine cU (R0.jP hf ho) λR1 X1 V1=>?_;obtain⟨l,e⟩:=V1;have:=h _ _ R1 X1 l;rw[<-nV e]at this;exact this
 refine oS (P:=(· =aa p)) e (λx hx e1=>?_) λ_ e1=>oE e1 λt ht e2=>oE e2 λxs hx e3=>?_
 ·obtain rfl:=kh hx;obtain⟨hx',rfl⟩:=va;have ag:dK Y U.next s.heap.objs.size x=Y x:=dw _ hx'
  refine oS (P:=(· =aa p)) e1 (λxs hx e2=>?_) λ_ e2=>oS (P:=(· =aa p)) e2 (λxs hx e3=>?_) λ_ e3=>oE e3 λob hx e4=>oE e4 λc hc e5=>bE e5 λhz e6=>?_
  ·refine aV (R0.isList (jM hx)) λvs hl hv=>?_;exact wpAny_pyIter_list hl (fin _ _ (aX e2).symm rfl ⟨rfl,by rw[ag];rfl,m7 hx'⟩)
  ·refine GD (R0.obj x _ (G7 hx)) λo o1 o2 vs m o3 hv=>?_;exact Xa ⟨o,o1,o2,m,o3⟩ (fin _ _ (aX e3).symm rfl ⟨rfl,_,rfl,m7 hx',by rw[ag]⟩)
  ·rw[aaA hc]at hx;obtain⟨o,o1,t,u,w,o2⟩:=R0.obj x _ hx;subst o2;rw[bJ,gG,gG]at hz;have z1:=of_decide_eq_true hz.1;have z2:=of_decide_eq_true hz.2;refine wpAny_pyIter_range o1 (small_one (by decide) (by decide) (af0 z1) (afz z2)) (fin _ _ (aX e6).symm rfl ?_);show _=_;rw[rangeSize_one];unfold tZ;simp
 ·obtain rfl:=vO ht;cases va;refine aV (O.isTup R0 hx) λvs ht hv=>?_;exact Xa ht (fin _ _ (aX e3).symm rfl ⟨rfl,_,rfl,rfl⟩)
end
section
variable{W:WS}{C:EC}{U:ES}{Y:Nat->aG}{s:aE}{A:cR}{E:ay->aE->Prop}
theorem BK(its:Array ay)(n:Nat)(f:Array ay->Array ay):∃n',Fv f {cls:=.type "list",data:=.seq its n}={cls:=.type "list",data:=.seq (f its) n'}:=⟨_,rfl⟩
theorem Xo{l:aG}{items:Array ay}{k:Int}{t:Tok}{v:ay}{Q:Unit->aE->Prop}(hl:s.heap.PlainList l items)
  (h0:0<=k) (hfit:k<2 ^ 63) (hn:k<items.size)
  (hQ:∀h',h'.PlainList l (items.setIfInBounds k.toNat v)->pN l s.heap h'->Q () {s with heap:=h'}):
  aC (model W.prog W.w) A (setItem (.ref l) (.int k t) v) Q E s:=by
 obtain⟨ne,ho⟩:=id hl;have hl:=hl.isList;have hd:({cls:=.type "list",data:=.seq items ne}:Obj).data= .seq items ne:=rfl;unfold setItem
 try with_reducible refine gk ?_
 first|refine aF (bu ?_)|skip
 refine aF (Xf hl.typeIs (by decide) ?_);refine aF (Bd (name:=jc "__setitem__") hl.typeIs slot_list_setitem
  (xR slot_list_setitem hl.typeIs entry_list_setitem ?_ (Xg _ _ _)))
 show aC _ _ (KN (.int k t) >>= _) _ _ s;refine aF (wpAny_listSubscript_int (fitsIndex_of h0 hfit) ?_);clear hfit;obtain⟨j,rfl⟩:=Int.eq_ofNat_of_zero_le h0;have hj:j<items.size:=by exact Int.ofNat_lt.mp hn
 have hx':items[j]?=aa items[j]:=Es hj;show aC _ _ ((seqItemAt l j >>= λr=>pure (r.map (j,·))) >>= _) _ _ s;refine aF (aF (wpAny_seqItemAt ho hd (bu ?_)));rw[hx'];show aC _ _ (setSeqItemAt l j v >>= _) _ _ s;obtain⟨n',hd'⟩:=BK items ne (·.setIfInBounds j v);have TJ:(s.heap.update l (Fv (·.setIfInBounds j v))).PlainList l (items.setIfInBounds j v):=
  ⟨n',by rw[tD _ ho (by rw[hd'];rfl),hd']⟩
 refine aF (wpAny_setSeqItemAt ho hd ?_)
 first
  |exact aF (bu (bu ⟨.none,rfl,bu (hQ _ TJ (vB ..))⟩))
  |exact bu ⟨.none,rfl,bu (hQ _ TJ (vB ..))⟩
theorem Ym{l sl b:aG}{xs ys:Array ay}{Q:Unit->aE->Prop}(hl:s.heap.PlainList l xs)(hs:s.heap.IsSliceOf sl .none .none .none)(hb:s.heap.IsList b ys)(hz:xs.size+ys.size<=1000000)
  (hQ:∀h',h'.PlainList l ys->pN l s.heap h'->Q () {s with heap:=h'}):aC (model W.prog W.w) A (setItem (.ref l) (.ref sl) (.ref b)) Q E s:=by
 obtain⟨ne,ho⟩:=id hl;have hl:=hl.isList;have hd:({cls:=.type "list",data:=.seq xs ne}:Obj).data= .seq xs ne:=rfl;refine qk (id hb) λob hob hcb nb hdb=>?_;refine fS (id hs) λos hos hcs hds=>?_;have UB:s.TypeIs (.ref sl) "slice" :=⟨os,hos,hcs⟩;have hTb:s.TypeIs (.ref b) "list" :=⟨ob,hob,hcb⟩;unfold setItem
 try with_reducible refine gk ?_
 first|refine aF (bu ?_)|skip
 refine aF (Xf hl.typeIs (by decide) ?_);refine aF (Bd (name:=jc "__setitem__") hl.typeIs slot_list_setitem
  (xR slot_list_setitem hl.typeIs entry_list_setitem ?_ (Xg _ _ _)))
 show aC _ _ (KN (.ref sl) >>= _) _ _ s;refine aF ?_;unfold KN;refine aF (wpAny_specialOf UB slice_no_index ?_);simp only[Option.isNone_none,if_true];refine bu ?_;show aC _ _ (typeOf (.ref sl) >>= _) _ _ s;refine aF (LX UB ?_);rw[if_neg (by decide)];rw[listSliceParts_eq];refine aF (aF (j9 hos hds (x:=.none) rfl (aF (Lw .none ?_))));rw[if_neg (show¬((rawPart af==rawInt 0)=ah)from nR)];refine aF (j9 hos hds (x:=.none) rfl (aF (Lw .none ?_)));refine aF (j9 hos hds (x:=.none) rfl (aF (Lw .none (bu ?_))));dsimp only;have it:∀{R:Array ay->aE->Prop} {E':ay->aE->Prop},R ys s->aC (model W.prog W.w) A.in1 (Be (.ref b)) R E' s:=λh=>by unfold Be;exact aF (rS hob hdb (bu h))
 have al:∀{R:Array ay->aE->Prop} {E':ay->aE->Prop},R ys s->aC (model W.prog W.w) A.in1 (Ws (.ref b) "must assign iterable to extended slice") R E' s:=λh=>by unfold Ws;refine aF (LX hTb ?_);rw[if_pos (by decide)];exact it h
 have mine:∀{R:Array ay->aE->Prop} {E':ay->aE->Prop},R xs s->aC (model W.prog W.w) A.in1 (Be (.ref l)) R E' s:=λh=>by unfold Be;exact aF (rS ho hd (bu h))
 have e:sliceIndices (rawPart af) (rawPart af) (rawPart af) xs.size=pure (0,(xs.size:Int),1):=sliceIndices_raw af af af xs.size nofun
 split
 ·refine aF (it (aF (mine (aF (tO e ?_)))));dsimp only;rw[if_pos (by decide)];refine aF (yr ?_);rw[if_neg (by simp[Eu,sizeLine];exact cL (cC hz) rfl)];have e1:xs.extract 0 (0:Int).toNat++ys++xs.extract (max 0 (xs.size:Int)).toNat=ys:=by
   have:(max 0 (xs.size:Int)).toNat=xs.size:=by exact RI
   rw[this];simp
  obtain⟨n',hd'⟩:=BK xs ne λxs'=>xs'.extract 0 (0:Int).toNat++ys++xs'.extract (max 0 (xs.size:Int)).toNat;rw[e1]at hd';show aC _ _ (updateSeq l (λxs'=>xs'.extract 0 (0:Int).toNat++ys++xs'.extract (max 0 (xs.size:Int)).toNat) >>= _) _ _ s;refine aF (Lq ho hd ?_ (by rw[gp];exact cL (aT aU (cC hz)) rfl) (by rw[e1,gp];exact QN hz));refine aF (Mg ?_);exact bu ⟨.none,rfl,bu (hQ _ ⟨n',by rw[tD _ ho (by rw[hd'];rfl),hd']⟩ (vB ..))⟩
 ·refine aF (al (aF (mine (aF (tO e ?_)))));dsimp only;rw[if_pos (by decide)];refine aF (yr ?_);rw[if_neg (by simp[Eu,sizeLine];exact cL (cC hz) rfl)];have e1:xs.extract 0 (0:Int).toNat++ys++xs.extract (max 0 (xs.size:Int)).toNat=ys:=by
   have:(max 0 (xs.size:Int)).toNat=xs.size:=by exact RI
   rw[this];simp
  obtain⟨n',hd'⟩:=BK xs ne λxs'=>xs'.extract 0 (0:Int).toNat++ys++xs'.extract (max 0 (xs.size:Int)).toNat;rw[e1]at hd';show aC _ _ (updateSeq l (λxs'=>xs'.extract 0 (0:Int).toNat++ys++xs'.extract (max 0 (xs.size:Int)).toNat) >>= _) _ _ s;refine aF (Lq ho hd ?_ (by rw[gp];exact cL (aT aU (cC hz)) rfl) (by rw[e1,gp];exact QN hz));refine aF (Mg ?_);exact bu ⟨.none,rfl,bu (hQ _ ⟨n',by rw[tD _ ho (by rw[hd'];rfl),hd']⟩ (vB ..))⟩
theorem YX{K:Type} [DecidableEq K]{p:K×ay}{l:List (K×ay)}{k:K}{v:ay}(e:p.1=k)(hn:((p::l).map (·.1)).Nodup):stored (p::l) k v=(p.1,v)::l:=by rw[iw,tM]at hn;unfold stored;rw[if_pos (by simp[e]),iw,if_pos e,map_store_of_not_mem l k v (e▸hn.1)]
theorem XX{K:Type} [DecidableEq K]{p:K×ay}{l:List (K×ay)}{k:K}{v:ay}(e:p.1≠k):stored (p::l) k v=p::stored l k v:=by unfold stored;rw[EX,decide_eq_false e,Bool.false_or,iw,if_neg e];split<;>rfl
set_option tactic.hygienic true in
theorem acp{n:Nat}{a av:AV}{v:ay}{k:AK}{kvs:List (AK×AV)}{ps:List ((Str ⊕ Int)×ay)}{r:List (AK×AV)}(hk:keyOf a=aa k)(h:aO (qj W n Y) kvs ps)(hn:(ps.map (·.1)).Nodup)(hv:VR W n Y av v)(e:putD (ja a) k av kvs=aa r):
  aO (qj W n Y) r (stored ps (k.at W) v):=by
 induction h generalizing r with
 |nil=>(injection e with e;subst e);exact .cons ⟨rfl,hv⟩ .nil
 |@cons p q l m h hl ih=>
  unfold putD at e;split at e
  ·rename_i z
   (injection e with e;subst e)
   have:=vY (W:=W) hk z;rw[YX (by rw[h.1];exact of_decide_eq_true this.symm) hn];exact .cons ⟨h.1,hv⟩ hl
  ·rename_i z
   have:=vY (W:=W) hk z;rw[XX (by rw[h.1];exact of_decide_eq_false this.symm)];cases q2:putD (ja a) k av l with
   |none=>rw[q2]at e;exact aN e
   |some r'=>
    rw[q2]at e
    (injection e with e;subst e)
    rw[iw,tM]at hn;exact .cons h (ih hn.2 q2)
  ·exact aN e
theorem YG{K:Type} [DecidableEq K]{p:K×ay}{l:List (K×ay)}{k:K}(e:p.1=k)(hn:((p::l).map (·.1)).Nodup):without (p::l) k=l:=by rw[iw,tM]at hn;unfold without;rw[tH,if_neg (by simp[e])];exact without_of_not_mem l k (e▸hn.1)
theorem Xz{K:Type} [DecidableEq K]{p:K×ay}{l:List (K×ay)}{k:K}(e:p.1≠k):without (p::l) k=p::without l k:=by unfold without;rw[tH,if_pos (by simp[e])]
set_option tactic.hygienic true in
theorem ack{n:Nat}{a:AV}{k:AK}{kvs:List (AK×AV)}{ps:List ((Str ⊕ Int)×ay)}{r:List (AK×AV)}(hk:keyOf a=aa k)(h:aO (qj W n Y) kvs ps)(hn:(ps.map (·.1)).Nodup)(e:delD (ja a) kvs=aa r):
  aO (qj W n Y) r (without ps (k.at W)):=by
 induction h generalizing r with
 |nil=>(injection e with e;subst e);exact .nil
 |@cons p q l m h hl ih=>
  unfold delD at e;split at e
  ·rename_i z
   (injection e with e;subst e)
   have:=vY (W:=W) hk z;rw[YG (by rw[h.1];exact of_decide_eq_true this.symm) hn];exact hl
  ·rename_i z
   have:=vY (W:=W) hk z;rw[Xz (by rw[h.1];exact of_decide_eq_false this.symm)];cases q2:delD (ja a) l with
   |none=>rw[q2]at e;exact aN e
   |some r'=>
    rw[q2]at e
    (injection e with e;subst e)
    rw[iw,tM]at hn;exact .cons h (ih hn.2 q2)
  ·exact aN e
set_option tactic.hygienic true in
theorem Rel.putL(R0:Rel W U.st Y s){x:Nat}{xs ys:List AV}{vs:Array ay}{h':cy}{t:Nat}(hx:U.get x=aa (.list xs))(hb:pN (Y x) s.heap h')(hl:h'.PlainList (Y x) vs)(hv:aO (VR W U.next Y) ys vs.toList):
  Rel W (U.put x (.list ys)).st Y {s with heap:=h',toks:=t}/\Ext W U.st Y s.heap (U.put x (.list ys)).st Y h':=by
 obtain⟨m,h1⟩:=hl;exact R0.nL hx hb h1 (λ_ _ _=>Nq rfl) ⟨vs,m,rfl,hv⟩
set_option tactic.hygienic true in
theorem Rel.Pg(R0:Rel W U.st Y s){x k:Nat}{i:Int}{o:AO}{vs:Array ay}{h':cy}{t:Nat}(hx:U.get x=aa o)(hi:isNs o=ak)(hb:pN (Y x) s.heap h')(hl:h'.PlainList (Y x) vs)(hv:aO (VR W U.next Y) (nU k (.int (.lit i))) vs.toList):
  Rel W (U.put x (.rep k i)).st Y {s with heap:=h',toks:=t}/\Ext W U.st Y s.heap (U.put x (.rep k i)).st Y h':=by
 obtain⟨m,h1⟩:=hl;exact R0.nL hx hb h1 (λ_ _ _=>Nq rfl) ⟨vs,m,rfl,hv⟩ (λz=>absurd z (by rw[hi];exact nR))
set_option tactic.hygienic true in
theorem Rel.GL(R0:Rel W U.st Y s){x:Nat}{kvs kvs':List (AK×AV)}{ps:List ((Str ⊕ Int)×ay)}{h':cy}{t:Nat}(hx:U.get x=aa (.dict kvs))(hb:pN (Y x) s.heap h')(hl:h'.DictOf (su W.prog W.w) (Y x) ps)(hv:aO (qj W U.next Y) kvs' ps):
  Rel W (U.put x (.dict kvs')).st Y {s with heap:=h',toks:=t}/\Ext W U.st Y s.heap (U.put x (.dict kvs')).st Y h':=by
 refine aV (Heap.dictOf_iff.mp hl) λr h1 h2=>?_;refine fE (id h2) λes ep h3 h4 _=>?_;exact R0.nL hx hb h1 (λ_ _ _ vs q=>by rw[h4]at q;contradiction) ⟨ps,h2,hv⟩
theorem Xu{o i a:AV}{v w u:ay}{Q:Unit->aE->Prop}{σ':ES}(R0:Rel W U.st Y s)(va:VR W U.next Y o v)(vb:VR W U.next Y i w)(vc:VR W U.next Y a u)(e:tW o i a U=aa σ')
  (h:∀s',Rel W σ'.st Y s'->Ext W U.st Y s.heap σ'.st Y s'.heap->Q () s'):aC (model W.prog W.w) A (setItem v w u) Q E s:=by
 refine oE e λx hx e0=>?_;clear e;obtain rfl:=kh hx;obtain⟨_,rfl⟩:=va;refine oS (P:=(· =aa σ')) e0 (λxs hx e1=>?_) λ_ e1=>?_<;>clear e0
 ·have hx:=jM hx;refine aV (R0.isPlain hx) λvs hl hv=>?_;have Vs:=hv.size;refine oS (P:=(· =aa σ')) e1 (λn hn e2=>?_) λ_ e2=>?_<;>clear e1
  ·obtain rfl:=qT hn;refine oE e2 λk hk e3=>bE e3 λhz e4=>?_;clear e2 e3;obtain rfl:=yK hk;obtain⟨t,rfl⟩:=vb;obtain rfl:=aX e4;rw[bJ,kY]at hz;have z1:=of_decide_eq_true hz.1;have z2:=iB hz.2;refine Xo hl (EO _) (by show((k:Nat):Int)<2 ^ 63;exact aip z1 z2) (by show((k:Nat):Int)<(vs.size:Nat);exact aeQ Vs z1) λh' hl' hb=>?_;obtain⟨R1,X1⟩:=R0.putL (t:=s.toks) (ys:=xs.set k a) hx hb hl' (by rw[Array.toList_setIfInBounds];exact hv.set vc k);exact h _ R1 X1
  ·refine oE e2 λy hy e3=>oE e3 λp hp e4=>bE e4 λhn e5=>oE e5 λz hz e6=>oE e6 λys hys e7=>bE e7 λhf e8=>?_;clear e2 e3 e4 e5 e6 e7;obtain rfl:=kh hy;obtain rfl:=kh hz;obtain⟨_,rfl⟩:=vb;obtain⟨_,rfl⟩:=vc;obtain rfl:=aX e8;rw[bJ]at hn;have hf:=iB hf;refine aV (R0.isList (jM hys)) λws hl2 hw=>?_;refine fE (R0.isSlice (PU hp)) λp' q' hs h1 h2=>?_;rw[yy hn.1]at h1;rw[yy hn.2]at h2;cases h1;cases h2;have e2:=hw.size;refine Ym hl hs hl2 (ajv Vs hf e2) λh' hl' hb=>?_;obtain⟨R1,X1⟩:=R0.putL (t:=s.toks) hx hb hl' hw;exact h _ R1 X1
 ·refine oE e1 λkvs hx e2=>oE e2 λk hk e3=>bE e3 λhf e4=>?_;clear e1 e2 e3;have hx:=qZ hx;refine aV (R0.isDict hx) λps h1 h2=>?_;have hf:=iB hf;obtain⟨r,q,rfl⟩:=Option.map_eq_some_iff.mp e4;have e1:=h2.length;refine MM (id h1) λ_ _ _ _ _ _ _ _ hn=>?_;refine wpAny_setItem_pairs (Gp hk vb) h1 (λh' hd hb=>?_) (by rw[gp];exact cL (aT (ao e1) (cC hf)) rfl);obtain⟨R1,X1⟩:=R0.GL (t:=s.toks+1) hx hb hd (acp hk h2 hn vc q);exact h _ R1 X1
end
structure Okb(W:WS)(C:EC):Prop extends Oka W C where
 own:∀K,C.fC K=ah->plainGet W.K K "__class__" =ah/\hasDictIn W.K K=ah/\findIn W.K (.ref K) "__class__" =aa (aa (.builtin "object.__class__"))/\
  specialIn W.K (.builtin "object.__class__") "__get__" =aa (aa (.builtin "getset_descriptor.__get__"))/\takesIn W.K (.builtin "object.__class__")=aa ah/\mroIn W.K K (.type "object")=aa ah
 TX:∀K' K b,C.sub K' K=aa b->kitOne W.K (.ref K') (.ref K)=aa b
 zQ:∀K,C.zA K=ah->kitOne W.K (.type "NoneType") (.ref K)=aa ak/\kitOne W.K (.type "bool") (.ref K)=aa ak/\kitOne W.K (.type "int") (.ref K)=aa ak/\kitOne W.K (.type "str") (.ref K)=aa ak
 DE:∀K,C.fC K=ah->kitOne W.K (.ref K) (.type "bool")=aa ak/\kitOne W.K (.ref K) (.type "int")=aa ak/\kitOne W.K (.ref K) (.type "str")=aa ak
 mP:∀T,T= "NoneType" \/T= "bool" \/T= "int" \/T= "str" ->∀ak7,ak7= "bool" \/ak7= "int" \/ak7= "str" ->kitOne W.K (.type T) (.type ak7)=aa (T==ak7||(T== "bool" &&ak7== "int"))
section
variable{W:WS}{C:EC}{U:ES}{Y:Nat->aG}{s:aE}{A:cR}{Q:ay->aE->Prop}{E:ay->aE->Prop}
theorem BL{a:AV}{v:ay}{t:Bool}{Q:Bool->aE->Prop}{n:Nat}(va:VR W n Y a v)(e:mE a=aa t)(h:Q t s):aC (model W.prog W.w) A (truthy v) Q E s:=by refine bS (P:=(· =aa t)) e (λha e=>Ab ha va (truthy_none (sR e (P:=λt=>Q t s) h))) λ_ e=>vBool e va (Lg h)
noncomputable def nT(k:Nat):String:=match k with
 |0=> "NoneType"
 |1=> "bool"
 |2=> "int"
 |_=> "str"
@[elab_as_elim] theorem Ae{n:Nat}{P:Nat->Prop}(h:(aH n 3||aH n 4||aH n 8)=ah)(h3:P 3)(h4:P 4)(h8:P 8):P n:=by
 rcases Bool.or_eq_true_iff.mp h with h|h
 ·rcases Bool.or_eq_true_iff.mp h with h|h
  ·rw[cG h];exact h3
  ·rw[cG h];exact h4
 ·rw[cG h];exact h8
@[elab_as_elim] theorem Qx{a:AV}{k:Nat}{P:Nat->Prop}(h:wz a=aa k)(h0:P 0)(h1:P 1)(h2:P 2)(h3:P 3):P k:=by
 cases a with
 |none=>cases h;exact h0
 |bool _=>cases h;exact h1
 |int _=>cases h;exact h2
 |str _=>cases h;exact h3
 |_=>exact aN h
theorem OI{a:AV}{k n:Nat}{v:ay}{b:String}(h:wz a=aa k)(va:VR W n Y a v):v≠ .builtin b:=λq=>by
 subst q;cases a with
 |none=>exact nomatch va
 |bool _=>exact nomatch va
 |int _=>obtain⟨_,q⟩:=va;exact nomatch q
 |str _=>obtain⟨_,q⟩:=va;exact nomatch q
 |_=>exact aN h
theorem M1{a:AV}{k n:Nat}{v:ay}(h:wz a=aa k)(va:VR W n Y a v):KitX W.K v (.type (nT k)) (λ_=>True):=by
 cases a with
 |none=>rw[show v= .none from va];exact sI h kitx_none
 |bool b=>rw[show v= .bool b from va];exact sI h kitx_bool
 |int i=>obtain⟨t,rfl⟩:=va;exact sI h kitx_int
 |str l=>obtain⟨t,rfl⟩:=va;exact sI h kitx_str
 |_=>exact aN h
theorem acQ(O:Okb W C){a:AV}{k n:Nat}(h:wz a=aa k)(hn:(aH n 3||aH n 4||aH n 8)=ah):kitOne W.K (.type (nT k)) (.type (Az n))=aa (Vj k n):=by
 refine Qx h ?_ ?_ ?_ ?_
 ·exact Ae hn (O.mP _ (.inl rfl) _ (.inl rfl)) (O.mP _ (.inl rfl) _ (.inr (.inl rfl))) (O.mP _ (.inl rfl) _ (.inr (.inr rfl)))
 ·exact Ae hn (O.mP _ (.inr (.inl rfl)) _ (.inl rfl)) (O.mP _ (.inr (.inl rfl)) _ (.inr (.inl rfl))) (O.mP _ (.inr (.inl rfl)) _ (.inr (.inr rfl)))
 ·exact Ae hn (O.mP _ (.inr (.inr (.inl rfl))) _ (.inl rfl)) (O.mP _ (.inr (.inr (.inl rfl))) _ (.inr (.inl rfl))) (O.mP _ (.inr (.inr (.inl rfl))) _ (.inr (.inr rfl)))
 ·exact Ae hn (O.mP _ (.inr (.inr (.inr rfl))) _ (.inl rfl)) (O.mP _ (.inr (.inr (.inr rfl))) _ (.inr (.inl rfl))) (O.mP _ (.inr (.inr (.inr rfl))) _ (.inr (.inr rfl)))
theorem Nd(O:Okb W C){a:AV}{v:ay}{K:aG}(R0:Rel W U.st Y s)(va:VR W U.next Y a v)(h:G8 C a U=aa K):C.fC K=ah/\(v≠ .builtin "__main__.__loader__#opaque")/\∃ala,KitX W.K v (.ref K) ala/\ala s.heap:=
 oE h λx hx e=>oE e λp hp e=>oE e λkvs hd e=>bE e λq e=>oB hx va (sI e ⟨q,nofun,dB (R0.inst (GS hp) (kQ hd)) λox od IA _=>GX (O.own p.1 q) λo1 o2 o3 o4 o5 o6=>⟨_,kitx_own o1 o2 o3 o4 o5 o6,IA⟩⟩)
theorem XC(O:Okb W C){a c:AV}{v w:ay}{b:Bool}(R0:Rel W U.st Y s)(va:VR W U.next Y a v)(vc:VR W U.next Y c w)(e:Od C a c U=aa b)(h:∀t,Q (.bool b) {s with toks:=t}):
  aC (model W.prog W.w) A (call (.builtin "isinstance") [v,w]) Q E s:=by
 have X:=R0.X O.toOk;refine oS (P:=(· =aa b)) e (λn hn e=>bE e λhb e=>AA hn vc ?_) λ_ e=>oE e λK hK e=>ru hK vc ?_
 ·refine oS (P:=(· =aa b)) e (λk hk e=>kia_one (M1 hk va) X trivial ((acQ O hk hb).trans e) (OI hk va) h) λ_ e=>?_;revert h;refine oM e λK hi h=>?_;obtain⟨hK,hv,ala,Z,hH⟩:=Nd O R0 va hi;exact kia_one Z X hH (Ae hb (O.DE K hK).1 (O.DE K hK).2.1 (O.DE K hK).2.2) hv h
 ·refine oS (P:=(· =aa b)) e (λk hk e=>bE e λq e=>kia_one (M1 hk va) X trivial (Eq.trans ?_ e) (OI hk va) h) λ_ e=>oE e λK' hi e=>?_
  ·refine Qx hk ?_ ?_ ?_ ?_
   ·exact(O.zQ K q).1
   ·exact(O.zQ K q).2.1
   ·exact(O.zQ K q).2.2.1
   ·exact(O.zQ K q).2.2.2
  ·obtain⟨hK,hv,ala,Z,hH⟩:=Nd O R0 va hi;exact kia_one Z X hH (O.TX K' K b e) hv h
set_option tactic.hygienic true in
theorem NC{i:Int}{l:List Nat}(h:C5 i=aa l):((toString i:String):Str)=strOf l/\0<=i/\i<10:=by
 unfold C5 at h;split at h
 ·rename_i n
  split at h
  ·rename_i q
   (injection h with h;subst h)
   rw[kY]at q;have q:=of_decide_eq_true q;refine⟨?_,EO _,by show(n:Int)<10;exact Int.lt_toNat.mp q⟩
   match n,q with
   |0,_=>decide
   |1,_=>decide
   |2,_=>decide
   |3,_=>decide
   |4,_=>decide
   |5,_=>decide
   |6,_=>decide
   |7,_=>decide
   |8,_=>decide
   |9,_=>decide
  ·exact aN h
 ·exact aN h
theorem E8{l b:aG}{xs ys:Array ay}{Q:ay->aE->Prop}(hl:s.heap.PlainList l xs)(hb:s.heap.IsList b ys)(hz:xs.size+ys.size<=1000000)
  (hQ:∀h',h'.PlainList l (xs++ys)->pN l s.heap h'->Q .none {s with heap:=h'}):aC (model W.prog W.w) A (call (.builtin "list.extend") [.ref l,.ref b]) Q E s:=by
 obtain⟨ne,ho⟩:=id hl;have hl:=hl.isList;have hd:({cls:=.type "list",data:=.seq xs ne}:Obj).data= .seq xs ne:=rfl;refine qk (id hb) λob hob hcb nb hdb=>?_;have hTb:s.TypeIs (.ref b) "list" :=⟨ob,hob,hcb⟩;refine xR Wu hl.typeIs PySem.F.entry_list_extend ?_ (PySem.F.args_list_extend_2 _ _);show aC _ _ (Wn (.ref l) (.ref b) .none) _ _ s;unfold Wn;refine aF (LX hTb ?_);rw[if_pos (by simp)];refine aF ?_;unfold Be;refine aF (rS hob hdb (bu ?_));refine aF ?_;refine aF (rS ho hd (bu ?_));rw[if_neg (by simp[Eu,sizeLine];omega)];obtain⟨n',hd'⟩:=BK xs ne (· ++ys);show aC _ _ (updateSeq l (· ++ys) >>= λ_=>ret .none) _ _ s;refine aF (Lq ho hd ?_ (by rw[gp];exact cL (aT aU (cC hz)) rfl) (by rw[Array.size_append,gp];exact akw hz));exact bu ⟨.none,rfl,hQ _ ⟨n',by rw[tD _ ho (by rw[hd'];rfl),hd']⟩ (vB ..)⟩
theorem aO.erase{I H:Type}{R:I->H->Prop}{l:List I}{m:List H}(h:aO R l m):∀k,aO R (l.eraseIdx k) (m.eraseIdx k):=by
 induction h with
 |nil=>exact λ_=>.nil
 |cons h t ih=>
  intro k;cases k with
  |zero=>exact t
  |succ k=>exact .cons h (ih k)
set_option tactic.hygienic true in
theorem XQ(vs:Array ay)(k:Nat):(vs.eraseIdxIfInBounds k).toList=vs.toList.eraseIdx k:=by
 rw[Array.eraseIdxIfInBounds_eq];split
 ·rw[Array.toList_eraseIdx]
 ·rename_i h
  rw[List.eraseIdx_of_length_le];rw[EA];exact tG h
theorem NW{x k:Nat}{xs:List AV}{vs:Array ay}{r:AV×ES}(R0:Rel W U.st Y s)(hx:U.get x=aa (.list xs))(hl:s.heap.PlainList (Y x) vs)(hv:aO (VR W U.next Y) xs vs.toList)(e:uI x xs k U=aa r)(h:PR W U.st Y s.heap (VO W) Q E (dH r)):
  ∃y,vs[k]?=aa y/\vs.size<=1000000/\Q y {s with heap:=s.heap.update (Y x) (Fv λxs=>xs.eraseIdxIfInBounds k)}:=by
 refine bE e λhf e=>?_;revert h;refine oM e λv hk h=>aV (hv.get hk) λy hy vy=>?_;have hsz:=hv.size;rw[Bh]at hy;refine⟨y,hy,by have:=iB hf;exact cL (aT (ao hsz) (cC this)) rfl,?_⟩;obtain⟨n,ho⟩:=hl;obtain⟨R1,X1⟩:=R0.putL (t:=s.toks) (ys:=xs.eraseIdx k) hx (vB (f:=Fv λxs=>xs.eraseIdxIfInBounds k) ..) (vs:=vs.eraseIdxIfInBounds k) ⟨_,by rw[tD _ ho (by rfl)];rfl⟩ (by rw[XQ];exact hv.erase k);exact h _ _ _ R1 X1 ⟨_,rfl,vy⟩
set_option tactic.hygienic true in
theorem aas{x:Nat}{xs:List AV}{vs:Array ay}(R0:Rel W U.st Y s)(hx:U.get x=aa (.list xs))(hl:s.heap.PlainList (Y x) vs)(hv:aO (VR W U.next Y) xs vs.toList){r:AV×ES}(e:uI x xs (xs.length- 1) U=aa r)(h:PR W U.st Y s.heap (VO W) Q E (dH r)):
  aC (model W.prog W.w) A (call (.builtin "list.pop") [.ref (Y x)]) Q E s:=by
 refine fS (NW R0 hx hl hv e h) λy h1 h2 h3=>?_;rw[hv.size]at h1 h3;obtain⟨n,ho⟩:=hl;exact Ft KW ⟨_,ho,rfl⟩ Wz (PySem.F.args_list_pop_1 _) (PySem.MeetsSeq.list_pop_last _ vs n y h1 (by rw[gp];exact cL (cC h2) rfl)) ⟨ho,h3⟩
set_option tactic.hygienic true in
theorem Z6{x:Nat}{xs:List AV}{vs:Array ay}{t:Tok}(R0:Rel W U.st Y s)(hx:U.get x=aa (.list xs))(hl:s.heap.PlainList (Y x) vs)(hv:aO (VR W U.next Y) xs vs.toList){r:AV×ES}(e:uI x xs 0 U=aa r)(h:PR W U.st Y s.heap (VO W) Q E (dH r)):
  aC (model W.prog W.w) A (call (.builtin "list.pop") [.ref (Y x),.int ((AI.lit (gU 0)).at W) t]) Q E s:=by
 refine fS (NW R0 hx hl hv e h) λy h1 h2 h3=>?_;obtain⟨n,ho⟩:=hl;exact Ft KW ⟨_,ho,rfl⟩ Wz (PySem.F.args_list_pop_2 _ _) (PySem.MeetsSeq.list_pop_at _ vs n 0 t 0 y (by decide) (by
  unfold seqIndex?;have:0<vs.size:=by
   rcases Nat.eq_zero_or_pos vs.size with q|q
   ·rw[KU (cL (xB q) rfl)]at h1;exact aN h1
   ·exact q
  simp[this]) h1 (by rw[gp];exact cL (cC h2) rfl)) ⟨ho,h3⟩
section
variable{x:Nat}{xs as:List AV}{vs:List ay}{kvs:List (AK×AV)}{r:AV×ES}
theorem YO(R0:Rel W U.st Y s)(hx:U.get x=aa (.list xs))(va:aO (VR W U.next Y) as vs)(e:Ur x xs as U=aa r)(h:PR W U.st Y s.heap (VO W) Q E (dH r)):aC (model W.prog W.w) A (call (.builtin "list.append") (.ref (Y x)::vs)) Q E s:=by refine oE e λa ha e=>aO.l1 ha va λv va=>bE e λhf e=>aV (R0.isPlain hx) λys hl hv=>?_;have hf:=iB hf;refine Wv hl (λh' hl' hb=>?_) (by rw[gp];exact cL (aT (ao hv.size) (cC hf)) rfl);obtain⟨R1,X1⟩:=R0.putL (t:=s.toks) (ys:=xs++[a]) hx hb hl' (by rw[Lf];exact hv.append (.cons va .nil));exact uR e h _ _ _ R1 X1 ⟨_,rfl,rfl⟩
theorem Y0(R0:Rel W U.st Y s)(hx:U.get x=aa (.list xs))(va:aO (VR W U.next Y) as vs)(e:Tn x xs as U=aa r)(h:PR W U.st Y s.heap (VO W) Q E (dH r)):aC (model W.prog W.w) A (call (.builtin "list.extend") (.ref (Y x)::vs)) Q E s:=by
 refine oE e λa ha e=>aO.l1 ha va λv va=>oE e λy hy e=>oB hy va (aV (R0.isPlain hx) λys hl hv=>?_);have e1:=hv.size;refine oS (P:=(· =aa r)) e (λzs hz e=>bE e λhf e=>aV (R0.isList (jM hz)) λws hl2 hw=>?_) λ_ e=>oE e λp hp e=>bE e λhf e2=>fS (R0.ur (CO hp)) λws hl2 _ hw=>?_
 ·have hf:=iB hf;have e2:=hw.size;refine E8 hl hl2 (SE e1 hf e2) λh' hl' hb=>?_;obtain⟨R1,X1⟩:=R0.putL (t:=s.toks) (ys:=xs++zs) hx hb hl' (by rw[xM];exact hv.append hw);exact uR e h _ _ _ R1 X1 ⟨_,rfl,rfl⟩
 ·rw[bJ]at hf;have hn:xs=[]:=List.isEmpty_iff.mp hf.1;rw[hn]at hx e1 hv;have hf:=iB hf.2;have e5:=hw.size;rw[xJ]at e5;have e0:ys.size=0:=by rw[<-e1];rfl
  refine E8 hl hl2 (ah2 hf e5 e0) λh' hl' hb=>?_;obtain⟨R1,X1⟩:=R0.Pg (t:=s.toks) (k:=p.1) (i:=p.2) hx rfl hb hl' (by rw[xM];exact hv.append hw);exact uR e2 h _ _ _ R1 X1 ⟨_,rfl,rfl⟩
theorem YS(R0:Rel W U.st Y s)(hx:U.get x=aa (.list xs))(va:aO (VR W U.next Y) as vs)(e:RZ x xs as U=aa r)(h:PR W U.st Y s.heap (VO W) Q E (dH r)):aC (model W.prog W.w) A (call (.builtin "list.pop") (.ref (Y x)::vs)) Q E s:=by
 refine aV (R0.isPlain hx) λys hl hv=>bS (P:=(· =aa r)) e (λhn e=>?_) λ_ e=>oE e λa ha e=>aO.l1 ha va λv va=>oE e λi hi e=>bE e λq e=>uE hi va λt=>?_
 ·have hn:as=[]:=List.isEmpty_iff.mp hn;subst hn;cases va;exact aas R0 hx hl hv e h
 ·rw[kq]at q;rw[of_decide_eq_true q];exact Z6 R0 hx hl hv e h
theorem YU{k:Nat}{i:Int}(R0:Rel W U.st Y s)(hx:U.get x=aa (.rep k i))(va:aO (VR W U.next Y) as vs)(e:Sn x k i as U=aa r)(h:PR W U.st Y s.heap (VO W) Q E (dH r)):aC (model W.prog W.w) A (call (.builtin "list.extend") (.ref (Y x)::vs)) Q E s:=by refine oE e λa ha e=>aO.l1 ha va λv va=>oE e λy hy e=>oB hy va (oE e λp hp e=>bE e λhf e=>fS (R0.ur hx) λys _ hl hv=>fS (R0.ur (CO hp)) λws hl2 _ hw=>?_);rw[bJ,kq]at hf;have e1:=hv.size;rw[xJ]at e1;have q1:=iB hf.1;have e2:=hw.size;rw[xJ]at e2;rw[<-of_decide_eq_true hf.2]at hw;refine E8 hl hl2 (SE e1 q1 e2) λh' hl' hb=>?_;obtain⟨R1,X1⟩:=R0.Pg (t:=s.toks) (k:=sE (k+p.1)) (i:=i) hx rfl hb hl' (by rw[xM,OB,<-Wl];exact hv.append hw);exact uR e h _ _ _ R1 X1 ⟨_,rfl,rfl⟩
theorem Y8(O:Okc W C)(R0:Rel W U.st Y s)(hx:U.get x=aa (.dict kvs))(va:aO (VR W U.next Y) as vs)(e:getM kvs as U=aa r)(h:PR W U.st Y s.heap (VO W) Q E (dH r)):aC (model W.prog W.w) A (call (.builtin "dict.get") (.ref (Y x)::vs)) Q E s:=by
 refine oE e λa ha e=>aO.l1 ha va λv va=>?_;revert h;refine oM e λq hf h=>aV (R0.isDict hx) λps hd hv=>fS (Gq hv va hf) λk k1 k2 k3=>?_;refine E4 Ey hd.typeIs WA (PySem.F.args_dict_get_2 _ _) (meets_dict_get _ _ k2 (R0.yW O hx)) ⟨_,hd.mapOf,?_⟩;rcases k3 with⟨u,w,rfl,z1,z2⟩|⟨rfl,z1⟩
 ·rw[z1];exact h Y _ _ (R0.tok _) .refl ⟨_,rfl,z2⟩
 ·rw[z1];exact h Y _ _ (R0.tok _) .refl ⟨_,rfl,rfl⟩
theorem MB{n:Nat}{a:AV}{k:AK}{v:ay}(hk:keyOf a=aa k)(hv:VR W n Y a v):(keyPart v).isSome=ah:=by cases a<;>first|exact aN hk|(obtain⟨t,rfl⟩:=hv;rfl)
theorem YZ(O:Okc W C)(R0:Rel W U.st Y s)(hx:U.get x=aa (.dict kvs))(va:aO (VR W U.next Y) as vs)(e:Th x kvs as U=aa r)(h:PR W U.st Y s.heap (VO W) Q E (dH r)):aC (model W.prog W.w) A (call (.builtin "dict.pop") (.ref (Y x)::vs)) Q E s:=by
 refine oE e λp hp e=>aO.l2 hp va λv w va vb=>oE e λq hf e=>bE e λhz e=>aV (R0.isDict hx) λps hd hv=>fS (Gq hv va hf) λk k1 k2 k3=>?_;have hz:=iB hz;have hsz:ps.length<=sizeLine:=by rw[gp];exact cL (aT (ao hv.length) (cC hz)) rfl
 rcases k3 with⟨u,w,rfl,z1,z2⟩|⟨rfl,z1⟩
 ·revert h;refine oM e λl hl h=>MM (id hd) λ_ _ _ _ _ _ _ _ hn=>?_;refine E4 KY hd.typeIs WB (Ww _ _ _) (meets_dict_pop_there _ _ k2 [_] (.inr ⟨_,rfl⟩) (MB k1 va)) ⟨ps,w,hd,hsz,z1,λh' hd' hb=>?_⟩;obtain⟨R1,X1⟩:=R0.GL (t:=s.toks+1) hx hb hd' (ack k1 hv hn hl);exact h _ _ _ R1 X1 ⟨_,rfl,z2⟩
 ·exact E4 KY hd.typeIs WB (Ww _ _ _) (meets_dict_pop_default _ _ k2 (R0.yW O hx) (MB k1 va) _) ⟨ps,hd,z1,uR e h Y _ _ (R0.tok _) .refl ⟨_,rfl,vb⟩⟩
end
theorem YW(O:Okc W C){x m:Nat}{l:Bool}{as:List AV}{vs:List ay}(R0:Rel W U.st Y s)(va:aO (VR W U.next Y) as vs)
  (h:PR W U.st Y s.heap (VO W) Q E (bz (Dh l x m as U) dH)):aC (model W.prog W.w) A (call (.builtin (Kl l m)) (.ref (Y x)::vs)) Q E s:=by
 refine bZ h λr e h1=>?_;clear h;cases l with
 |true=>
  refine oE e λo ho e=>bE e λhd e=>oS (P:=(· =aa r)) e (λxs hx e=>?_) λ_ e=>oS (P:=(· =aa r)) e (λp hp e=>?_) λ_ e=>oE e λkvs hk _=>?_
  ·rw[vL hx]at ho;refine bS (P:=(· =aa r)) e (λq e=>?_) λq e=>bS (P:=(· =aa r)) e (λq' e=>?_) λq' e=>bE e λq3 e=>?_
   ·rw[cG q];exact YO R0 ho va e h1
   ·rw[cG q'];exact Y0 R0 ho va e h1
   ·rw[cG q3];exact YS R0 ho va e h1
  ·rw[Cq hp]at ho;refine bE e λq e=>?_;rw[cG q];exact YU R0 ho va e h1
  ·rw[hk]at hd;exact cB hd
 |false=>
  refine oE e λkvs hk e=>bS (P:=(· =aa r)) e (λq e=>?_) λq e=>bE e λq e=>?_
  ·rw[cG q];exact Y8 O R0 (qZ hk) va e h1
  ·rw[cG q];exact YZ O R0 (qZ hk) va e h1
end
section
variable{W:WS}{C:EC}{U:ES}{Y:Nat->aG}{s:aE}{A:cR}{Q:ay->aE->Prop}{E:ay->aE->Prop}
theorem Rel.IE(R:Rel W U.st Y s){o:AO}{r:Obj}{D:aG}{h':cy}{t:Nat}(hk:∀b o,s.heap.get? b=aa o->h'.get? b=aa o)(hn:s.heap.get? D=af)(hD:h'.get? D=aa r)(hr:OR W (U.next+1) (dK Y U.next D) o r):
  Rel W (U.add o).2.st (dK Y U.next D) {s with heap:=h',toks:=t}/\Ext W U.st Y s.heap (U.add o).2.st (dK Y U.next D) h'/\VR W (U.add o).2.next (dK Y U.next D) (.ref (U.add o).1) (.ref D):=by
 have v:VR W (U.add o).2.next (dK Y U.next D) (.ref (U.add o).1) (.ref D):=by rw[ES.add_eq];exact⟨EL _,by rw[mw]⟩
 have old:∀x o,U.get x=aa o->dK Y U.next D x=Y x:=λx o h=>dw x (R.lt x o h)
 have ne:∀x o,U.get x=aa o->Y x≠D:=λx o h z=>by refine aV (R.obj x o h) λr h1 _=>?_;rw[z,hn]at h1;exact aN h1
 have base:W.h0_.get? D=af:=by
  cases q:W.h0_.get? D with
  |none=>rfl
  |some p=>have:=R.base _ _ q;rw[hn]at this;exact aN this
 rcases MO U R.lt o with h|h
 ·rw[h];refine⟨⟨λb p e=>hk _ _ (R.base b p e),λx p e=>?_,λx p e=>?_,λx y p q ex ey z=>?_,λx p e=>?_,R.gens,R.os⟩,⟨iA _,dw,λx p e=>⟨p,by rw[St.OE (R.lt x p e)];exact e,id⟩,λx p e=>?_,λ_ _ e _ _=>hk _ _ e,λ_ o e _ _=>⟨o.slots,hk _ _ e⟩,λ_ _ e=>⟨_,hk _ _ e,λx=>x⟩⟩,v⟩
  ·rcases St.add_get e with⟨rfl,rfl⟩|⟨hx,e⟩
   ·exact⟨r,by rw[show dK Y U.next D U.st.next=D from mw];exact hD,hr⟩
   ·refine aV (R.obj x p e) λr' h1 h2=>?_;exact⟨r',by rw[old x p e];exact hk _ _ h1,h2.mono (iA _) dw⟩
  ·rcases St.add_get e with⟨rfl,rfl⟩|⟨hx,e⟩
   ·rw[show dK Y U.next D U.st.next=D from mw];exact base
   ·rw[old x p e];exact R.new x p e
  ·rcases St.add_get ex with⟨hx,_⟩|⟨_,ex'⟩<;>rcases St.add_get ey with⟨hy,_⟩|⟨_,rJ⟩
   ·rw[hx,hy]
   ·rw[hx,show dK Y U.next D U.st.next=D from mw,old y q rJ]at z;exact absurd z.symm (ne y q rJ)
   ·rw[hy,show dK Y U.next D U.st.next=D from mw,old x p ex']at z;exact absurd z (ne x p ex')
   ·rw[old x p ex',old y q rJ]at z;exact R.inj x y p q ex' rJ z
  ·rcases St.add_get e with⟨rfl,rfl⟩|⟨hx,e⟩
   ·exact EL _
   ·exact m7 (R.lt x p e)
  ·rcases St.add_get e with⟨rfl,rfl⟩|⟨hx,e⟩
   ·exact .inr (by rw[show dK Y U.next D U.st.next=D from mw];exact hn)
   ·exact .inl ⟨p,e⟩
 ·rw[h];refine⟨⟨λb p e=>hk _ _ (R.base b p e),λx p e=>?_,λx p e=>?_,λx y p q ex ey z=>?_,λx p e=>m7 (R.lt x p e),R.gens,R.os⟩,⟨iA _,dw,λx p e=>⟨p,e,id⟩,λx p e=>.inl ⟨p,e⟩,λ_ _ e _ _=>hk _ _ e,λ_ o e _ _=>⟨o.slots,hk _ _ e⟩,λ_ _ e=>⟨_,hk _ _ e,λx=>x⟩⟩,v⟩
  ·refine aV (R.obj x p e) λr' h1 h2=>?_;exact⟨r',by rw[old x p e];exact hk _ _ h1,h2.mono (iA _) dw⟩
  ·rw[old x p e];exact R.new x p e
  ·rw[old x p ex,old y q ey]at z;exact R.inj x y p q ex ey z
theorem M5{o:AO}{r:Obj}{D:aG}{h':cy}{t:Nat}(R0:Rel W U.st Y s)(h:PR W U.st Y s.heap (VO W) Q E (dH (.ref (U.add o).1,(U.add o).2)))(hk:∀b o,s.heap.get? b=aa o->h'.get? b=aa o)(hn:s.heap.get? D=af)(hD:h'.get? D=aa r)
  (ho:OR W (U.next+1) (dK Y U.next D) o r):Q (.ref D) {s with heap:=h',toks:=t}:=by
 refine cU (R0.IE (t:=t) hk hn hD ho) λR1 X1 V1=>?_;exact h _ _ _ R1 X1 ⟨_,rfl,V1⟩
theorem yJ{t:Nat}{a:AV}{v:ay}(R0:Rel W U.st Y s)(h:PR W U.st Y s.heap (VO W) Q E (dH (a,U)))(e:VR W U.next Y a v):Q v {s with toks:=t}:=h Y _ _ (R0.tok _) .refl ⟨_,rfl,e⟩
theorem MP{t:Nat}{h':cy}{a:AV}{v:ay}(R0:Rel W U.st Y s)(h:PR W U.st Y s.heap (VO W) Q E (dH (a,U)))(hk:∀b o,s.heap.get? b=aa o->h'.get? b=aa o)(e:VR W U.next Y a v):Q v {s with heap:=h',toks:=t}:=by obtain⟨R1,X1⟩:=R0.grow (t:=t) hk;exact h Y _ _ R1 X1 ⟨_,rfl,e⟩
section
variable{as:List AV}{vs:List ay}{r:AV×ES}
theorem Yi(R0:Rel W U.st Y s)(va:aO (VR W U.next Y) as vs)(e:Rc as U=aa r)(h:PR W U.st Y s.heap (VO W) Q E (dH r)):aC (model W.prog W.w) A (call (.builtin "abs") vs) Q E s:=by
 refine oE e λa ha e=>aO.l1 ha va λv va=>?_;revert h;refine oM e λi hi h=>uE hi va λt=>call_abs_int λu tk=>yJ R0 h ⟨u,?_⟩;have e:(if i<0 then-i else i)=fq i.natAbs:=by rw[iK];split<;>(first|exact ahA (by assumption)|exact ahz (by assumption))
 exact congrArg (λz=>yw z u) e
theorem Xx(O:Okb W C)(R0:Rel W U.st Y s)(va:aO (VR W U.next Y) as vs)(e:PO C as U=aa r)(h:PR W U.st Y s.heap (VO W) Q E (dH r)):aC (model W.prog W.w) A (call (.builtin "isinstance") vs) Q E s:=by refine oE e λp hp e=>aO.l2 hp va λv w va vb=>?_;revert h;exact oM e λb hb h=>XC O R0 va vb hb λt=>yJ R0 h rfl
theorem Gk{l:aG}{ys:Array ay}{k n:Nat}(R0:Rel W U.st Y s)(hl:s.heap.IsList l ys)(e:k=ys.size)(q:zJ k=aa n)(h:PR W U.st Y s.heap (VO W) Q E (dH (.int (.lit (fq n)),U))):aC (model W.prog W.w) A (call (.builtin "len") [.ref l]) Q E s:=by
 obtain⟨hf,rfl⟩:=aaq q;have hf:=iB hf;have e2:((ys.size:Nat):Int)=fq (n:Nat):=by rw[iK,e]
 exact call_len_list hl (aeM hf e) (yJ R0 h ⟨s.toks+1,congrArg (λz=>yw z (s.toks+1)) e2⟩)
theorem Yu(O:Okb W C)(R0:Rel W U.st Y s)(va:aO (VR W U.next Y) as vs)(e:RQ C as U=aa r)(h:PR W U.st Y s.heap (VO W) Q E (dH r)):aC (model W.prog W.w) A (call (.builtin "len") vs) Q E s:=by refine oE e λa ha e=>aO.l1 ha va λv va=>?_;revert h;refine oM e λn hn h=>oS (P:=(· =aa n)) hn (λx hx e=>oB hx va ?_) λ_ e=>oE e λt ht e=>ru ht va (oE e λxs hl e=>aV (O.HS R0 hl) λys hl hv=>Gk R0 hl hv.size e h);refine oS (P:=(· =aa n)) e (λxs hl e=>aV (R0.isList (jM hl)) λys hl hv=>Gk R0 hl hv.size e h) λ_ e=>oE e λp hp e=>fS (R0.ur (CO hp)) λys hl _ hv=>Gk R0 hl ?_ e h;have:=hv.size;rw[xJ]at this;exact this
theorem Yz(R0:Rel W U.st Y s)(hh:A.handled=af)(va:aO (VR W U.next Y) as vs)(e:RM as U=aa r)(h:PR W U.st Y s.heap (VO W) Q E (dH r)):aC (model W.prog W.w) A (call (.builtin "max") vs) Q E s:=by
 refine oE e λp hp e=>aO.l2 hp va λv w va vb=>oE e λi hi e=>oE e λj hj e=>vInt hi va λt=>vInt hj vb λu=>?_;revert h;refine oM e λb hb h=>?_;have:=Gv (W:=W) hb;refine max_two_ints hh λh' tk hk=>MP R0 h hk ?_;cases b with
 |true=>rw[if_pos (of_decide_eq_true this.symm)];exact⟨_,rfl⟩
 |false=>rw[if_neg (of_decide_eq_false this.symm)];exact⟨_,rfl⟩
theorem Yb(R0:Rel W U.st Y s)(hh:A.handled=af)(va:aO (VR W U.next Y) as vs)(e:Rd as U=aa r)(h:PR W U.st Y s.heap (VO W) Q E (dH r)):aC (model W.prog W.w) A (call (.builtin "min") vs) Q E s:=by
 refine oE e λp hp e=>aO.l2 hp va λv w va vb=>oE e λi hi e=>oE e λj hj e=>vInt hi va λt=>vInt hj vb λu=>?_;revert h;refine oM e λb hb h=>?_;have:=Gv (W:=W) hb;refine min_two_ints hh λh' tk hk=>MP R0 h hk ?_;cases b with
 |true=>rw[if_pos (of_decide_eq_true this.symm)];exact⟨_,rfl⟩
 |false=>rw[if_neg (of_decide_eq_false this.symm)];exact⟨_,rfl⟩
theorem XY(R0:Rel W U.st Y s)(va:aO (VR W U.next Y) as vs)(e:Qo as U=aa r)(h:PR W U.st Y s.heap (VO W) Q E (dH r)):aC (model W.prog W.w) A (call (.type "int") vs) Q E s:=by refine oE e λa ha e=>aO.l1 ha va λv va=>?_;revert h;refine oM e λb hb h=>vBool hb va (call_int_bool (yJ R0 h ⟨s.toks,?_⟩));cases b<;>rfl
theorem θ{n:Nat}{ρ':Nat->aG}{kvs:List (AK×AV)}{ps:List ((Str ⊕ Int)×ay)}(h1:aO (qj W U.next Y) kvs ps):∀{l:List ay},l.length=ps.length->(∀(i:Nat) (v:ay),l[i]?=aa v->∃k x,ps[i]?=aa (k,x)/\(su W.prog W.w).is k v=ah)->aO (VR W n ρ') (QV kvs) l:=by
 induction h1 with
 |nil=>intro l e _;cases l with
  |nil=>exact .nil
  |cons _ _=>contradiction
 |@cons p q r r' hp _ ih=>
  intro l e hi;cases l with
  |nil=>contradiction
  |cons v l=>
   refine .cons ?_ (ih (qO e) λi v hv=>hi (i+1) v hv);refine dB (hi 0 v rfl) λk x e1 e2=>?_;have e1:=congrArg Prod.fst (aX e1);obtain⟨pk,pv⟩:=p;have e3:q.1=pk.at W:=hp.1;rw[<-show q.1=k from e1,e3]at e2;cases pk with
   |str l=>obtain⟨t,rfl⟩:=K8 e2;exact⟨t,rfl⟩
   |int i=>obtain⟨t,rfl⟩:=Le e2;exact⟨t,rfl⟩
theorem NN{o:AO}{n:Nat}(h:zS o n U=aa r):n<=1000000/\r=(.ref (U.add o).1,(U.add o).2):=bE h λq e=>⟨iB q,(aX e).symm⟩
theorem MH{x n:Nat}{o:AO}{xs:List AV}{ys:Array ay}{m:Nat}(R0:Rel W U.st Y s)(hg:s.heap.get? (Y x)=aa {cls:=.type "list",dict:=af,data:=.seq ys m,slots:= #[]})(hv:aO (VR W U.next Y) xs ys.toList)(hn:n=xs.length)
  (ho:∀{n Y r},(∃vs m,r={cls:=.type "list",dict:=af,data:=.seq vs m,slots:= #[]}/\aO (VR W n Y) xs vs.toList)->OR W n Y o r) (e:zS o n U=aa r) (h:PR W U.st Y s.heap (VO W) Q E (dH r)):aC (model W.prog W.w) A (call (.type "list") [.ref (Y x)]) Q E s:=by
 obtain⟨hf,rfl⟩:=NN e;rw[hn,hv.size]at hf;exact call_list_seq (Y x) (.inl rfl) hg rfl rfl (λh' c' hk hD=>M5 (t:=s.toks) R0 h hk B5 hD (ho ⟨_,_,rfl,hv.mono λ_ _=>VR.mono (iA _) dw⟩)) (by rw[gp];exact cL (cC hf) rfl)
theorem XN(O:Okb W C)(R0:Rel W U.st Y s)(hh:A.handled=af)(va:aO (VR W U.next Y) as vs)(e:G4 as U=aa r)(h:PR W U.st Y s.heap (VO W) Q E (dH r)):aC (model W.prog W.w) A (call (.type "list") vs) Q E s:=by
 refine oE e λa ha e=>aO.l1 ha va λv va=>oE e λx hx e=>oB hx va ?_;refine oS (P:=(· =aa r)) e (λxs hl e=>qX (R0.obj x _ (jM hl)) λo h1 ys m h3 hv=>?_) λ_ e=>oS (P:=(· =aa r)) e (λp hp e=>qX (R0.obj x _ (CO hp)) λo h1 ys m h3 hv=>?_) λ_ e=>oE e λkvs hk e=>?_
 ·rw[h3]at h1;exact MH R0 h1 hv rfl id e h
 ·rw[h3]at h1;exact MH R0 h1 hv (xJ ..).symm id e h
 ·refine aV (R0.isDict (qZ hk)) λps hd hv=>?_;obtain⟨ep,hd'⟩:=hd.dictAt;obtain⟨hf,rfl⟩:=NN e;rw[hv.length]at hf;refine kdl_call (kdl_dict (knd:=su W.prog W.w) (ep:=ep) (kvs:=ps) (R0.yW O.toOkc (qZ hk))) hh hd' (by rw[gp];exact cL (cC hf) rfl) λh' tk acc' c' hk hD hacc=>M5 (t:=tk) R0 h hk B5 hD ⟨_,_,rfl,?_⟩;exact θ hv (by rw[EA];exact hacc.1) λi v e=>hacc.2 i v (by rw[<-Bh];exact e)
theorem Xs(R0:Rel W U.st Y s)(va:aO (VR W U.next Y) as vs)(e:Gu as U=aa r)(h:PR W U.st Y s.heap (VO W) Q E (dH r)):aC (model W.prog W.w) A (call (.type "range") vs) Q E s:=by refine oE e λa ha e=>aO.l1 ha va λv va=>oE e λi hi e=>uE hi va λt=>bE e λ_ e=>call_range_1 ?_;refine cU (R0.IE (o:=.lY i) (t:=s.toks+1+1) (h':=s.heap.push {cls:=.type "range",data:=.fields #[.int 0 s.toks,.int (AI.at W (.lit i)) t,.int 1 (s.toks+1)]}) (λb o e=>jo _ e) B5 (Bk _ rfl) ⟨_,_,_,rfl⟩) λR1 X1 V1=>?_;exact uR e h _ _ _ R1 X1 ⟨_,rfl,V1⟩
theorem Ys(R0:Rel W U.st Y s)(va:aO (VR W U.next Y) as vs)(e:Rl as U=aa r)(h:PR W U.st Y s.heap (VO W) Q E (dH r)):aC (model W.prog W.w) A (call (.type "str") vs) Q E s:=by
 refine oE e λa ha e=>aO.l1 ha va λv va=>oE e λi hi e=>uE hi va λt=>?_;revert h;refine oM e λl hs h=>cU (NC hs) λe1 e2 e3=>PySem.P.str_of_int ?_ ?_
 ·show i.natAbs.log2<1920;have:i.natAbs<10:=by exact(Wi e2 e3:_)
  exact pG (Nat.log2_le_self _) (kH (eX this) rfl)
 ·show Q (.str ((toString i:String):Str) s.toks) _;rw[e1];exact yJ R0 h ⟨_,rfl⟩
theorem XT(R0:Rel W U.st Y s)(va:aO (VR W U.next Y) as vs)
  (Kz:∀{x:Nat} {a:AV} {q:aG×Option Nat×Nat×Option Nat} {av:ay},C.isExc q.1=ah->U.get x=aa (.exc q.1 q.2.1 q.2.2.1 q.2.2.2)->VR W U.next Y a av->PR W U.st Y s.heap (VO W) Q E (dH (DM x q a U))->aC (model W.prog W.w) A (call (.builtin "ValueError.__init__") [.ref (Y x),av]) Q E s)
  (e:Q2 C as U=aa r) (h:PR W U.st Y s.heap (VO W) Q E (dH r)):aC (model W.prog W.w) A (call (.builtin "ValueError.__init__") vs) Q E s:=
 oE e λp hp e=>aO.l2 hp va λv w va vb=>oE e λx hx e=>oB hx va (oE e λq hq e=>bE e λhK e=>Kz hK (r9 hq) vb (uR e h))
theorem qB{b:Bool}{x y:Option (AV×ES)}{G:Prop}(h:cond b x y=aa r)(k1:b=ah->x=aa r->G)(k2:y=aa r->G):G:=bS (P:=(· =aa r)) h k1 λ_=>k2
theorem XI(O:Okb W C){f:AV}{fv:ay}(R0:Rel W U.st Y s)(hh:A.handled=af)(vf:VR W U.next Y f fv)(va:aO (VR W U.next Y) as vs)
  (Kz:∀{x:Nat} {a:AV} {q:aG×Option Nat×Nat×Option Nat} {av:ay},C.isExc q.1=ah->U.get x=aa (.exc q.1 q.2.1 q.2.2.1 q.2.2.2)->VR W U.next Y a av->PR W U.st Y s.heap (VO W) Q E (dH (DM x q a U))->aC (model W.prog W.w) A (call (.builtin "ValueError.__init__") [.ref (Y x),av]) Q E s)
  (h:PR W U.st Y s.heap (VO W) Q E (bz (nj C f as U) dH)):aC (model W.prog W.w) A (call fv vs) Q E s:=by
 refine bZ h λr e h=>oS (P:=(· =aa r)) e (λk hk e=>J1 hk vf ?_) λ_ e=>oE e λk hk e=>AA hk vf ?_
 ·refine qB e (λq e=>?_) λe=>qB e (λq e=>?_) λe=>qB e (λq e=>?_) λe=>qB e (λq e=>?_) λe=>qB e (λq e=>?_) λe=>bE e λq e=>?_
  ·rw[cG q];exact Yi R0 va e h
  ·rw[cG q];exact Xx O R0 va e h
  ·rw[cG q];exact Yu O R0 va e h
  ·rw[cG q];exact Yz R0 hh va e h
  ·rw[cG q];exact Yb R0 hh va e h
  ·rw[cG q];exact XT R0 va Kz e h
 ·refine qB e (λq e=>?_) λe=>qB e (λq e=>?_) λe=>qB e (λq e=>?_) λe=>bE e λq e=>?_
  ·rw[cG q];exact XY R0 va e h
  ·rw[cG q];exact XN O R0 hh va e h
  ·rw[cG q];exact Xs R0 va e h
  ·rw[cG q];exact Ys R0 va e h
end
end
structure Okd(W:WS)(C:EC)(g:Nat->Option AV):Prop extends Okb W C where
 glob:∃mg mb,W.h0_.Ns eY mg/\W.h0_.Ns eK mb/\∀k a,g k=aa a->(∃v,mg (nm k)=aa v/\VG W a v)\/(mg (nm k)=af/\∃v,mb (nm k)=aa v/\VG W a v)
 may:∀a,C.may a=ah->keepIn W.K (.ref a)=ah
structure aZ(W:WS)(C:EC)(d:Nat)(A:cR)(sc:cu)(cx:CX)(env:Env)(U:ES)(Y:Nat->aG)(s:aE):Prop where
 R:Rel W U.st Y s
 N:jg W U.next Y sc cx env
 F:eu W d A U.st Y s.heap
 T:∀tb,C.tabOf cx.code=aa tb->tb<U.next/\env.qual=W.qual cx.code/\∃c,env.code= .ref c/\CodeHd W.h0_ c (Y tb)
noncomputable def iF(A:cR)(env:Env):Prop:=∃l,A.frames=aa (env::l)
section
variable{W:WS}{C:EC}{g:Nat->Option AV}{d:Nat}{A:cR}{sc:cu}{cx:CX}{env:Env}{U U1_:ES}{Y cF:Nat->aG}{s s1_:aE}{Q:ay->aE->Prop}{E:ay->aE->Prop}
theorem aZ.ext(S:aZ W C d A sc cx env U Y s)(R:Rel W U1_.st cF s1_)(X:Ext W U.st Y s.heap U1_.st cF s1_.heap):aZ W C d A sc cx env U1_ cF s1_:=
 ⟨R,S.N.mono X.le X.ag,S.F.ext X S.R.lt,λtb e=>let ⟨a,b,c,h1,h2⟩:=S.T tb e;⟨dm a X.le,b,c,h1,by rw[X.ag tb a];exact h2⟩⟩
theorem Ext.vr{h h':cy}(X:Ext W U.st Y h U1_.st cF h'){a:AV}{v:ay}(v1:VR W U.next Y a v):VR W U1_.next cF a v:=VR.mono X.le X.ag v1
theorem PR.cA{h:cy}{r:R Out}(p:PR W U.st Y h (VR W) Q E (cA r)):PR W U.st Y h (VO W) Q E r:=by
 induction r with
 |ok o σ'=>
  cases o with
  |v a=>exact λρ' s' b R' X' ⟨a',e,v⟩=>by cases e;exact p ρ' s' b R' X' v
  |b _=>exact p.elim
  |f _=>exact p.elim
  |u=>exact p.elim
 |exc x σ'=>exact p
 |alt a b dh dj=>exact⟨dh p.1,dj p.2⟩
 |stuck=>exact p
noncomputable def UZ(n:Nat)(Y:Nat->aG)(o:Bool)(b:Bool):Prop:=o=b
theorem PR.sJ{h:cy}{r:R Out}{Q:Bool->aE->Prop}(p:PR W U.st Y h UZ Q E (sJ r)):PR W U.st Y h VB Q E r:=by
 induction r with
 |ok o σ'=>
  cases o with
  |b a=>exact λρ' s' b R' X' e=>by cases e;exact p ρ' s' _ R' X' rfl
  |v _=>exact p.elim
  |f _=>exact p.elim
  |u=>exact p.elim
 |exc x σ'=>exact p
 |alt a b dh dj=>exact⟨dh p.1,dj p.2⟩
 |stuck=>exact p
theorem PR.jk{h:cy}{r:R Out}{Q:gA->aE->Prop}(p:PR W U.st Y h (gM W) Q E (jk r)):PR W U.st Y h (VF W) Q E r:=by
 induction r with
 |ok o σ'=>
  cases o with
  |f a=>exact λρ' s' b R' X' ⟨a',e,v⟩=>by cases e;exact p ρ' s' b R' X' v
  |b _=>exact p.elim
  |v _=>exact p.elim
  |u=>exact p.elim
 |exc x σ'=>exact p
 |alt a b dh dj=>exact⟨dh p.1,dj p.2⟩
 |stuck=>exact p
theorem PR.gP{I H:Type}{V:Nat->(Nat->aG)->I->H->Prop}{h:cy}{r:R I}{Q:H->aE->Prop}{E E':ay->aE->Prop}(p:PR W U.st Y h V Q E (gP r)):PR W U.st Y h V Q E' r:=by
 induction r with
 |ok o σ'=>exact p
 |exc x σ'=>exact p.elim
 |alt a b dh dj=>exact⟨dh p.1,dj p.2⟩
 |stuck=>exact p
structure bL(W:WS)(C:EC)(g:Nat->Option AV)(ih:Ev):Prop where
 e:∀{d cx sc c f ast env A U Y s Q E},cE g f sc ast=aa c->aZ W C d A sc cx env U Y s->PR W U.st Y s.heap (VO W) Q E (ih d (.e cx c) U)->aC (model W.prog W.w) A (eval ast env) Q E s
 t:∀{d cx sc c f ast env A U Y s Q E},cE g f sc ast=aa c->aZ W C d A sc cx env U Y s->PR W U.st Y s.heap VB Q E (ih d (.t cx c) U)->aC (model W.prog W.w) A (isTrue ast env (eval ast env)) Q E s
 s:∀{d cx sc c f l env A U Y s Q E},bB (cS g f sc) l=aa c->aZ W C d A sc cx env U Y s->iF A env->PR W U.st Y s.heap (VF W) Q E (ih d (.s cx c) U)->aC (model W.prog W.w) A (execs l env) Q E s
 dS:∀{d cx sc z b f test body env A U Y s} {Q:gA->aE->Prop} {E},cE g f sc test=aa z->bB (cS g f sc) body=aa b->aZ W C d A sc cx env U Y s->iF A env->PR W U.st Y s.heap (VF W) Q E (ih d (.dS cx z b) U)->
  fj (model W.prog W.w) A (.whileLoop test body [] env) (λr s'=>match r with| .ok f=>Q f s'| .error e=>E e s') s
 eF:∀{d cx sc t b f id px body env A U Y s it} {Q:gA->aE->Prop} {E},cT g f sc (.Name id px)=aa t->bB (cS g f sc) body=aa b->aZ W C d A sc cx env U Y s->iF A env->it<U.next->PR W U.st Y s.heap (VF W) Q E (ih d (.eF cx t it b) U)->
  fj (model W.prog W.w) A (.forLoop (.Name id px) (.ref (Y it)) body [] env) (λr s'=>match r with| .ok f=>Q f s'| .error e=>E e s') s
 comp:∀{d cx sc elt tgt own test f ie it iN ifs t px pos A env U Y s acc te} {Q:aE->Prop},cE g f sc ie=aa elt->codeN t=aa tgt->sc.names.lookup t=aa (cond own .cell .local)->cOpt (cE g f sc) te=aa test->te.toList=ifs->aZ W C d A sc cx env U Y s->
  it<U.next->acc<U.next->PR W U.st Y s.heap (λ_ _ o (_:Unit)=>o=Out.u) (λ_=>Q) (λ_ _=>False) (ih d (.comp cx elt tgt own it test acc) U)->
  ∀{sc':cu},fj (model W.prog W.w) A (.compLoop (.ListComp ie [⟨.Name t px,iN,ifs,0⟩] sc' pos) 0 (.ref (Y it)) (.ref (Y acc)) env) (λr s'=>(∃f,r= .ok f)/\Q s') s
 zE:∀{d a fi as vs A U Y s Q E},C.fn a=aa fi->Rel W U.st Y s->eu W d A U.st Y s.heap->aO (VR W U.next Y) as vs->PR W U.st Y s.heap (VO W) Q E (ih d (.call (.adr a) as) U)->fj (model W.prog W.w) A (.call (.ref a) ⟨vs,[]⟩) (om Q E) s
 call:∀{d fv as v vs A U Y s Q E},Rel W U.st Y s->eu W d A U.st Y s.heap->VR W U.next Y fv v->aO (VR W U.next Y) as vs->PR W U.st Y s.heap (VO W) Q E (ih d (.call fv as) U)->aC (model W.prog W.w) A (call v vs) Q E s
variable{ih:Ev}{f:Nat}
theorem bL.v(N:bL W C g ih){c:CE}{ast:aS}(hc:cE g f sc ast=aa c)(S:aZ W C d A sc cx env U Y s)(h:PR W U.st Y s.heap (VR W) Q E (bw ih d cx c U)):aC (model W.prog W.w) A (eval ast env) Q E s:=N.e hc S h.cA
theorem bL.b(N:bL W C g ih){c:CE}{ast:aS}{Q:Bool->aE->Prop}(hc:cE g f sc ast=aa c)(S:aZ W C d A sc cx env U Y s)(h:PR W U.st Y s.heap UZ Q E (fK ih d cx c U)):aC (model W.prog W.w) A (isTrue ast env (eval ast env)) Q E s:=N.t hc S h.sJ
theorem afT(O:Okd W C g){k:Nat}{a:AV}{id:Str}{pos:Pos}(S:aZ W C d A sc cx env U Y s)(hc:codeN id=aa k)(hk:sc.names.lookup id=aa .globalImplicit)(hg:g k=aa a)
  (h:PR W U.st Y s.heap (VO W) Q E (eS a U)):aC (model W.prog W.w) A (eval (.Name id pos) env) Q E s:=by
 refine cU (mz hc) λhn hd _=>?_;refine fE O.glob λmg mb g1 g2 g3=>?_;have kd:env.kindOf id=aa .globalImplicit:=by
  rcases S.N.kinds id with q|⟨q1,q2⟩
  ·rw[q,hk]
  ·rw[hk]at q2;contradiction
 refine Name_function_global S.N.kind kd ?_ hd;have G1:s.heap.Ns env.globals mg:=by rw[S.N.gl];exact g1.keeps S.R.base
 have G2:s.heap.Ns env.builtins mb:=by rw[S.N.bi];exact g2.keeps S.R.base
 rcases g3 k a hg with⟨v,v1,v2⟩|⟨v0,v,v1,v2⟩
 ·exact loadGlobal_global G1 (by rw[<-hn];exact v1) (val_back S.R h v2.vr)
 ·exact loadGlobal_builtin G1 (by rw[<-hn];exact v0) G2 (by rw[<-hn];exact v1) (val_back S.R h v2.vr)
theorem adK(O:Okd W C g){c:CE}{id:Str}{pos:Pos}(S:aZ W C d A sc cx env U Y s)(hc:Q0 g sc id=aa c)(h:PR W U.st Y s.heap (VO W) Q E (zg C ih d cx c U)):aC (model W.prog W.w) A (eval (.Name id pos) env) Q E s:=by
 refine oE hc λk hk e=>?_;cases hl:sc.names.lookup id with
 |none=>rw[hl]at e;exact aN e
 |some t=>
  rw[hl]at e;revert h;cases t with
  | «local» =>exact sI e (agY S.R S.N hk hl)
  |cell=>exact sI e (Rn S.R S.N hk (.inl hl))
  |free=>exact sI e (Rn S.R S.N hk (.inr hl))
  |globalExplicit=>exact aN e
  |globalImplicit=>exact oM e λa hg=>afT O S hk hl hg
theorem abU{c:CE}{k:Const}{kd:Nat}{pos:Pos}(S:aZ W C d A sc cx env U Y s)
  (hc:(match k with| .none=>aa CE.none| .bool b=>aa (CE.tt b)| .int i=>aa (CE.int i)| .str s=>aa (CE.str s.cps.toList)|_=>af)=aa c)
  (h:PR W U.st Y s.heap (VO W) Q E (zg C ih d cx c U)):aC (model W.prog W.w) A (eval (.Constant k kd pos) env) Q E s:=by
 cases k with
 |none=>obtain rfl:=aX hc;exact Constant_none (val_back S.R h rfl)
 |bool b=>obtain rfl:=aX hc;exact Constant_bool (val_back S.R h rfl)
 |int i=>obtain rfl:=aX hc;exact wpAny_Constant_int (tV S.R h rfl)
 |str x=>obtain rfl:=aX hc;refine Constant_str (h Y _ _ (S.R.tok _) .refl ⟨_,rfl,s.toks,?_⟩);show Value.str x _= .str (strOf x.cps.toList) _;unfold strOf;rw[Array.toArray_toList]
 |_=>exact aN hc
theorem Qn(N:bL W C g ih){a b:CE}{x y r:aS}{l:List aS}{pos:Pos}{f':Nat}(S:aZ W C d A sc cx env U Y s)(ha:cE g f sc x=aa a)(hb:cE g f' sc r=aa b)
  (he:eval (.BoolOp .And (y::l) pos) env=eval r env) (h:PR W U.st Y s.heap (VO W) Q E (Ra ih d cx a b U)):aC (model W.prog W.w) A (eval (.BoolOp .And (x::y::l) pos) env) Q E s:=by
 refine BoolOp_and (N.v ha S (PR.then S.R h λv σ1 bF s1 b1 R1 X1 V1 h1=>?_));cases ht:mE v with
 |none=>rw[ht]at h1;exact h1.elim
 |some t=>
  rw[ht]at h1;refine BL V1 ht ?_;cases t with
  |true=>rw[if_pos rfl,he];exact N.e hb (S.ext R1 X1) h1
  |false=>rw[if_neg (by decide)];exact val_back R1 h1 V1
theorem TL(N:bL W C g ih){a b:CE}{x y r:aS}{l:List aS}{pos:Pos}{f':Nat}(S:aZ W C d A sc cx env U Y s)(ha:cE g f sc x=aa a)(hb:cE g f' sc r=aa b)
  (he:eval (.BoolOp .Or (y::l) pos) env=eval r env) (h:PR W U.st Y s.heap (VO W) Q E (Tq ih d cx a b U)):aC (model W.prog W.w) A (eval (.BoolOp .Or (x::y::l) pos) env) Q E s:=by
 refine BoolOp_or (N.v ha S (PR.then S.R h λv σ1 bF s1 b1 R1 X1 V1 h1=>?_));cases ht:mE v with
 |none=>rw[ht]at h1;exact h1.elim
 |some t=>
  rw[ht]at h1;refine BL V1 ht ?_;cases t with
  |false=>rw[if_neg (by decide),he];exact N.e hb (S.ext R1 X1) h1
  |true=>rw[if_pos rfl];exact val_back R1 h1 V1
theorem agz(N:bL W C g ih){a:CE}{x:aS}{pos:Pos}(S:aZ W C d A sc cx env U Y s)(ha:cE g f sc x=aa a)(h:PR W U.st Y s.heap (VO W) Q E (QH ih d cx a U)):aC (model W.prog W.w) A (eval (.UnaryOp .Not x pos) env) Q E s:=by
 refine UnaryOp_ (N.v ha S (PR.then S.R h λv σ1 bF s1 b1 R1 X1 V1 h1=>?_));cases ht:mE v with
 |none=>rw[ht]at h1;exact h1.elim
 |some t=>rw[ht]at h1;exact not_of (BL V1 ht (val_back R1 h1 rfl))
theorem agH(N:bL W C g ih){a:CE}{x:aS}{pos:Pos}(S:aZ W C d A sc cx env U Y s)(ha:cE g f sc x=aa a)(h:PR W U.st Y s.heap (VO W) Q E (Rj ih d cx a U)):aC (model W.prog W.w) A (eval (.UnaryOp .USub x pos) env) Q E s:=by refine UnaryOp_ (N.v ha S (PR.then S.R h λv σ1 bF s1 b1 R1 X1 V1 h1=>?_));refine bZ h1 λr e h2=>?_;revert h2;exact oM e λi hi h2=>uE hi V1 λt=>PySem.P.neg_int (tV R1 h2 (by simp only[AI.at,iK]))
theorem agK(N:bL W C g ih){a b:CE}{x y:aS}{o:jI}{pos:Pos}(S:aZ W C d A sc cx env U Y s)(ha:cE g f sc x=aa a)(hb:cE g f sc y=aa b)(h:PR W U.st Y s.heap (VO W) Q E (RJ ih d cx o a b U)):
  aC (model W.prog W.w) A (eval (.BinOp x o y pos) env) Q E s:=
 wpAny_BinOp (N.v ha S (PR.then S.R h λv σ1 bF s1 b1 R1 X1 V1 h1=>N.v hb (S.ext R1 X1) (PR.then R1 h1 λw σ2 bU s2 b2 R2 X2 V2 h2=>YT R2 (X2.vr V1) V2 h2)))
theorem agF(N:bL W C g ih){z a b:CE}{t x y:aS}{pos:Pos}(S:aZ W C d A sc cx env U Y s)(hz:cE g f sc t=aa z)(ha:cE g f sc x=aa a)(hb:cE g f sc y=aa b)(h:PR W U.st Y s.heap (VO W) Q E (Q9 ih d cx z a b U)):
  aC (model W.prog W.w) A (eval (.IfExp t x y pos) env) Q E s:=by
 refine IfExp_ (N.b hz S (PR.then S.R h λv σ1 bF s1 b1 R1 X1 V1 h1=>?_));obtain rfl:v=b1:=V1;cases v with
 |true=>exact N.e ha (S.ext R1 X1) h1
 |false=>exact N.e hb (S.ext R1 X1) h1
theorem NU{o:lO}{y:aS}{b:CE}(h:cE g f sc y=aa b):behindInMarks o y=ak:=by
 cases y<;>first|rfl|skip
 cases f<;>(exact aN h)
theorem afJ(O:Okd W C g)(N:bL W C g ih){a b:CE}{x y:aS}{o:lO}{pos:Pos}(S:aZ W C d A sc cx env U Y s)(ha:cE g f sc x=aa a)(hb:cE g f sc y=aa b)(h:PR W U.st Y s.heap (VO W) Q E (QK C ih d cx a o b U)):
  aC (model W.prog W.w) A (eval (.Compare x [o] [y] pos) env) Q E s:=by
 refine wpAny_Compare1 (N.v ha S (PR.then S.R h λv σ1 bF s1 b1 R1 X1 V1 h1=>N.v hb (S.ext R1 X1) (PR.then R1 h1 λw σ2 bU s2 b2 R2 X2 V2 h2=>?_))) (NU hb);cases q:jv C o v w σ2 with
 |none=>rw[q]at h2;exact h2.elim
 |some r=>rw[q]at h2;exact Fz O.toOkc R2 (X2.vr V1) V2 q (by have:=S.F.hu;exact cX (aT aU (bD this)) rfl) λt=>h2 bU _ _ (R2.tok _) .refl ⟨_,rfl,rfl⟩
theorem vU{y:aS}{b:CE}{rest:List aS}(h:cE g f sc y=aa b):starEach (y::rest) env=(ak,eval y env)::starEach rest env:=by
 cases y<;>first|rfl|skip
 cases f<;>(exact aN h)
theorem qR{I H:Type}{k:I->Option H}{a:I}{l:List I}{r:List H}(h:bB k (a::l)=aa r):∃b m,k a=aa b/\bB k l=aa m/\r=b::m:=pZ h λb m h1 h2=>⟨b,m,h1,h2,rfl⟩
theorem yL{I H γ:Type}{k:I->H->γ}{a:Option I}{b:Option H}{c:γ}(h:two k a b=aa c):∃x y,a=aa x/\b=aa y/\c=k x y:=ju h λx y h1 h2=>⟨x,y,h1,h2,rfl⟩
theorem wg(N:bL W C g ih){pos:Pos}{Q:List ay->aE->Prop}:∀{es:List aS} {cs:List CE} {U:ES} {Y:Nat->aG} {s:aE},bB (cE g f sc) es=aa cs->aZ W C d A sc cx env U Y s->
  PR W U.st Y s.heap (λn Y as vs=>aO (VR W n Y) as vs) Q E (ia ih d cx cs U)->aC (model W.prog W.w) A (spliced (backTo pos (starEach es env))) Q E s:=by
 intro es;induction es generalizing Q with
 |nil=>intro cs U Y s hc S h;obtain rfl:=aX hc;exact spliced_nil (PR.here S.R h .nil)
 |cons e es ihl=>intro cs U Y s hc S h;revert h;refine pZ hc λb m h1 h2 h=>?_;rw[vU h1];refine E5 (N.v h1 S (PR.then S.R h λv σ1 bF s1 b1 R1 X1 V1 k1=>?_));refine ihl h2 (S.ext R1 X1) (PR.then R1 k1 λw σ2 bU s2 b2 R2 X2 V2 k2=>?_);exact PR.here R2 k2 (.cons (X2.vr V1) V2)
theorem Mk{o:AO}{n:Nat}{r:Obj}(R0:Rel W U.st Y s)(h:PR W U.st Y s.heap (VO W) Q E (ze o n U))(hf:r.isFreed=ak)(ho:OR W (U.next+1) (dK Y U.next s.heap.objs.size) o r):
  n<=1000000/\Q (.ref s.heap.objs.size) {s with heap:=s.heap.push r}:=jA h λq h=>⟨iB q,Gf R0 h hf ho⟩
theorem ZF(N:bL W C g ih){es:List aS}{cs:List CE}{pos:Pos}(S:aZ W C d A sc cx env U Y s)(hc:bB (cE g f sc) es=aa cs)(h:PR W U.st Y s.heap (VO W) Q E (PY ih d cx cs U)):aC (model W.prog W.w) A (eval (.List es pos) env) Q E s:=by refine List_ (wg N hc S (PR.then S.R h λv σ1 bF s1 b1 R1 X1 V1 h1=>?_));obtain⟨z,q⟩:=Mk (r:={cls:=.type "list",data:=.seq b1.toArray}) R1 h1 rfl ⟨_,_,rfl,V1.mono λ_ _=>VR.mono (iA _) dw⟩;exact wpAny_newList q (by rw[<-V1.length,gp];exact cL (cC z) rfl)
theorem abH(N:bL W C g ih){es:List aS}{cs:List CE}{k:Nat}{pos:Pos}(S:aZ W C d A sc cx env U Y s)(hc:bB (cE g f sc) es=aa cs)(h:PR W U.st Y s.heap (VO W) Q E (Qw ih d cx cs U)):aC (model W.prog W.w) A (eval (.Tuple es k pos) env) Q E s:=by refine Tuple_ (wg N hc S (PR.then S.R h λv σ1 bF s1 b1 R1 X1 V1 h1=>?_));obtain⟨z,q⟩:=Mk (r:={cls:=.type "tuple",data:=.seq b1.toArray}) R1 h1 rfl ⟨rfl,_,_,rfl,V1.mono λ_ _=>VR.mono (iA _) dw⟩;exact wpAny_newTuple q (by rw[<-V1.length,gp];exact cL (cC z) rfl)
theorem Qi(N:bL W C g ih){e:Option aS}{c:Option CE}(S:aZ W C d A sc cx env U Y s)(hc:cOpt (cE g f sc) e=aa c)(h:PR W U.st Y s.heap (VR W) Q E (HL ih d cx c U)):aC (model W.prog W.w) A (valueOrNone (evalOpt e env)) Q E s:=by
 cases e with
 |none=>obtain rfl:=aX hc;exact bu (PR.here S.R h rfl)
 |some x=>revert h;exact oM hc λb q h=>N.v q S h
theorem abv(N:bL W C g ih){l u:Option aS}{lc uc:Option CE}{pos:Pos}(S:aZ W C d A sc cx env U Y s)(hl:cOpt (cE g f sc) l=aa lc)(hu:cOpt (cE g f sc) u=aa uc)(h:PR W U.st Y s.heap (VO W) Q E (Oz ih d cx lc uc U)):
  aC (model W.prog W.w) A (eval (.Slice l u af pos) env) Q E s:=by
 show aC (model W.prog W.w) A (do
  let l <-valueOrNone (evalOpt l env)
  let u <-holding [l] (valueOrNone (evalOpt u env))
  let s <-holding [l,u] (valueOrNone (evalOpt af env))
  newFields "slice" [l,u,s]) Q E s
 refine aF (Qi N S hl (PR.then S.R h λv σ1 bF s1 b1 R1 X1 V1 h1=>aF (gk (Qi N (S.ext R1 X1) hu (PR.then R1 h1 λw σ2 bU s2 b2 R2 X2 V2 h2=>?_)))));refine aF (gk (bu ?_));exact qI (Gf R2 h2 rfl ⟨rfl,_,_,rfl,VR.mono (iA _) dw (X2.vr V1),VR.mono (iA _) dw V2⟩)
theorem Yn(slice:aS)(o i:ay):∃ops,subscripted slice ak o i=operate ops (getItem o i):=by
 cases slice with
 |Slice l u st=>cases st<;>exact⟨_,rfl⟩
 |_=>exact⟨_,rfl⟩
theorem agP(O:Okd W C g)(N:bL W C g ih){a b:CE}{x y:aS}{pos:Pos}(S:aZ W C d A sc cx env U Y s)(ha:cE g f sc x=aa a)(hb:cE g f sc y=aa b)(h:PR W U.st Y s.heap (VO W) Q E (Qs C ih d cx a b U)):
  aC (model W.prog W.w) A (eval (.Subscript x y pos) env) Q E s:=by
 refine Subscript_ (N.v ha S (PR.then S.R h λv σ1 bF s1 b1 R1 X1 V1 h1=>N.v hb (S.ext R1 X1) (PR.then R1 h1 λw σ2 bU s2 b2 R2 X2 V2 h2=>?_)));have vp:=X2.vr V1;obtain⟨ops,hs⟩:=Yn y b1 b2;have G:=Xq (A:=A) O.toOkc R2 vp V2 h2;refine bZ h2 λr e0 _=>oS (P:=(· =aa r)) e0 (λz hz e1=>?_) λ_ e1=>oE e1 λz hz e2=>?_
 ·obtain rfl:=kh hz;obtain⟨_,rfl⟩:=vp;exact oE e1 λxs hx _=>aV (R2.isList (jM hx)) λys hl _=>tail_any hl.typeIs slot_list_getitem.lookup G hs
 ·obtain rfl:=vO hz;cases vp;exact oS (P:=(· =aa r)) e2 (λk _ e3=>oE e3 λkvs hk _=>iY (O.toOkc.isDict R2 hk) λ_ ps hd _=>tail_any hd.typeIs slot_dict_getitem.lookup G hs) λ_ e3=>oE e3 λxs hx _=>aV (O.toOkc.HS R2 hx) λys hl _=>tail_any hl.typeIs slot_list_getitem.lookup G hs
end
end Mine
end
section
namespace Mine
open PySem PySem.W PySem.Calls PyProof.Rows PySem.SeqAt Builtin Builtin.ObjectAttr
structure zo(K:ef)(C:aG):Prop where
 ga:findIn K (.ref C) "__getattribute__" =aa (aa (.builtin "BaseException.__getattribute__"))
 sa:findIn K (.ref C) "__setattr__" =aa (aa (.builtin "object.__setattr__"))
 gg:findIn K (.ref C) "__getattr__" =aa af
 hd:(clsIn K C).any (·.hasDict)=ah
 be:subIn K (.ref C) (.type "BaseException")=aa ah
 ob:mroIn K C (.type "object")=aa ah
 mr:(clsIn K C).any (λcd=>cd.mro==[.ref C,.ref 550,.type "ValueError",.type "Exception",.type "BaseException",.type "object"])=ah
structure Oke(W:WS)(C:EC)(g:Nat->Option AV):Prop extends Okd W C g where
 exc:∀K,C.isExc K=ah->zo W.K K
 Dv:∀K a,C.isExc K=ah->C.cls K a=aa af->findIn W.K (.ref K) (nm a)=aa af/\takerIn W.K K (nm a)=aa af
theorem Z0(self:ay):refuseLoop self "__setattr__" [.type "ValueError",.type "Exception",.type "BaseException",.type "object"]=pure ():=by kernel_rfl
theorem YJ(self:ay)(C D:aG):refuseLoop self "__setattr__" [.ref C,.ref D,.type "ValueError",.type "Exception",.type "BaseException",.type "object"]=pure ():=by rw[refuseLoop_ref,refuseLoop_ref];exact Z0 self
section
variable{W:WS}{C:EC}{U:ES}{Y:Nat->aG}{s:aE}{A:cR}{E:ay->aE->Prop}
theorem Rel.exc(R:Rel W U.st Y s){x d a:Nat}{K:aG}{tb:Option Nat}{kvs:List (Nat×AV)}(hx:U.get x=aa (.exc K (aa d) a tb))(hd:U.get d=aa (.ns kvs)):
  ∃ox od,InstAt s.heap (Y x) ox K (aa od)/\ox.dict=aa (Y d)/\s.heap.get? (Y d)=aa od/\OR W U.next Y (.ns kvs) od:=by
 obtain⟨ox,h1,h2,⟨h3,h4⟩,_,h5,vs,h6,_⟩:=R.obj _ _ hx;refine aV (R.obj _ _ hd) λod k6 k7=>?_;refine⟨ox,od,⟨h1,h2,?_,?_⟩,h3,k6,k7⟩
 ·unfold notCls;rw[h6]
 ·rw[h3];exact k6
theorem M3:Slot "ValueError" "__getattribute__" "BaseException.__getattribute__" :=PySem.F.attr_ValueError.ga
theorem abR{x K:aG}{ox od:Obj}{name:Str}{v:ay}{expr:Bool}{Q:ay->aE->Prop}(X:W.K.In s.heap)(ak9:InstAt s.heap x ox K (aa od))(Z:zo W.K K)(hf:findIn W.K (.ref K) name=aa af)(hl:lookIn name od=aa (aa v))(hh:handedIn v=ah)
  (h:Q v {s with toks:=s.toks+1}):aC (model W.prog W.w) A (getAttr (.ref x) name expr) Q E s:=by
 refine aV (yF Z.hd) λcd hc hd=>?_;have hfo:findObj W.K K (aa od) name=aa (.value v):=by unfold findObj;rw[hc,xQ,hf,xQ];dsimp only[xQ];unfold PySem.W.ownOf;rw[hd,if_pos rfl];dsimp only;rw[hl];rfl
 have hb:qc (model W.prog W.w) s.heap (hookBefore (.ref K)) af:=looks_hook X (by rw[if_pos (show onTheHeap (.ref K)=ah from rfl)];exact Z.gg);refine aF (LW (gk (aF (ak9.type _ _ _ _ (λ_ _ e=>e) (aF (BH X Z.ga _ _ _ _ (λ_ _ e=>e) ?_))))));dsimp only;rw[show(onTheHeap (.ref K)&&BA "BaseException.__getattribute__" ==BA "object.__getattribute__")=ak from by rw[show(BA "BaseException.__getattribute__" ==BA "object.__getattribute__")=ak from by decide+kernel,EW],if_neg (by decide)];refine aF (hb _ _ _ _ (λ_ _ e=>e) (aF (By (gk ?_))));unfold callGetattribute;rw[show(expr&&onTheHeap (BA "BaseException.__getattribute__"))=ak from EW _,if_neg (by decide)];unfold boundAndCalled;rw[M3.bind];refine aF (bu ?_);show aC _ _ (call (.builtin "BaseException.__getattribute__") [.ref x,.str name s.toks]) _ _ _;refine yt ?_;refine K7 M3.plain PySem.F.entry_bexc_ga ?_;refine @check_slot (model W.prog W.w) _ _ {s with toks:=s.toks+1} "BaseException.__getattribute__" "BaseException" "__getattribute__" (.ref x) [.str name s.toks] [] _ (by decide+kernel) (by decide+kernel) (ak9.type.andThen (looks_subIn X Z.be)) (PySem.F.args_bexc_ga (.ref x) (.str name s.toks)) ?_;have L1:=looks_find (M:=model W.prog W.w) X ak9 hfo;unfold Builtin.«object.__getattribute__»;refine aF (bu (aF (bu (aF (ak9.type.here (s:={s with toks:=s.toks+1}) (aF (L1.here (s:={s with toks:=s.toks+1}) ?_)))))));refine bu ?_;show aC _ _ (handedOut v) _ _ _;rw[handedOut_of hh];exact bu h
theorem N5{x:aG}{ox:Obj}{od:Option Obj}{K:aG}{name:Str}{tk:Tok}{v:ay}{R:Result->aE->Prop}(X:W.K.In s.heap)(IA:InstAt s.heap x ox K od)(Z:zo W.K K)(hf:takerIn W.K K name=aa af)
  (h:∀b,aC (model W.prog W.w) A.in1 (Builtin.ObjectAttr.storeInOwnDict (.ref x) (.ref K) (.str name tk) name v b) (λfin s'=>match fin with| .done f=>R (.ok f) s'| .again c'=>c'.quiet=ah/\fj (model W.prog W.w) A c' R s') (λe s'=>R (.error e) s') s):
  fj (model W.prog W.w) A (.call (.builtin "object.__setattr__") ⟨[.ref x,.str name tk,v],[]⟩) R s:=by
 refine aV (yF Z.mr) λcd hc hm=>?_;have hm:=eq_of_beq hm;have SF:=PySem.F.store_object;have sub:qc (model W.prog W.w) s.heap (isInstance (.ref x) (.type "object")) ah:=IA.type.andThen (looks_mroIn X Z.ob);refine K7 SF.slot.plain SF.entry (@check_slot (model W.prog W.w) _ _ s "object.__setattr__" "object" "__setattr__" (.ref x) [.str name tk,v] [] _ SF.kind SF.split sub (SF.args (.ref x) (.str name tk) v) ?_);refine aV (Option.bind_eq_some_iff.mp hf) λattr ha hr=>?_;have ajV:qc (model W.prog W.w) s.heap (mroOf (.ref K)) cd.mro:=(Ff X hc).andThen .now;have L3:qc (model W.prog W.w) s.heap (storeTaker? attr) af:=by
  cases attr with
  |none=>exact .now
  |some q=>
   refine aV (Option.map_eq_some_iff.mp hr) λb hb hbn=>?_;refine(looks_takesIn X hb).andThen ?_;cases b with
   |true=>exact lV hbn
   |false=>exact .now
 rw[osa_eq,refuse_eq];refine aF (aF (IA.type.here (aF (ajV.here ?_))));rw[hm,YJ];refine bu (aF (IA.type.here (aF ((BH X ha).here (aF (L3.here ?_))))));exact h _
theorem YY{x d a0 a:Nat}{K:aG}{tb:Option Nat}{kvs:List (Nat×AV)}{av:AV}{v:ay}{Q:Unit->aE->Prop}(X:W.K.In s.heap)(R:Rel W U.st Y s)(hx:U.get x=aa (.exc K (aa d) a0 tb))(hd:U.get d=aa (.ns kvs))
  (Z:zo W.K K) (hf:takerIn W.K K (nm a)=aa af) (hv:VR W U.next Y av v) (hz:kvs.length<=1000)
  (k:∀h' t,Rel W (U.put d (.ns (putN kvs a av))).st Y {s with heap:=h',toks:=t}->Ext W U.st Y s.heap (U.put d (.ns (putN kvs a av))).st Y h'->Q () {s with heap:=h',toks:=t}):
  aC (model W.prog W.w) A (setAttr (.ref (Y x)) (nm a) v) Q E s:=by
 refine pY (R.exc hx hd) λox od IA h3 h6 h7=>?_;refine set_plain X IA Z.sa ?_;refine N5 (s:={s with toks:=s.toks+1}) X IA Z hf λb=>?_;refine aV (yF Z.hd) λcd hc hdc=>?_;obtain⟨hx',hcl,hn,-⟩:=IA;obtain⟨oc,VQ,VH,osl⟩:=ox;dsimp only at hcl h3;subst hcl h3;refine aF (bu (aF (aF (xY hx' (aF (Mu (s:={s with toks:=s.toks+1}) (Ff X hc) ?_))))));rw[hdc];exact bu (a:=aa (Y d)) (FH rfl (R.tok _) hd hv hz λh' t R1 X1=>k h' t (by rw[ES.mG hd];exact R1) (by rw[ES.mG hd];exact X1))
theorem Y6{x a0 a:Nat}{K:aG}{tb:Option Nat}{av:AV}{v:ay}{σ':ES}{Q:Unit->aE->Prop}(X:W.K.In s.heap)(R:Rel W U.st Y s)(hx:U.get x=aa (.exc K af a0 tb))
  (Z:zo W.K K) (hf:takerIn W.K K (nm a)=aa af) (hv:VR W U.next Y av v) (e:Ht x K a0 tb a av (U.add (.ns []))=aa σ')
  (k:∀ρ' h' t,Rel W σ'.st ρ' {s with heap:=h',toks:=t}->Ext W U.st Y s.heap σ'.st ρ' h'->Q () {s with heap:=h',toks:=t}):
  aC (model W.prog W.w) A (setAttr (.ref (Y x)) (nm a) v) Q E s:=by
 obtain⟨ox,h1,h2,h3,_,h5,vs,h6,h7⟩:=R.obj _ _ hx;have h3:ox.dict=af:=h3;have IA:InstAt s.heap (Y x) ox K af:=⟨h1,h2,by unfold notCls;rw[h6],by rw[h3];trivial⟩;refine set_plain X IA Z.sa ?_;refine N5 (s:={s with toks:=s.toks+1}) X IA Z hf λb=>?_;refine aV (yF Z.hd) λcd hc hdc=>?_;unfold Ht at e;refine cU (R.jP (o:=.ns []) (r:={cls:=.type "dict",data:=.dict #[]}) rfl ⟨#[],0,rfl,.nil⟩) λR1 X1 V1=>?_;have ed:=(nV V1.2).symm;have ld:=V1.1;have x1:(U.add (.ns [])).2.get x=aa (.exc K af a0 tb):=by rw[ES.add_eq];exact((Tr.r7 (.ns []) 40 U.t U.next x).1 (iJ (R.lt x _ hx))).trans hx
 have ex:dK Y U.next s.heap.objs.size x=Y x:=dw _ (R.lt x _ hx)
 generalize hdn:(U.add (.ns [])).1=dn at*;generalize sC:(U.add (.ns [])).2=σ1 at*;refine oE e λkvs hk e1=>bE e1 λhn e2=>?_
 ·have hdg:=kQ hk;rw[List.isEmpty_iff.mp hn]at hdg;clear e e1 hk hn;obtain rfl:=aX e2;obtain⟨oc,VQ,VH,osl⟩:=ox;dsimp only at h2 h3 h6;subst h2 h3 h6;obtain⟨r1,g1,g2,g3,_,g5,vs',g6,g7⟩:=R1.obj _ _ x1;rw[ex]at g1;have hpx:=jo ({cls:=.type "dict",data:=.dict #[]}:Obj) h1;rw[hpx]at g1;cases g1;cases g6;obtain⟨R2,X2⟩:=R1.uN (o':=.exc K (aa dn) a0 tb) (f:=λo=>{o with dict:=aa s.heap.objs.size}) x1 (by rw[ex];exact hpx) rfl (λn=>(n _ rfl).elim) ⟨rfl,⟨by rw[ed],ld⟩,trivial,g5,_,rfl,g7⟩;rw[ex]at R2 X2;refine aF (bu (aF (aF (xY h1 (aF (Mu (s:={s with toks:=s.toks+1}) (Ff X hc) ?_))))));rw[hdc];have hne:dn≠x:=λq=>by rw[q,x1]at hdg;cases hdg
  have hd2:(σ1.put x (.exc K (aa dn) a0 tb)).get dn=aa (.ns []):=by have:=congrArg (λz=>St.get z dn) (ES.mG (o:=.exc K (aa dn) a0 tb) x1);exact this.trans ((if_neg hne).trans hdg)
  have hv2:VR W (σ1.put x (.exc K (aa dn) a0 tb)).next (dK Y U.next s.heap.objs.size) av v:=VR.mono (eo X1.le X2.le) dw hv
  refine aF (Mh (aF (wpAny_update hpx (bu ?_))));exact FH (kvs:=[]) ed (R2.tok _) hd2 hv2 (BO _) λh' t U1 U2=>k _ _ _ (by rw[ES.mG hd2];exact U1) (X1.trans R.lt R1.lt (X2.trans R1.lt R2.lt (by rw[ES.mG hd2];exact U2)))
theorem LJ{g:Nat->Option AV}{a:Nat}{ov av:AV}{v:ay}{expr:Bool}{Q:ay->aE->Prop}(O:Oke W C g)(R0:Rel W U.st Y s)(va:VR W U.next Y ov v)(e:rY C ov a U=aa av)
  (h:∀v t,VR W U.next Y av v->Q v {s with toks:=t}):aC (model W.prog W.w) A (getAttr v (nm a) expr) Q E s:=by
 refine oE e λx hx e1=>?_;obtain rfl:=kh hx;obtain⟨_,rfl⟩:=va;refine oS (P:=(· =aa av)) e1 (λq hq _=>XK O.toOka R0 (GS hq) rfl e h) λ_ e2=>oE e2 λq hq e3=>oE e3 λd hd e4=>bE e4 λhb e5=>?_;clear e e1 e2 e3 e4 hx;rw[bJ]at hb;obtain⟨kvs,h3,hu,hh⟩:=NS e5;have hx:=r9 hq;rw[hd]at hx;refine pY (R0.exc hx h3) λox od IA k3 k6 k7=>?_;rcases F5 k7 a with⟨Vp,w,h8,h9,dO⟩|⟨h8,_⟩
 ·rw[hu]at h8;obtain rfl:=aX h8;exact abR (R0.X O.toOk) IA (O.exc _ hb.1) (O.Dv _ a hb.1 (yH hb.2)).1 h9 (dO.handed hh) (h w _ dO)
 ·rw[hu]at h8;exact lV h8
theorem LL{g:Nat->Option AV}{a:Nat}{ov av:AV}{o v:ay}{σ':ES}{Q:Unit->aE->Prop}(O:Oke W C g)(R0:Rel W U.st Y s)(vo:VR W U.next Y ov o)(va:VR W U.next Y av v)(e:rW C ov a av U=aa σ')
  (h:∀ρ' s',Rel W σ'.st ρ' s'->Ext W U.st Y s.heap σ'.st ρ' s'.heap->Q () s'):aC (model W.prog W.w) A (setAttr o (nm a) v) Q E s:=by
 refine oE e λx hx e1=>?_;obtain rfl:=kh hx;obtain⟨_,rfl⟩:=vo;refine oS (P:=(· =aa σ')) e1 (λq hq _=>XF O.toOka R0 (GS hq) rfl va e λh' t R1 X1=>h _ _ R1 X1) λ_ e2=>oE e2 λq hq e3=>bE e3 λhb e4=>?_;clear e e1 e2 e3 hx;rw[bJ]at hb;have hx:=r9 hq;refine oS (P:=(· =aa σ')) e4 (λd hd e5=>?_) λhd e5=>?_
 ·obtain⟨kvs,h3,hz,rfl⟩:=NF e5;rw[hd]at hx;exact YY (R0.X O.toOk) R0 hx h3 (O.exc _ hb.1) (O.Dv _ a hb.1 (yH hb.2)).2 va (cL (cC hz) rfl) λh' t R1 X1=>h _ _ R1 X1
 ·rw[hd]at hx;exact Y6 (R0.X O.toOk) R0 hx (O.exc _ hb.1) (O.Dv _ a hb.1 (yH hb.2)).2 va e5 λρ' h' t R1 X1=>h _ _ R1 X1
end
end Mine
end
section
namespace Mine
open PySem PySem.W PySem.Calls PyProof.Rows PySem.SeqAt
theorem ZM:nm fL=jc "append" :=by kernel_rfl
theorem ZI:nm iR=jc "extend" :=by kernel_rfl
theorem OT:nm jJ=jc "get" :=by kernel_rfl
theorem PC:nm f9=jc "pop" :=by kernel_rfl
theorem Ox:nm dZ=jc "__init__" :=by kernel_rfl
structure Okf(W:WS)(C:EC)(g:Nat->Option AV):Prop extends Oke W C g where
 rB:∀K a f,C.rB K a=aa f->specialIn W.K (.ref K) "__getattribute__" =aa (aa (.builtin "type.__getattribute__"))/\readsIn W.K K (.type "type")=ah/\findCls W.K (.ref K) (.type "type") (nm a)=aa (.val (.ref f))
 QY:findCls W.K (.type "ValueError") (.type "type") "__init__" =aa (.val (.builtin "ValueError.__init__"))
section
variable{W:WS}{C:EC}{g:Nat->Option AV}{d:Nat}{A:cR}{sc:cu}{cx:CX}{env:Env}{U U1_:ES}{Y cF:Nat->aG}{s s1_:aE}{Q:ay->aE->Prop}{E:ay->aE->Prop}
variable{ih:Ev}{f:Nat}
theorem MJ{o:aS}(a:Str)(env:Env)(w:Sem ay)(h:pW o=ah):attributeBase o a env w=w:=by
 cases o with
 |Call f as ks p=>cases f with
  |Name _ _=>cases as with
   |cons _ _=>rfl
   |nil=>cases ks with
    |cons _ _=>rfl
    |nil=>exact cB h
  |_=>rfl
 |_=>rfl
theorem aev(O:Oke W C g)(N:bL W C g ih){a:CE}{k:Nat}{x:aS}{attr:Str}{pos:Pos}(S:aZ W C d A sc cx env U Y s)(hb:pW x=ah)(ha:cE g f sc x=aa a)(hk:codeN attr=aa k)(h:PR W U.st Y s.heap (VO W) Q E (Pq C ih d cx a k U)):
  aC (model W.prog W.w) A (eval (.Attribute x attr pos) env) Q E s:=by
 rw[arm_eval_Attribute,MJ attr env _ hb];refine aF (N.v ha S (PR.then S.R h λv σ1 bF s1 b1 R1 X1 V1 h1=>aF (jZ (aF (gk ?_)))));cases q:rY C v k σ1 with
 |none=>rw[q]at h1;exact h1.elim
 |some u=>rw[q]at h1;rw[<-(mz hk).1];exact LJ O R1 V1 q λw t V2=>aF (wpAny_letTemporaryGo (bu (h1 bF _ _ (R1.tok _) .refl ⟨_,rfl,V2⟩)))
theorem abr{pos:Pos}(S:aZ W C d A sc cx env U Y s)(h:PR W U.st Y s.heap (VO W) Q E (C3 ih d cx [] U)):aC (model W.prog W.w) A (eval (.Dict [] [] pos) env) Q E s:=by show aC (model W.prog W.w) A (do standAt pos;newDict) Q E s;refine aF (jZ ?_);exact qI (Gf S.R h rfl ⟨[],⟨#[],0,⟨rfl,rfl,rfl⟩,rfl,λ_ he=>by simp at he,Pairs.nil,xZ⟩,.nil⟩)
theorem abm(N:bL W C g ih):∀{es:List aS} {cs:List CE} {acc:List Nat} {U:ES} {Y:Nat->aG} {s:aE},bB (cE g f sc) es=aa cs->acc.length<=1000000->aZ W C d A sc cx env U Y s->
  PR W U.st Y s.heap (VO W) Q E (Ja ih d cx cs acc U)->aC (model W.prog W.w) A (joinParts (strOf acc) (evalEach es env)) Q E s:=by
 intro es;induction es with
 |nil=>intro cs acc U Y s hc hz S h;obtain rfl:=aX hc;exact joinParts_nil (h Y _ _ (S.R.tok _) .refl ⟨_,rfl,_,rfl⟩) (by rw[yi,gp];exact cL (cC hz) rfl)
 |cons e es ihl=>intro cs acc U Y s hc hz S h;revert h;refine pZ hc λb m h1 h2 h=>joinParts_cons (N.v h1 S (PR.then S.R h λv σ1 bF s1 b1 R1 X1 V1 k1=>?_));refine bZ k1 λacc' e k2=>oE e λy hy e=>bE e λhf e=>vStr hy V1 λt=>?_;have hf:=iB hf;revert k2;refine sI e λk2=>⟨by rw[E9,yi,fX,gp];exact cL (cC hf) rfl,?_⟩;rw[E9];exact ihl h2 (by rw[fX];exact hf) (S.ext R1 X1) k2
theorem acV(N:bL W C g ih){es:List aS}{cs:List CE}{pos:Pos}(S:aZ W C d A sc cx env U Y s)(hc:bB (cE g f sc) es=aa cs)(h:PR W U.st Y s.heap (VO W) Q E (OP ih d cx cs U)):aC (model W.prog W.w) A (eval (.JoinedStr es pos) env) Q E s:=by
 match es,hc with
 | [],hc=>obtain rfl:=aX hc;exact h.elim
 | [x],hc=>refine fE (qR hc) λb m h1 h2 ig=>?_;subst ig;obtain rfl:=aX h2;exact h.elim
 |x::y::r,hc=>refine fE (qR hc) λb m h1 h2 jW=>?_;subst jW;refine fE (qR h2) λb' m' h3 h4 uS=>?_;subst uS;exact JoinedStr_many (abm N (acc:=[]) hc (by decide) S h)
theorem afk(N:bL W C g ih){a:CE}{x:aS}{pos:Pos}(S:aZ W C d A sc cx env U Y s)(ha:cE g f sc x=aa a)(h:PR W U.st Y s.heap (VO W) Q E (QD ih d cx a U)):aC (model W.prog W.w) A (eval (.FormattedValue x (-1) af pos) env) Q E s:=by
 refine FormattedValue_plain (N.v ha S (PR.then S.R h λv σ1 bF s1 b1 R1 X1 V1 h1=>bZ h1 λr e h2=>?_));refine oS (P:=(· =aa r)) e (λy hy e=>bE e λhf e=>vStr hy V1 λt=>formatField_str (λt' tk=>prV e h2 bF _ _ (R1.tok _) .refl ⟨_,rfl,_,rfl⟩) (by rw[yi,gp];exact cL (cC (iB hf)) rfl)) λ_ e=>oE e λi hi e=>uE hi V1 λt=>?_;revert h2;refine oM e λl hs h2=>cU (NC hs) λe1 e2 e3=>formatField_int_small ?_ ?_
 ·show i.natAbs.log2<1920;have:i.natAbs<10:=by exact(Wi e2 e3:_)
  exact pG (Nat.log2_le_self _) (kH (eX this) rfl)
 ·show Q (.str ((toString i:String):Str) _) _;rw[e1];exact h2 bF _ _ (R1.tok _) .refl ⟨_,rfl,_,rfl⟩
theorem vK{pos:Pos}:∀{es:List aS} {cs:List CE},bB (cE g f sc) es=aa cs->(backTo pos (starEach es env)).any (·.1)=ak
 | [],_,_=>rfl
 |e::es,_,hc=>by refine fE (qR hc) λb m h1 h2 Aj=>?_;subst Aj;rw[vU h1];show(ak||(backTo pos (starEach es env)).any (·.1))=ak;rw[vK h2];rfl
theorem BR{fv:ay}{pos:Pos}{es:List aS}{cs:List CE}{Q:Args->aE->Prop}(hc:bB (cE g f sc) es=aa cs)
  (h:aC (model W.prog W.w) A (spliced (backTo pos (starEach es env))) (λvs s'=>Q ⟨vs,[]⟩ s') E s):aC (model W.prog W.w) A (evalArgs fv ah (backTo pos (starEach es env)) []) Q E s:=by
 cases es with
 |nil=>unfold evalArgs;show aC _ A (spliced [] >>= _) Q E s;refine aF (eL h (λvs s' h'=>?_) λ_ _ x=>x);refine aF (bu ?_);refine gk ?_;exact aF (bu (aF (bu (bu h'))))
 |cons e es=>refine fE (qR hc) λb m h1 h2 Ao=>?_;subst Ao;rw[vU h1]at h ⊢;exact evalArgs_plain h
noncomputable def wu(W:WS)(fv:ay)(h:cy):Prop:=W.K.In h/\((∃a,fv= .ref a/\keepIn W.K (.ref a)=ah)\/(∃i,fv= .builtin i)\/(∃i,fv= .type i)\/∃a o fd,fv= .ref a/\h.get? a=aa o/\o.data= .func fd)
theorem BQ{fv:ay}(h:cy)(k:wu W fv h):∃k,(k=Keeper.frame\/k=Keeper.machine\/k=Keeper.boundFrame)/\qc (model W.prog W.w) h (keeperOf fv) k:=by
 obtain⟨X,⟨a,rfl,hk⟩|⟨i,rfl⟩|⟨i,rfl⟩|⟨a,o,fd,rfl,ho,hd⟩⟩:=k
 ·exact keeps_K hk h X
 ·exact⟨.machine,.inr (.inl rfl),EY rfl⟩
 ·exact⟨.machine,.inr (.inl rfl),EY rfl⟩
 ·refine⟨.frame,.inl rfl,(Looks.ld (part:=af) ho).andThen ?_⟩;rw[hd];exact .now
theorem MT(O:Okd W C g){fv:AV}{v:ay}(R0:Rel W U.st Y s)(vf:VR W U.next Y fv v)(e:iE C fv U=ah):wu W v s.heap:=by
 refine⟨R0.X O.toOk,oS (P:=(· =ah)) e (λt ht e=>ru ht vf (.inl ⟨_,rfl,O.may _ e⟩)) λ_ e=>oS (P:=(· =ah)) e (λx hx e=>oB hx vf ?_) λ_ e=>?_⟩
 ·rcases Bool.or_eq_true_iff.mp e with e|e
  ·obtain⟨k,hk⟩:=Option.isSome_iff_exists.mp e;exact J1 hk vf (.inr (.inl ⟨_,rfl⟩))
  ·obtain⟨k,hk⟩:=Option.isSome_iff_exists.mp e;exact AA hk vf (.inr (.inr (.inl ⟨_,rfl⟩)))
 ·obtain⟨o,ho,e⟩:=er e;obtain⟨_,_,_,_,rfl⟩:=ab4 e;refine Mq (R0.obj _ _ ho) λo h1 h2 body scope clos pm ct _ _ h3=>?_;rw[h3]at h1;exact .inr (.inr (.inr ⟨_,_,_,rfl,h1,rfl⟩))
theorem B6(O:Okd W C g)(N:bL W C g ih){fv:AV}{v:ay}{first:List AV}{UP:List ay}{es:List aS}{cs:List CE}{pos:Pos}(S:aZ W C d A sc cx env U Y s)(vf:VR W U.next Y fv v)(v1:aO (VR W U.next Y) first UP)
  (hc:bB (cE g f sc) es=aa cs) (h:PR W U.st Y s.heap (VO W) Q E (CI C ih d cx fv first cs U)):aC (model W.prog W.w) A (callWith pos v UP (backTo pos (starEach es env)) []) Q E s:=by
 refine Fg (P:=wu W v) (by rw[vK hc];rfl) BQ (BR hc (wg N hc S (PR.then S.R h λvs σ1 bF s1 b1 R1 X1 V1 h1=>?_)));exact jA h1 λhm h1=>⟨MT O R1 (X1.vr vf) hm,N.call R1 (S.ext R1 X1).F (X1.vr vf) ((v1.mono λ_ _=>X1.vr).append V1) h1⟩
theorem adP(O:Okd W C g)(N:bL W C g ih){a:CE}{x:aS}{es:List aS}{cs:List CE}{pos:Pos}(S:aZ W C d A sc cx env U Y s)(ha:cE g f sc x=aa a)(hc:bB (cE g f sc) es=aa cs)
  (he:eval (.Call x es [] pos) env=(do callWith pos (<-eval x env) [] (backTo pos (starEach es env)) (backToKw pos (keywordEach [] env)))) (h:PR W U.st Y s.heap (VO W) Q E (OO C ih d cx a cs U)):
  aC (model W.prog W.w) A (eval (.Call x es [] pos) env) Q E s:=by
 rw[he];refine aF (N.v ha S (PR.then S.R h λv σ1 bF s1 b1 R1 X1 V1 h1=>?_));exact B6 O N (first:=[]) (S.ext R1 X1) V1 .nil hc h1
theorem Xr{c f:aG}{name:Str}{pl:Sem Bool}{Q:ay×List ay->aE->Prop}(X:W.K.In s.heap)(h1:specialIn W.K (.ref c) "__getattribute__" =aa (aa (.builtin "type.__getattribute__")))(h2:readsIn W.K c (.type "type")=ah)
  (h3:findCls W.K (.ref c) (.type "type") name=aa (.val (.ref f))) (h:Q (.ref f,[]) {s with toks:=s.toks+1}):aC (model W.prog W.w) A (getMethod (.ref c) name pl) Q E s:=
 method_cls X h1 (cls_value X h2 h3 rfl h)
theorem Xv{pl:Sem Bool}{Q:ay×List ay->aE->Prop}(X:W.K.In s.heap)(e:findCls W.K (.type "ValueError") (.type "type") "__init__" =aa (.val (.builtin "ValueError.__init__")))
  (h:Q (.builtin "ValueError.__init__",[]) {s with toks:=s.toks+1}):aC (model W.prog W.w) A (getMethod (.type "ValueError") "__init__" pl) Q E s:=by
 have ht:typeOf (.type "ValueError")=pure (.type "type"):=by kernel_rfl
 have hs:Manifest.isStub "ValueError" =ak:=by decide+kernel
 have ahJ:opaqueClassAbove (.type "ValueError")=pure af:=by unfold opaqueClassAbove;dsimp only;rw[hs];rfl
 have L0:qc (model W.prog W.w) s.heap (typeOf (.type "ValueError")) (.type "type"):=EY ht;have hg:findIn W.K (.type "type") "__getattribute__" =aa (aa (.builtin "type.__getattribute__")):=type_tga;unfold getMethod specialOf;refine aF (aF (L0.here ((BH X hg).here ?_)));dsimp only;rw[if_pos canon_tga];refine aF (eL (Q:=λv=>Q (v,[])) (E:=E) ?_ (λ_ _ z=>bu z) λ_ _ z=>z);have LO:qc (model W.prog W.w) s.heap (opaqueClassAbove (.type "ValueError")) af:=EY ahJ;exact cls_open X LO L0 hg (looks_hook X (r:=af) (by rfl)) (by show subIn W.K _ _=_;rfl) e (bu (by show aC _ _ (handedOut _) _ _ _;rw[handedOut_of (by decide)];exact bu h))
theorem ZJ{o:aS}{m:Str}{ap pos:Pos}{es:List aS}{cs:List CE}(hc:bB (cE g f sc) es=aa cs)(hb:pW o=ah)(hn:es.length<30)(hl:(ap.endLine==pos.line)=ah){Q:ay->aE->Prop}
  (h:aC (model W.prog W.w) A (eval o env) (λov s1_=>aC (model W.prog W.w) A (getMethod ov m (do return(<-importBound o env).getD ah)) (λfx s2_=>aC (model W.prog W.w) A (callWith pos fx.1 fx.2 (backTo pos (starEach es env)) []) Q E s2_) E s1_) E s):
  aC (model W.prog W.w) A (eval (.Call (.Attribute o m ap) es [] pos) env) Q E s:=by
 show aC (model W.prog W.w) A (do
  let ov <-attributeBase o m env (eval o env)
  standAt ap.atName
  methodCall o m ap pos env ov (es.length+0) (backTo pos (starEach es env)) []) Q E s
 rw[MJ m env _ hb];refine aF (eL h (λov s1_ h1_=>aF (jZ ?_)) λ_ _ x=>x);have few:methodCallForm (es.length+0) (backTo pos (starEach es env)) []=ah:=by
  unfold methodCallForm;have:=vK (pos:=pos) (env:=env) hc;rw[List.any_eq_false]at this;have e1:(backTo pos (starEach es env)).all (λx=> !x.1)=ah:=by
   rw[EM];intro x hx;have:=this x hx
   simpa using this
  rw[e1];simp;exact hn
 unfold methodCall;rw[few];refine aF (gk (eL h1_ (λfx s2_ h2_=>?_) λ_ _ x=>x));have pc:methodCallPos ah o env ap pos=pure pos:=by unfold methodCallPos;rw[hl];rfl
 rw[pc];exact aF (bu h2_)
section
variable{x k:Nat}{m:Str}{es:List aS}{cs:List CE}{pos:Pos}{pl:Sem Bool}
theorem R8(O:Okf W C g)(N:bL W C g ih){l:Bool}(S:aZ W C d A sc cx env U Y s)(lt:x<U.next)(hc:bB (cE g f sc) es=aa cs)(h:PR W U.st Y s.heap (VO W) Q E (CF l ih d cx x k cs U)):
  aC (model W.prog W.w) A (callWith pos (.builtin (Kl l k)) [.ref (Y x)] (backTo pos (starEach es env)) []) Q E s:=
 Fg (P:=wu W (.builtin (Kl l k))) (by rw[vK hc];rfl) BQ (BR hc (wg N hc S (PR.then S.R h λvs σ2 bU s2 b2 R2 X2 V2 h2=>⟨⟨R2.X O.toOk,.inr (.inl ⟨_,rfl⟩)⟩,by rw[<-X2.ag x lt];exact YW O.toOkc R2 V2 h2⟩)))
theorem PZ(O:Okf W C g)(N:bL W C g ih){vs:Array ay}(S:aZ W C d A sc cx env U Y s)(lt:x<U.next)(hk:nm k=m)(hc:bB (cE g f sc) es=aa cs)(hpl:s.heap.PlainList (Y x) vs)(q:(aH k fL||aH k iR||aH k f9)=ah)
  (h:PR W U.st Y s.heap (VO W) Q E (CF ah ih d cx x k cs U)):aC (model W.prog W.w) A (getMethod (.ref (Y x)) m pl) (λfx s2_=>aC (model W.prog W.w) A (callWith pos fx.1 fx.2 (backTo pos (starEach es env)) []) Q E s2_) E s:=by
 obtain⟨n,hpl⟩:=hpl;have nd:∀a,eB (Y x)= .ref a->∃o,s.heap.get? a=aa o/\o.dict=af:=λa e=>by(injection e with e;subst e);exact⟨_,hpl,rfl⟩
 have G:=R8 (pos:=pos) O N S lt hc h;rw[<-hk];rcases Bool.or_eq_true_iff.mp q with q|q
 ·rcases Bool.or_eq_true_iff.mp q with q|q
  ·rw[cG q]at G ⊢;rw[ZM];exact xP ⟨_,hpl,rfl⟩ KO PySem.F.slot_list_append PySem.F.type_list_append nd G
  ·rw[cG q]at G ⊢;rw[ZI];exact xP ⟨_,hpl,rfl⟩ KO Wu PySem.F.type_list_extend nd G
 ·rw[cG q]at G ⊢;rw[PC];exact xP ⟨_,hpl,rfl⟩ KO KW PySem.F.type_list_pop nd G
theorem aeG(O:Okf W C g)(N:bL W C g ih){o:AO}(S:aZ W C d A sc cx env U Y s)(lt:x<U.next)(hk:nm k=m)(hc:bB (cE g f sc) es=aa cs)(hx:U.get x=aa o)
  (h:PR W U.st Y s.heap (VO W) Q E (OC ih d cx x k cs o U)):aC (model W.prog W.w) A (getMethod (.ref (Y x)) m pl) (λfx s2_=>aC (model W.prog W.w) A (callWith pos fx.1 fx.2 (backTo pos (starEach es env)) []) Q E s2_) E s:=by
 refine oS (P:=PR W U.st Y s.heap (VO W) Q E) h (λkvs hd h=>jA h λq h=>?_) λ_ h=>jA h λq h=>?_
 ·rw[Cf hd]at hx;refine aV (S.R.isDict hx) λps hd _=>?_;have G:=R8 (pos:=pos) O N S lt hc h;rw[<-hk];rcases Bool.or_eq_true_iff.mp q with q|q
  ·rw[cG q]at G ⊢;rw[OT];exact xP hd.typeIs KP Ey WJ hd.mapOf.noDict G
  ·rw[cG q]at G ⊢;rw[PC];exact xP hd.typeIs KP KY PySem.F.type_dict_pop hd.mapOf.noDict G
 ·refine oS (P:=(· =ah)) q (λxs hl q=>?_) λ_ q=>oS (P:=(· =ah)) q (λp hp q=>?_) λ_ q=>cB q
  ·rw[vL hl]at hx;exact aV (S.R.isPlain hx) λvs hpl _=>PZ O N S lt hk hc hpl q h
  ·rw[Cq hp]at hx;exact fS (S.R.ur hx) λvs _ hpl _=>PZ O N S lt hk hc hpl (Bool.or_eq_true_iff.mpr (.inl (Bool.or_eq_true_iff.mpr (.inr q)))) h
theorem ad4(O:Okf W C g)(N:bL W C g ih){K dd:Nat}(S:aZ W C d A sc cx env U Y s)(lt:x<U.next)(hk:nm k=m)(hc:bB (cE g f sc) es=aa cs)(hx:U.get x=aa (.inst K dd))
  (h:PR W U.st Y s.heap (VO W) Q E (Oh C ih d cx x K dd k cs U)):aC (model W.prog W.w) A (getMethod (.ref (Y x)) m pl) (λfx s2_=>aC (model W.prog W.w) A (callWith pos fx.1 fx.2 (backTo pos (starEach es env)) []) Q E s2_) E s:=by
 refine bZ h λo h3 h=>bZ h λfa ho h=>bZ h λkvs h4 h=>jA h λq h=>?_;rw[bJ,Bc]at q;rw[ho]at h3;refine pY (S.R.inst hx (kQ h4)) λox od IA k3 k6 k7=>?_;have ak9:=O.inst K q.1;obtain⟨c1,c2⟩:=O.IM K _ fa q.1 h3;rw[<-hk];refine method_fn (S.R.X O.toOk) IA ak9.ga ak9.gg c1 c2 ?_ (B6 O.toOkd N (fv:=.adr fa) (first:=[.ref x]) S rfl (.cons ⟨lt,rfl⟩ .nil) hc h);rcases F5 k7 k with⟨Vp,w,h8,_⟩|⟨_,h9⟩
 ·rw[q.2]at h8;exact aN h8
 ·show(lookIn (nm k) od).map (·.isSome)=aa ak;rw[h9];rfl
theorem agB(O:Okf W C g)(N:bL W C g ih){t:aG}(S:aZ W C d A sc cx env U Y s)(hk:nm k=m)(hc:bB (cE g f sc) es=aa cs)
  (h:PR W U.st Y s.heap (VO W) Q E (Ov C ih d cx t k cs U)):aC (model W.prog W.w) A (getMethod (.ref t) m pl) (λfx s2_=>aC (model W.prog W.w) A (callWith pos fx.1 fx.2 (backTo pos (starEach es env)) []) Q E s2_) E s:=by
 refine oS (P:=PR W U.st Y s.heap (VO W) Q E) h (λkvs hkv h=>jA h λq h=>?_) λ_ h=>bZ h λfa hcv h=>?_
 ·refine iY (O.toOkc.isDict S.R hkv) λlo ps hd _=>?_;rw[<-hk,cG q,OT];refine xP hd.typeIs KP Ey WJ hd.mapOf.noDict ?_;refine Fg (P:=wu W (.builtin "dict.get")) (by rw[vK hc];rfl) BQ (BR hc (PR.gP (E:=E) ?_ |> λh2=>wg N hc S h2));refine PR.then S.R h λvs σ2 bU s2 b2 R2 X2 V2 h2=>⟨⟨R2.X O.toOk,.inr (.inl ⟨_,rfl⟩)⟩,bZ h2 λr e h3=>oE e λp hp e=>aO.l2 hp V2 λv w va vb=>?_⟩
  revert h3;refine oM e λy hy h3=>vStr hy va λt=>iY (O.toOkc.isDict R2 hkv) λlo ps hd hv=>?_;refine E4 Ey hd.typeIs WA (PySem.F.args_dict_get_3 _ _ _) (meets_dict_get_default (strKind W.prog W.w) _ (k:=strOf y) (by show qK (strOf y) (.str (strOf y) t)=ah;simp[qK]) lo _) ⟨_,hd.mapOf,?_⟩;rcases Np (k:=y) hv with⟨u,w,z1,z2,z3⟩|⟨z1,z2⟩
  ·rw[z1]at h3;rw[z2];exact h3 bU _ _ (R2.tok _) .refl ⟨_,rfl,z3⟩
  ·rw[z1]at h3;rw[z2];exact h3 bU _ _ (R2.tok _) .refl ⟨_,rfl,vb⟩
 ·refine cU (O.rB t k fa hcv) λc1 c2 c3=>?_;rw[<-hk];exact Xr (S.R.X O.toOk) c1 c2 c3 (B6 O.toOkd N (fv:=.adr fa) (first:=[]) (S.ext (S.R.tok _) .refl) rfl .nil hc h)
end
theorem aeA(O:Okf W C g)(N:bL W C g ih){a:CE}{o:aS}{m:Str}{k:Nat}{ap pos:Pos}{es:List aS}{cs:List CE}(S:aZ W C d A sc cx env U Y s)(ha:cE g f sc o=aa a)(hk:codeN m=aa k)(hc:bB (cE g f sc) es=aa cs)
  (hb:pW o=ah) (hn:es.length<30) (hl:(ap.endLine==pos.line)=ah) (h:PR W U.st Y s.heap (VO W) Q E (PM C ih d cx a k cs U)):aC (model W.prog W.w) A (eval (.Call (.Attribute o m ap) es [] pos) env) Q E s:=by
 refine ZJ hc hb hn hl (N.v ha S (PR.then S.R h λv σ1 bF s1 b1 R1 X1 V1 h1=>?_));have hm:=(mz hk).1;refine oS (P:=PR W σ1.st bF s1.heap (VO W) Q E) h1 (λx hx h2=>?_) λ_ h2=>oS (P:=PR W σ1.st bF s1.heap (VO W) Q E) h2 (λt ht h3=>ru ht V1 (agB O N (S.ext R1 X1) hm hc h3)) λ_ h3=>bZ h3 λn hn h4=>AA hn V1 (jA h4 λq h5=>?_)
 ·rw[kh hx]at V1;obtain⟨lt,rfl⟩:=V1;exact bZ h2 λo ho h3=>oS (P:=PR W σ1.st bF s1.heap (VO W) Q E) h3 (λp hp h4=>ad4 O N (S.ext R1 X1) lt hm hc (by rw[ho,Ce hp]) h4) λ_ h4=>aeG O N (S.ext R1 X1) lt hm hc ho h4
 ·rw[bJ]at q;rw[cG q.1,<-hm,cG q.2,Ox];exact Xv (R1.X O.toOk) O.QY (B6 O.toOkd N (fv:=.bi 5) (first:=[]) ((S.ext R1 X1).ext (R1.tok _) .refl) rfl .nil hc h5)
end
section
variable{W:WS}{C:EC}{g:Nat->Option AV}{d:Nat}{A:cR}{sc:cu}{cx:CX}{env:Env}{U U1_:ES}{Y cF:Nat->aG}{s s1_:aE}{E:ay->aE->Prop}
theorem Yh(R0:Rel W U.st Y s){q k:Nat}{kvs:List (Nat×AV)}{av:AV}{v:ay}{Q:Unit->aE->Prop}(hq:U.get q=aa (.ns kvs))(hv:VR W U.next Y av v)
  (h:∀s',Rel W (U.put q (.ns (putN kvs k av))).st Y s'->Ext W U.st Y s.heap (U.put q (.ns (putN kvs k av))).st Y s'.heap->Q () s'):aC (model W.prog W.w) A (nsSet (Y q) (nm k) v) Q E s:=by
 refine aV (R0.obj _ _ hq) λod h6 h7=>?_;refine cU (h7.putName k hv (xX W.w.params (nm k)) s.toks) λp1 p2 p3=>?_;obtain⟨U1,U2⟩:=R0.uN (o':=.ns (putN kvs k av)) hq h6 p2 (λ_=>p3) p1;unfold nsSet;refine aF (aF (wpAny_askSetting (bu (aF (LW (aF (xY h6 ?_)))))));refine dB h7 λes m q' hes=>?_;try clear h7
 rw[q'];dsimp only;have c:(!es.any (·.key.isStr (nm k))&&es.any (·.refKey))=ak:=by
  have e2:es.any (·.refKey)=ak:=by rw[<-Array.any_toList];exact FJ hes
  rw[e2,EW]
 rw[Wy,c];exact wpAny_updatePart h6 (h _ (U1.tok _) U2)
theorem jg.kd{t:pU}{id:Str}(N:jg W U.next Y sc cx env)(hk:sc.names.lookup id=aa t)(hf:t≠ .free):env.kindOf id=aa t:=by
 rcases N.kinds id with q|⟨q1,q2⟩
 ·rw[q,hk]
 ·rw[hk]at q2;exact absurd (aX q2) hf
theorem vI(R0:Rel W U.st Y s)(N:jg W U.next Y sc cx env){id:Str}{k:Nat}{cell:Bool}{a:AV}{v:ay}{σ':ES}{Q:Unit->aE->Prop}(hid:codeN id=aa k)(hk:sc.names.lookup id=aa (cond cell .cell .local))(va:VR W U.next Y a v)
  (e:gH cx k cell a U=aa σ') (h:∀s',Rel W σ'.st Y s'->Ext W U.st Y s.heap σ'.st Y s'.heap->Q () s'):aC (model W.prog W.w) A (storeName env id v) Q E s:=by
 have hn:=(mz hid).1;revert h;cases cell with
 |false=>refine oM e λkvs hx h=>?_;rw[storeName_local (N.kd hk nofun) (by rw[N.kind];rfl),N.loc.1,<-hn];exact Yh R0 (kQ hx) va h
 |true=>refine oE e λc hc e=>oM e λv0 hx h=>?_;refine Df (R0.obj c _ (Hv hx)) λr hr v' hdat hv=>?_;refine wpAny_storeName_cell N.kind (N.kd hk nofun) (by rw[<-hn];exact(FF N.cells hc).1) ⟨r,hr,hdat⟩ λh' hc' hs'=>?_;refine aV hc' λr' k1 k2=>?_;obtain⟨R1,X1⟩:=R0.nL (t:=s.toks) (o':=.cell (aa a)) (Hv hx) hs' k1 (λ_ _ _ vs q=>by rw[k2]at q;cases q) ⟨aa v,k2,va⟩;exact h _ R1 X1
theorem FP(f:Str×pU->List (Str×aG)->Sem (ForInStep (List (Str×aG))))
  (hf:∀name kind cells,f (name,kind) cells=if kind== .cell then(do let a <-alloc {cls:=.type "cell",data:=.cell af};pure (.yield ((name,a)::cells)))else pure (.yield cells)):
  ∀(names:List (Str×pU)) (ks:List Nat) (cs:List (Nat×Nat)) (acc:List (Str×aG)) (U:ES) (Y:Nat->aG) (s:aE) (Q:List (Str×aG)->aE->Prop),
   bB codeN ((names.filter λp=>p.2== .cell).map (·.1))=aa ks->Rel W U.st Y s->aO (oh U.next Y) cs acc->
   (∀ρ' s' acc',Rel W (eN ks cs U).2.st ρ' s'->Ext W U.st Y s.heap (eN ks cs U).2.st ρ' s'.heap->aO (oh (eN ks cs U).2.next ρ') (eN ks cs U).1 acc'->Q acc' s')->aC (model W.prog W.w) A (forIn names acc f) Q E s
 | [],ks,cs,acc,U,Y,s,Q,hk,R0,ha,h=>by obtain rfl:=aX hk;rw[Bv];exact bu (h Y s acc R0 .refl ha)
 |(name,kind)::r,ks,cs,acc,U,Y,s,Q,hk,R0,ha,h=>by
  rw[Bt,hf]
  by_cases q:(kind==EZ)=ah
  ·rw[if_pos q];rw[tH,if_pos q,iw]at hk;refine fE (qR hk) λb m h1 h2 dQ=>?_;subst dQ;refine cU (R0.jP (o:=.cell af) (r:={cls:=.type "cell",data:=.cell af}) rfl ⟨af,rfl,trivial⟩) λR1 X1 V1=>?_;have e:eN (b::m) cs U=eN m ((b,(U.add (.cell af)).1)::cs) (U.add (.cell af)).2:=rfl;rw[e]at h;refine aF (aF (Mh (bu ?_)));refine FP f hf r m _ ((name,s.heap.objs.size)::acc) _ _ _ Q h2 R1 (.cons (show oh _ _ (b,(U.add (.cell af)).1) (name,s.heap.objs.size)from⟨(mz h1).1.symm,nV V1.2,V1.1⟩) (ha.mono λa b z=>⟨z.1,by rw[X1.ag _ z.2.2];exact z.2.1,dm z.2.2 X1.le⟩)) λρ' s' acc' R2 X2 A2=>?_;exact h ρ' s' acc' R2 (X1.trans R0.lt R1.lt X2) A2
  ·rw[if_neg q];rw[tH,if_neg q]at hk;exact aF (bu (FP f hf r ks cs acc U Y s Q hk R0 ha h))
theorem yg{scope:cu}{globals:aG}{cl:List (Str×aG)}{cs:List (Nat×Nat)}{ks:List Nat}{qual:Str}{func:Option aG}{code:ay}{around:Option Env}{builtins:aG}{binds:List (Str×ay)}{Q:Env->aE->Prop}
  (hk:bB codeN (zc scope)=aa ks) (R0:Rel W U.st Y s) (ha:aO (oh U.next Y) cs cl)
  (h:∀ρ' s' jy,Rel W (eN ks cs (U.add (.ns [])).2).2.st ρ' s'->Ext W U.st Y s.heap (eN ks cs (U.add (.ns [])).2).2.st ρ' s'.heap->
   aO (oh (eN ks cs (U.add (.ns [])).2).2.next ρ') (eN ks cs (U.add (.ns [])).2).1 jy->(U.add (.ns [])).1<(eN ks cs (U.add (.ns [])).2).2.next->
   aC (model W.prog W.w) A (do
     for (name,v)in binds do storeName (newEnv scope (ρ' (U.add (.ns [])).1) globals jy qual func code around builtins) name v
     return(newEnv scope (ρ' (U.add (.ns [])).1) globals jy qual func code around builtins)) Q E s'):
  aC (model W.prog W.w) A (newFunctionEnv scope globals cl binds qual func code around builtins) Q E s:=by
 refine cU (R0.jP (o:=.ns []) (r:={cls:=.type (if around.isSome then "dict" else "frame"),data:=.dict #[]}) rfl ⟨#[],0,rfl,.nil⟩) λR1 X1 V1=>?_;unfold newFunctionEnv;refine aF (Mh (aF ?_));refine FP _ (λname kind cells=>by cases hkc:kind==EZ<;>simp[hkc]) scope.names ks cs cl _ _ _ _ hk R1 (ha.mono λa b z=>⟨z.1,by rw[X1.ag _ z.2.2];exact z.2.1,dm z.2.2 X1.le⟩) λρ' s' acc' R2 X2 A2=>?_;have q:=h ρ' s' acc' R2 (X1.trans R0.lt R1.lt X2) A2 (dm V1.1 X2.le);rw[X2.ag _ V1.1,<-nV V1.2]at q;cases around<;>exact q
end
section
variable{W:WS}{C:EC}{g:Nat->Option AV}{d:Nat}{A:cR}{sc:cu}{cx:CX}{env:Env}{U U1_:ES}{Y cF:Nat->aG}{s s1_:aE}{Q:ay->aE->Prop}{E:ay->aE->Prop}
variable{ih:Ev}{f:Nat}
theorem PR.HC{I H γ δ:Type}{V:Nat->(Nat->aG)->I->H->Prop}{V':Nat->(Nat->aG)->γ->δ->Prop}{Q:H->aE->Prop}{Q':δ->aE->Prop}{k:I->ES->R γ}{r:R I}(R0:Rel W U.st Y s)(h:PR W U.st Y s.heap V' Q' E (bindR (Mine.gP r) k))
  (K:∀a U1_ cF s1_ b,Rel W U1_.st cF s1_->Ext W U.st Y s.heap U1_.st cF s1_.heap->V U1_.next cF a b->PR W U1_.st cF s1_.heap V' Q' E (k a U1_)->Q b s1_) {E':ay->aE->Prop}:PR W U.st Y s.heap V Q E' r:=by
 refine PR.gP (E:=E) (PR.then (k:=k) R0 ?_ K);exact h
theorem bL.v0(N:bL W C g ih){c:CE}{ast:aS}{E':ay->aE->Prop}{Q:ay->aE->Prop}{γ δ:Type}{V':Nat->(Nat->aG)->γ->δ->Prop}{Q':δ->aE->Prop}{k:AV->ES->R γ}(hc:cE g f sc ast=aa c)(S:aZ W C d A sc cx env U Y s)
  (h:PR W U.st Y s.heap V' Q' E (bindR (gP (bw ih d cx c U)) k))
  (K:∀a U1_ cF s1_ b,aZ W C d A sc cx env U1_ cF s1_->Ext W U.st Y s.heap U1_.st cF s1_.heap->VR W U1_.next cF a b->PR W U1_.st cF s1_.heap V' Q' E (k a U1_)->Q b s1_):aC (model W.prog W.w) A (eval ast env) Q E' s:=
 N.v hc S (PR.HC S.R h λa U1_ cF s1_ b R1 X1 V1 h1=>K a U1_ cF s1_ b (S.ext R1 X1) X1 V1 h1)
theorem Xj{elt target iter:aS}{ifs:List aS}{scope:cu}{pos:Pos}{it acc:ay}{R:Result->aE->Prop}
  (turn:aC (model W.prog W.w) A (pyNext it) (λr s1_=>match r with
   |none=>R (.ok .next) s1_
   |some v=>aC (model W.prog W.w) A (assign target env v) (λ_ s2_=>
     aC (model W.prog W.w) A (forIn ifs ah λc r=>if r=ah then do let ok <-isTrue c env (eval c env);pure (xU ok)else pure (xU r)) (λok s3_=>
      if ok=ah then aC (model W.prog W.w) A (eval elt env) (λx s4_=>aC (model W.prog W.w) A (call (.builtin "list.append") [acc,x]) (λ_ s5_=>fj (model W.prog W.w) A (.compLoop (.ListComp elt [⟨target,iter,ifs,0⟩] scope pos) 0 it acc env) R s5_) (λ_ _=>False) s4_) (λ_ _=>False) s3_
      else fj (model W.prog W.w) A (.compLoop (.ListComp elt [⟨target,iter,ifs,0⟩] scope pos) 0 it acc env) R s3_) (λ_ _=>False) s2_) (λ_ _=>False) s1_) (λ_ _=>False) s)
  (ht:∀v,letOwnedTupleGo target it v=pure ():=by intro _;rfl):
  fj (model W.prog W.w) A (.compLoop (.ListComp elt [⟨target,iter,ifs,0⟩] scope pos) 0 it acc env) R s:=by
 refine EU ?_;show aC _ A ((compTurn (.ListComp elt [⟨target,iter,ifs,0⟩] scope pos) 0 it acc env).onRaise (λx=>do noteFrame x env;theTreesLotGoes x)) _ _ s;refine Mi ?_;rw[compTurn_list];refine aF (jZ (aF (eL turn (λr s1_ h1_=>?_) λ_ _ h'=>h'.elim)));cases r with
 |none=>exact bu h1_
 |some v=>
  refine aF (tO (ht v) ?_);refine aF (eL h1_ (λ_ s2_ h2_=>aF (eL h2_ (λok s3_ h3_=>?_) λ_ _ h'=>h'.elim)) λ_ _ h'=>h'.elim);cases ok with
  |false=>exact bu ⟨rfl,h3_⟩
  |true=>exact aF (aF (eL h3_ (λx s4_ h4_=>aF (eL h4_ (λ_ s5_ h5_=>bu (bu ⟨rfl,h5_⟩)) λ_ _ h'=>h'.elim)) λ_ _ h'=>h'.elim))
theorem Bs(S:aZ W C d A sc cx env U Y s){id:Str}{k:Nat}{cell:Bool}{a:AV}{v:ay}{σ':ES}{px:Pos}{Q:Unit->aE->Prop}(hid:codeN id=aa k)(hk:sc.names.lookup id=aa (cond cell .cell .local))(va:VR W U.next Y a v)
  (e:gH cx k cell a U=aa σ') (h:∀s',Rel W σ'.st Y s'->Ext W U.st Y s.heap σ'.st Y s'.heap->Q () s'):aC (model W.prog W.w) A (assign (.Name id px) env v) Q E s:=
 wpAny_assign_Name (vI S.R S.N hid hk va e h)
theorem M7{I H:Type}{V:Nat->(Nat->aG)->I->H->Prop}{h:cy}{r:R I}{Q:H->aE->Prop}{E:ay->aE->Prop}{U:St}(p:PR W U Y h V Q E (live d r)):d≠0/\PR W U Y h V Q E r:=by
 cases d with
 |zero=>exact p.elim
 |succ d=>exact⟨vD _,p⟩
theorem acB(O:Okc W C)(N:bL W C g ih){elt:CE}{tgt:Nat}{own:Bool}{test:Option CE}{ie iN:aS}{it acc:Nat}{ifs:List aS}{t:Str}{px pos:Pos}{te:Option aS}{Q:aE->Prop}{sc':cu}
  (hc:cE g f sc ie=aa elt) (hid:codeN t=aa tgt) (hk:sc.names.lookup t=aa (cond own .cell .local)) (ht:cOpt (cE g f sc) te=aa test) (hif:te.toList=ifs) (S:aZ W C d A sc cx env U Y s) (hi:it<U.next) (hacc:acc<U.next)
  (h:PR W U.st Y s.heap (λ_ _ o (_:Unit)=>o=Out.u) (λ_=>Q) (λ_ _=>False) (O0 C ih d cx elt tgt own it test acc U)):
  fj (model W.prog W.w) A (.compLoop (.ListComp ie [⟨.Name t px,iN,ifs,0⟩] sc' pos) 0 (.ref (Y it)) (.ref (Y acc)) env) (λr s'=>(∃f,r= .ok f)/\Q s') s:=by
 refine Xj ?_;obtain⟨hd0,h⟩:=M7 h;refine bZ h λp hn h=>?_;obtain⟨o,σ1⟩:=p;cases o with
 |none=>exact next_end O S.R (S.F.hh hd0) hn λs' R1 X1=>⟨⟨_,rfl⟩,h Y s' () R1 X1 rfl⟩
 |some v=>
  refine next_item O S.R hn λs1 b R1 X1 V1=>bZ (PR.from S.R R1 X1 h) λσ2 hs h=>Bs (S.ext R1 X1) hid hk V1 hs λs2 R2 X2=>?_;have S2:=(S.ext R1 X1).ext R2 X2;have mX:=X1.trans S.R.lt R1.lt X2;have hi2:=dm hi mX.le;have ha2:=dm hacc mX.le;have h:=PR.from R1 R2 X2 h;have again:∀{σ3:ES} {dg:Nat->aG} {s3:aE},aZ W C d A sc cx env σ3 dg s3->Ext W σ2.st Y s2.heap σ3.st dg s3.heap->PR W σ3.st dg s3.heap (λ_ _ o (_:Unit)=>o=Out.u) (λ_=>Q) (λ_ _=>False) (ih d (.comp cx elt tgt own it test acc) σ3)->
    fj (model W.prog W.w) A (.compLoop (.ListComp ie [⟨.Name t px,iN,ifs,0⟩] sc' pos) 0 (.ref (Y it)) (.ref (Y acc)) env) (λr s'=>(∃f,r= .ok f)/\Q s') s3:=λ{σ3 dg s3} S3 X3 h=>by
   rw[<-X3.ag _ hi2,<-X3.ag _ ha2];exact N.comp hc hid hk ht hif S3 (dm hi2 X3.le) (dm ha2 X3.le) h
  have rest:∀{b:Bool} {σ3:ES} {dg:Nat->aG} {s3:aE},aZ W C d A sc cx env σ3 dg s3->Ext W σ2.st Y s2.heap σ3.st dg s3.heap->PR W σ3.st dg s3.heap (λ_ _ o (_:Unit)=>o=Out.u) (λ_=>Q) (λ_ _=>False) (HJ ih d cx elt tgt own it test acc b σ3)->
    (if b=ah then aC (model W.prog W.w) A (eval ie env) (λx s4_=>aC (model W.prog W.w) A (call (.builtin "list.append") [.ref (Y acc),x]) (λ_ s5_=>fj (model W.prog W.w) A (.compLoop (.ListComp ie [⟨.Name t px,iN,ifs,0⟩] sc' pos) 0 (.ref (Y it)) (.ref (Y acc)) env) (λr s'=>(∃f,r= .ok f)/\Q s') s5_) (λ_ _=>False) s4_) (λ_ _=>False) s3
    else fj (model W.prog W.w) A (.compLoop (.ListComp ie [⟨.Name t px,iN,ifs,0⟩] sc' pos) 0 (.ref (Y it)) (.ref (Y acc)) env) (λr s'=>(∃f,r= .ok f)/\Q s') s3):=λ{b σ3 dg s3} S3 X3 h=>by
   cases b with
   |false=>rw[if_neg (by decide)];exact again S3 X3 h
   |true=>rw[if_pos rfl];refine N.v0 hc S3 h λw bA gy s4 u S4 X4 V4 h4=>?_;refine bZ h4 λxs hx h5=>jA h5 λhf h6=>?_;have Ay:=X3.trans R2.lt S3.R.lt X4;obtain⟨ys,hl,hv⟩:=S4.R.isPlain (jM hx);rw[<-Ay.ag _ ha2];refine Wv hl (λh' hl' hb=>?_) (by rw[gp];exact cL (aT (ao hv.size) (cC (iB hf))) rfl);obtain⟨R5,X5⟩:=S4.R.putL (t:=s4.toks) (ys:=xs++[w]) (jM hx) hb hl' (by rw[Lf];exact hv.append (.cons V4 .nil));rw[Ay.ag _ ha2];exact again (S4.ext R5 X5) (Ay.trans R2.lt S4.R.lt X5) (PR.from S4.R R5 X5 h6)
  cases te with
  |none=>obtain rfl:=aX ht;subst hif;exact wpAny_tests_nil (rest S2 .refl h)
  |some z=>subst hif;clear again;revert h rest;refine oM ht λq hz h rest=>wpAny_tests_one (N.b hz S2 (PR.HC (k:=λt σ3=>HJ ih d cx elt tgt own it (aa q) acc t σ3) R2 h λb σ3 dg s3 b3 R3 X3 V3 h3=>?_));obtain rfl:b=b3:=V3;exact rest (S2.ext R3 X3) X3 h3
end
theorem ES.add_get(U:ES)(o:AO){x:Nat}(h:x<U.next):(U.add o).2.get x=U.get x:=by rw[ES.add_eq];exact(Tr.r7 o 40 U.t U.next x).1 (iJ h)
theorem ES.NV(U:ES)(o:AO):(U.add o).2.next=U.next+1:=by rw[ES.add_eq]
theorem E7:∀(ks:List Nat) (cs:List (Nat×Nat)) (U:ES),U.next<=(eN ks cs U).2.next/\∀x,x<U.next->(eN ks cs U).2.get x=U.get x
 | [],_,U=>⟨cN _,λ_ _=>rfl⟩
 |k::ks,cs,U=>by have e:eN (k::ks) cs U=eN ks ((k,(U.add (.cell af)).1)::cs) (U.add (.cell af)).2:=rfl;obtain⟨h1,h2⟩:=E7 ks ((k,(U.add (.cell af)).1)::cs) (U.add (.cell af)).2;rw[e];have n1:=ES.NV U (.cell af);exact⟨by exact aR (aT (au n1) (aM h1)) rfl,λx hx=>(h2 x (aA (aT (aq hx) (au n1)) rfl)).trans (ES.add_get U _ hx)⟩
section
variable{W:WS}{C:EC}{g:Nat->Option AV}{d:Nat}{A:cR}{sc:cu}{cx:CX}{env:Env}{U U1_:ES}{Y cF:Nat->aG}{s s1_:aE}{Q:ay->aE->Prop}{E:ay->aE->Prop}
variable{ih:Ev}{f:Nat}
theorem XH{L:List Str}:∀{free:List Nat} {jy:List (Nat×Nat)} {n:Nat} {cells:List (Str×aG)},aO (oh n Y) cx.cells cells->bB codeN L=aa free->wc cx free=aa jy->
  (∀x∈L,∃a,cells.lookup x=aa a)/\aO (oh n Y) jy (L.map λx=>(x,(cells.lookup x).getD 0)):=by
 induction L with
 |nil=>intro free jy n cells _ hf hc;obtain rfl:=aX hf;(injection hc with hc;subst hc);exact⟨(λ_ h=>nomatch h),.nil⟩
 |cons x L ih=>
  intro free jy n cells N hf hc;revert hc;refine pZ hf λb m h1 h2 hc=>oE hc λc hl hc=>oM hc λm' hm=>?_;obtain⟨k1,k2⟩:=FF N hl;rw[(mz h1).1]at k1;obtain⟨i1,i2⟩:=ih N h2 hm;refine⟨λy hy=>?_,?_⟩
  ·rcases List.mem_cons.mp hy with rfl|hy
   ·exact⟨_,k1⟩
   ·exact i1 y hy
  ·rw[iw,k1];exact .cons ⟨(mz h1).1.symm,rfl,k2⟩ i2
theorem Fb(env:Env):∀(names:List (Str×pU)) (acc:List (Str×aG)),(∀x∈(names.filter λp=>p.2== .free).map (·.1),∃a,env.cells.lookup x=aa a)->
  (forIn names acc (λ(p:Str×pU) (cs:List (Str×aG))=>(match p with|(name,kind)=>if(kind==vF)=ah then do let c <-cellOf env name;pure (xU ((name,c)::cs))else pure (xU cs):Sem (ForInStep (List (Str×aG))))))=
   (pure ((((names.filter λp=>p.2== .free).map (·.1)).map λx=>(x,(env.cells.lookup x).getD 0)).reverse++acc):Sem (List (Str×aG)))
 | [],acc,_=>by rw[Bv];rfl
 |(name,kind)::r,acc,h=>by
  rw[Bt]
  by_cases q:(kind==vF)=ah
  ·rw[tH,if_pos q,iw]at h;obtain⟨a,ha⟩:=h name (.head _);have e1:cellOf env name=pure a:=by unfold cellOf;rw[ha]
   dsimp only;rw[if_pos q,e1,pure_bind,pure_bind];dsimp only;rw[Fb env r _ λx hx=>h x (.tail _ hx),tH,if_pos q,iw,iw,rQ,ha];simp
  ·rw[tH,if_neg q]at h;dsimp only;rw[if_neg q,pure_bind];dsimp only;rw[Fb env r acc h,tH,if_neg q]
theorem LM{scope:cu}{free:List Nat}{jy:List (Nat×Nat)}(N:jg W U.next Y sc cx env)(hf:oq scope=aa free)(hc:wc cx free=aa jy):
  ∃cl,closureFor scope env=pure cl/\aO (oh U.next Y) jy cl:=by
 obtain⟨h1,h2⟩:=XH (n:=U.next) N.cells hf hc;refine⟨_,?_,h2⟩;have e:closureFor scope env=forIn scope.names [] (λ(p:Str×pU) (cs:List (Str×aG))=>(match p with|(name,kind)=>if(kind==vF)=ah then do let c <-cellOf env name;pure (xU ((name,c)::cs))else pure (xU cs):Sem (ForInStep (List (Str×aG))))):=by unfold closureFor;simp only[bind_pure]
 rw[e,Fb env scope.names [] λx hx=>h1 x (List.mem_reverse.mpr hx),lJ,List.map_reverse]
noncomputable def Cx(M:Model)(A:cR)(E:ay->aE->Prop)(Q:ay->aE->Prop)(use:Option (ay->Sem Unit))(acc:ay)(L:aG)(s':aE):Prop:=match use with
 |none=>∃m,s'.heap.Ns L m/\∀h' m',h'.Ns L m'->pN L s'.heap h'->Q acc {s' with heap:=h'}
 |some u=>aC M A (u acc) (λ_ s''=>∃m,s''.heap.Ns L m/\∀h' m',h'.Ns L m'->pN L s''.heap h'->Q .none {s'' with heap:=h'}) E s'
theorem ZV{M:Model}{e:aS}{scope:cu}{pos:Pos}{newAcc first:Sem ay}{gc:Bx}{gs:List Bx}{cl:List (Str×aG)}{use:Option (ay->Sem Unit)}
  (hcl:clausesOf e=gc::gs) (hs:∀x,foldedSetIterable gc.iter env x=pure x) (hclos:closureFor scope env=pure cl)
  (hkind:scope.kind= .function) (hnames:∀x∈scope.names,x.2= .local->scope.names.lookup x.1=aa .local)
  (h:aC M A first (λx s1_=>aC M A (pyIter x) (λit s2_=>aC M A newAcc (λacc s3_=>
   aC M A (newFunctionEnv scope env.globals cl [] env.qual af .none (aa env)) (λcenv s4_=>fj M A (.compStart e 0 it acc {cenv with scope:=relabel scope env}) (λr s'=>(∃f,r= .ok f)/\Cx M A E Q use acc cenv.locals s') s4_) E s3_) E s2_) E s1_) E s):
  aC M A (comprehension e scope env pos newAcc ak first use) Q E s:=by
 unfold comprehension;rw[hclos,hcl];refine aF (eL h (λx s1_ h1_=>aF (jZ (aF (tO (hs x) (aF (gk (eL h1_ (λit s2_ h2_=>
  wpAny_standIf (aF (eL h2_ (λacc s3_ h3_=>aF (bu (aF (eL h3_ (λcenv s4_ h4_=>?_) λ_ _ h'=>h')))) λ_ _ h'=>h')))
   λ_ _ h'=>h'))))))) λ_ _ h'=>h')
 dsimp only;have hv:∀x∈(scope.names.filter λx=>(x.2== .local||x.2== .cell)&&x.1 != (".0" :Str)).reverse,x.2= .local->
   Env.kindOf {cenv with scope:=relabel scope env} x.1=aa .local:=λx hx hl=>lookup_relabel_local (hnames x (List.mem_filter.mp (List.mem_reverse.mp hx)).1 hl)
 have hv':∀x∈(scope.names.filter λx=>(x.2== .local||x.2== .cell)&&x.1 != (".0" :Str)).reverse.drop 1++(scope.names.filter λx=>(x.2== .local||x.2== .cell)&&x.1 != (".0" :Str)).reverse.take 1,
   x.2= .local->Env.kindOf {cenv with scope:=relabel scope env} x.1=aa .local:=λx hx hl=>by
  rcases List.mem_append.mp hx with h1|h1
  ·exact hv x (WM h1) hl
  ·exact hv x (WO h1) hl
 refine gk (aF (By (gk (wpAny_run (BJ h4_ λr s' hr=>?_)))));obtain⟨⟨fl,rfl⟩,hr⟩:=hr;cases use with
 |none=>obtain⟨m,hn,hr⟩:=hr;exact aF (gk (wpAny_comp_letGo (cenv:={cenv with scope:=relabel scope env}) hkind _ s' m hv hn λh' m' hn' hs'=>bu (hr h' m' hn' hs')))
 |some u=>refine aF (yr (aF (gk (eL hr (λ_ s'' hr'=>?_) λ_ _ h'=>h'))));obtain⟨m,hn,hr'⟩:=hr';exact aF (wpAny_comp_letGo (cenv:={cenv with scope:=relabel scope env}) hkind _ s'' m hv' hn λh' m' hn' hs'=>bu (hr' h' m' hn' hs'))
theorem L6{env:Env}:∀(names:List (Str×pU)) (x:Str),
  GW ((names.map λ(n,k)=>if(k==vF&&env.scope.kind== .function&&env.kindOf n==aa .cell)then(n,EZ)else(n,k)).lookup x) (names.lookup x)
 | [],_=>.inl rfl
 |(n,k)::r,x=>by
  have ih:=@L6 env r x;show GW (Fi x ((if(k==vF&&env.scope.kind== .function&&env.kindOf n==aa .cell)=ah then(n,EZ)else(n,k))::_)) _;cases hx:x==n with
  |true=>
   by_cases hc:(k==vF&&env.scope.kind== .function&&env.kindOf n==aa .cell)=ah
   ·rw[if_pos hc];simp only[l8,hx];rw[bJ,bJ]at hc
    right
    exact⟨rfl,by rw[eq_of_beq hc.1.1]⟩
   ·rw[if_neg hc];simp only[l8,hx];left;trivial
  |false=>
   by_cases hc:(k==vF&&env.scope.kind== .function&&env.kindOf n==aa .cell)=ah
   ·rw[if_pos hc];simp only[l8,hx];exact ih
   ·rw[if_neg hc];simp only[l8,hx];exact ih
theorem aei{it:Nat}{Q:ay->aE->Prop}(R0:Rel W U.st Y s)(e:GQ (U.get it)=ah)(h:Q (.ref (Y it)) s):aC (model W.prog W.w) A (pyIter (.ref (Y it))) Q E s:=by
 obtain⟨o,ho,e⟩:=er e;rcases Bool.or_eq_true_iff.mp e with e|e
 ·rcases Bool.or_eq_true_iff.mp e with e|e
  ·obtain⟨p,hp⟩:=Option.isSome_iff_exists.mp e;rw[Gw hp]at ho;exact C9 (R0.obj it _ ho) λr h1 h2 h3 h4=>wpAny_pyIter_listiter ⟨r,h1,h2,h3⟩ h
  ·obtain⟨p,hp⟩:=Option.isSome_iff_exists.mp e;rw[GF hp]at ho;refine aV (R0.obj it _ ho) λr h1 h2=>?_;rw[show r=_ from h2]at h1;exact wpAny_pyIter_rangeiter h1 h
 ·obtain⟨p,hp,e⟩:=er e;rw[Gz hp]at ho;refine zf (R0.obj it _ ho) λr h1 h2 u h3 h4=>?_;revert h3;rcases Bool.or_eq_true_iff.mp e with e|e
  ·obtain⟨y,hy⟩:=Option.isSome_iff_exists.mp e;exact oB hy h4 λh3=>WC ⟨r,h1,h2,h3⟩ h
  ·obtain⟨y,hy⟩:=Option.isSome_iff_exists.mp e;exact ru hy h4 λh3=>WC ⟨r,h1,h2,h3⟩ h
end
section
variable{W:WS}{C:EC}{g:Nat->Option AV}{d:Nat}{A:cR}{sc:cu}{cx:CX}{env:Env}{U U1_:ES}{Y cF:Nat->aG}{s s1_:aE}{Q:ay->aE->Prop}{E:ay->aE->Prop}
variable{ih:Ev}{f:Nat}
theorem Ext.cells{h h':cy}(X:Ext W U.st Y h U1_.st cF h'){l:List (Nat×Nat)}{m:List (Str×aG)}(c:aO (oh U.next Y) l m):aO (oh U1_.next cF) l m:=
 c.mono λa b z=>⟨z.1,by rw[X.ag _ z.2.2];exact z.2.1,dm z.2.2 X.le⟩
theorem aaN{kvs:List (Nat×AV)}{n:Nat}{o:Obj}(h:OR W n Y (.ns kvs) o):OR W n Y .iD o:=by
 refine dB h λes m hd h2=>?_;try clear h
 refine⟨es,m,hd,?_⟩;have:∀e∈es.toList,∃n t,e.key= .str n t:=by
  clear hd;generalize es.toList=l at h2;induction h2 with
  |nil=>intro e he;cases he
  |cons h _ ih=>
   intro e he;cases he with
   |head=>obtain⟨⟨t,h1⟩,_⟩:=h;exact⟨_,t,h1⟩
   |tail _ he=>exact ih e he
 exact λe he=>this e (Array.mem_toList_iff.mpr he)
theorem Nx(R0:Rel W U.st Y s){q:Nat}(hq:U.get q=aa .iD):∃m,s.heap.Ns (Y q) m:=by refine qX (R0.obj q _ hq) λo h1 es ep h2 h3=>?_;exact⟨λx=>nsFind es x,o,es,ep,h1,h2,h3,λ_=>rfl⟩
theorem Rel.mark(R0:Rel W U.st Y s){x:Nat}{o o':AO}(hx:U.get x=aa o)(h:∀r,OR W U.next Y o r->OR W U.next Y o' r)
  (hi:isNs o=ah->isNs o'=ah:=by intro z;first|rfl|exact absurd z nR|assumption):
  Rel W (U.put x o').st Y s/\Ext W U.st Y s.heap (U.put x o').st Y s.heap:=by
 refine aV (R0.obj x _ hx) λr h1 h2=>?_;exact R0.nL (t:=s.toks) hx (.refl _ _) h1 (λr0 e n=>by rw[h1]at e;obtain rfl:=aX e;exact n) (h r h2) hi
theorem Mz(R0:Rel W U.st Y s){q:Nat}(hq:U.get q=aa .iD){h':cy}{m':Str->Option ay}(hn:h'.Ns (Y q) m')(hb:pN (Y q) s.heap h'):
  Rel W U.st Y {s with heap:=h'}/\Ext W U.st Y s.heap U.st Y h':=by
 refine Oq hn λo es ep h1 h2 h3 _=>?_;try clear hn
 have q1:=R0.nL (t:=s.toks) (o':=.iD) hq hb h1 (λ_ _ _ vs z=>by rw[h2]at z;contradiction) ⟨es,ep,h2,h3⟩;have e:(U.put q .iD).st=U.st:=by
  rw[ES.mG hq];unfold St.put;show St.mk _ _=_;have:(λy=>if y=q then aa AO.iD else U.st.get y)=U.st.get:=by
   funext y
   by_cases z:y=q
   ·subst z;rw[if_pos rfl];exact hq.symm
   ·rw[if_neg z]
  rw[this]
 rw[e]at q1;exact q1
theorem FU:∀{a b:List Str},zj a b=ah->a=b
 | [],[],_=>rfl
 |a::l,b::m,h=>by
  unfold zj at h;cases q:a==b with
  |true=>rw[q]at h;rw[eq_of_beq q,FU h]
  |false=>rw[q]at h;exact cB h
 | [],_::_,h=>by exact cB h
 |_::_,[],h=>by exact cB h
theorem Qe{y:aS}{b:CE}(h:cE g f sc y=aa b):∀x,foldedSetIterable y env x=pure x:=by
 intro x;cases y<;>first|rfl|skip
 cases f<;>(exact aN h)
theorem Mj{I H γ:Type}{k1:I->ES->R H}{k2:H->ES->R γ}(r:R I):bindR (bindR r k1) k2=bindR r λa U=>bindR (k1 a U) k2:=by
 induction r with
 |ok a U=>rfl
 |exc x U=>rfl
 |alt a b dh dj=>show R.alt (bindR (bindR a k1) k2) (bindR (bindR b k1) k2)=R.alt _ _;rw[dh,dj];rfl
 |stuck=>rfl
theorem aa3{I:Type}(r:R I):bindR r .ok=r:=by
 induction r with
 |ok a U=>rfl
 |exc x U=>rfl
 |alt a b dh dj=>show R.alt (bindR a .ok) (bindR b .ok)=_;rw[dh,dj]
 |stuck=>rfl
theorem aaL{H:Type}{k:AV->ES->R H}(r:R Out):bindR (cA r) k=bindR r λo U=>bindR (Sj o U) k:=by
 induction r with
 |ok a U=>rfl
 |exc x U=>rfl
 |alt a b dh dj=>show R.alt (bindR (cA a) k) (bindR (cA b) k)=R.alt _ _;rw[dh,dj];rfl
 |stuck=>rfl
theorem adV{γ δ:Type}{V':Nat->(Nat->aG)->γ->δ->Prop}{Q':δ->aE->Prop}{Q:aE->Prop}{k:Unit->ES->R γ}{r:R Out}(R0:Rel W U.st Y s)(h:PR W U.st Y s.heap V' Q' E (bindR (jz r) k))
  (K:∀bT rH s5,Rel W bT.st rH s5->Ext W U.st Y s.heap bT.st rH s5.heap->PR W bT.st rH s5.heap V' Q' E (k () bT)->Q s5):PR W U.st Y s.heap (λ_ _ o (_:Unit)=>o=Out.u) (λ_=>Q) (λ_ _=>False) r:=by
 induction r with
 |ok o bT=>intro rH s5 b R5 X5 e5;rw[show o=Out.u from e5]at h;exact K bT rH s5 R5 X5 (PR.from R0 R5 X5 h)
 |exc x bT=>exact h.elim
 |alt a b dh dj=>exact⟨dh h.1,dj h.2⟩
 |stuck=>exact h.elim
theorem NO(O:Okc W C)(N:bL W C g ih){use:Option (ay->Sem Unit)}{elt src:CE}{tgt:Nat}{own:Bool}{test:Option CE}{free:List Nat}{ie iN:aS}{ifs:List aS}{t:Str}{px pos p0:Pos}{te:Option aS}{sc':cu}{γ δ:Type}{V':Nat->(Nat->aG)->γ->δ->Prop}{Q':δ->aE->Prop}{k:Out->ES->R γ}
  (wJ:cE g f sc iN=aa src) (helt:cE g f sc' ie=aa elt) (hfree:oq sc'=aa free) (hok:t9 sc' (cond own [t] [])=ah) (hid:codeN t=aa tgt) (hlk:sc'.names.lookup t=aa (cond own .cell .local)) (ht:cOpt (cE g f sc') te=aa test) (hif:te.toList=ifs)
  (S:aZ W C d A sc cx env U Y s) (h:PR W U.st Y s.heap V' Q' E (bindR (yY C ih d cx elt tgt own src test free U) k))
  (fin:∀acc q σ3 dg s3,aZ W C d A sc cx env σ3 dg s3->Ext W U.st Y s.heap σ3.st dg s3.heap->acc<σ3.next->σ3.get q=aa .iD->PR W σ3.st dg s3.heap V' Q' E (k (.v (.ref acc)) σ3)->Cx (model W.prog W.w) A E Q use (.ref (dg acc)) (dg q) s3):
  aC (model W.prog W.w) A (comprehension (.ListComp ie [⟨.Name t px,iN,ifs,0⟩] sc' pos) sc' env p0 (newList []) ak (eval iN env) use) Q E s:=by
 unfold t9 at hok;rw[bJ,bJ]at hok;obtain⟨⟨k1,k2⟩,k3⟩:=hok;have k1:=FU k1;have k2:sc'.kind= .function:=eq_of_beq k2;have k3:∀x∈sc'.names,x.2= .local->sc'.names.lookup x.1=aa .local:=λx hx hl=>by
  have:=List.all_eq_true.mp k3 x hx;rw[hl]at this
  simpa using this
 refine Ag h λjy hcl h=>aV (LM S.N hfree hcl) λcl c1 c2=>ZV rfl (Qe wJ) c1 k2 k3 ?_;rw[Mj]at h;refine N.v wJ S (PR.then S.R h λsv σ1 bF s1 b1 R1 X1 V1 h1=>Ag h1 λp hi h1=>My O R1 V1 hi λbU s2 R2 X2 l2=>?_);have h2:=PR.from R1 R2 X2 h1;have mX:=X1.trans S.R.lt R1.lt X2;have S2:=S.ext R2 mX;obtain⟨it,σ2⟩:=p;refine cU (R2.jP (o:=.list []) (r:={cls:=.type "list",dict:=af,data:=.seq ([]:List ay).toArray}) rfl ⟨_,_,rfl,.nil⟩) λR3 X3 V3=>?_;have mV:=mX.trans S.R.lt R2.lt X3;have h3:PR W (σ2.add (.list [])).2.st _ _ V' Q' E (bindR (Ol ih d cx elt tgt own test it (σ2.add (.list [])).1 ((σ2.add (.list [])).2.add (.ns [])).1 (eN (cond own [tgt] []) jy ((σ2.add (.list [])).2.add (.ns [])).2)) k):=PR.from R2 R3 X3 h2;have c2:=mV.cells c2;refine qI (yg (ks:=cond own [tgt] []) (by rw[k1];cases own with
  |false=>rfl
  |true=>show bB codeN [t]=aa [tgt];unfold bB;rw[hid];rfl) R3 c2 λgy s4 Kw R4 X4 A4 l4=>?_)
 rw[show(forIn ([]:List (Str×ay)) Fw _:Sem PUnit)=pure Fw from Bv,pure_bind];refine bu ?_;have h4:=PR.from R3 R4 X4 h3;generalize hq:((σ2.add (.list [])).2.add (.ns [])).1=q at*;generalize akU:(eN (cond own [tgt] []) jy ((σ2.add (.list [])).2.add (.ns [])).2)=pc at*;obtain⟨cells,bA⟩:=pc;refine ajM h4 λhit h4=>?_;rw[Mj]at h4;have l3:it<(σ2.add (.list [])).2.next:=dm l2 X3.le
 have ah7:it<bA.next:=dm l3 X4.le
 have Jq:gy it=bU it:=(X4.ag _ l3).trans (X3.ag _ l2);have aiM:gy (σ2.add (.list [])).1=s2.heap.objs.size:=by rw[X4.ag _ V3.1];exact(nV V3.2).symm
 have HU:(σ2.add (.list [])).1<bA.next:=dm V3.1 X4.le
 have w9:=mV.trans S.R.lt R3.lt X4;have S4:aZ W C d A sc' ⟨q,cx.fr,cells,cx.code⟩ {newEnv sc' (gy q) env.globals Kw env.qual af .none (aa env) eK with scope:=relabel sc' env} bA gy s4:=
  ⟨R4,⟨λid=>L6 sc'.names id,k2,S.N.gl,S.N.bi,⟨rfl,l4⟩,⟨by show env.frame=aa _;rw[w9.ag _ S.N.fr.2];exact S.N.fr.1,dm S.N.fr.2 w9.le⟩,A4⟩,
   S.F.ext w9 S.R.lt,λtb e=>by refine wo (S.T tb e) λa b c d1 d2=>?_;exact⟨dm a w9.le,b,c,d1,by rw[w9.ag tb a];exact d2⟩⟩
 have loop:fj (model W.prog W.w) A (.compLoop (.ListComp ie [⟨.Name t px,iN,ifs,0⟩] sc' pos) 0 (.ref (bU it)) (.ref s2.heap.objs.size) {newEnv sc' (gy q) env.globals Kw env.qual af .none (aa env) eK with scope:=relabel sc' env})
   (λr s'=>(∃f,r= .ok f)/\Cx (model W.prog W.w) A E Q use (.ref s2.heap.objs.size) (gy q) s') s4:=by
  rw[<-Jq,<-aiM];refine N.comp helt hid hlk ht hif S4 ah7 HU ?_;refine adV R4 h4 λbT rH s5 R5 X5 h5=>Ag h5 λkvs hkv h6=>?_;have hkv:=kQ hkv;obtain⟨R6,X6⟩:=R5.mark hkv (o':=.iD) λr hr=>aaN hr;have X05:=w9.trans S.R.lt R4.lt X5;have Vn:=X05.trans S.R.lt R5.lt X6;have eq:rH q=gy q:=X5.ag _ l4;have ea:rH (σ2.add (.list [])).1=gy (σ2.add (.list [])).1:=X5.ag _ HU;have gq:(bT.put q .iD).get q=aa .iD:=by have:=congrArg (λz=>St.get z q) (ES.mG (o:=.iD) hkv);exact this.trans (if_pos rfl)
  have ff:=fin (σ2.add (.list [])).1 q _ rH s5 (S.ext R6 Vn) Vn (dm HU (eo X5.le X6.le)) gq (PR.from R5 R6 X6 h6);rw[eq,ea]at ff;exact ff
 refine codeAny_compStart_list loop ?_;have:=aei (A:=A) (Q:=λit' s'=>fj (model W.prog W.w) A (.compLoop (.ListComp ie [⟨.Name t px,iN,ifs,0⟩] sc' pos) 0 it' (.ref s2.heap.objs.size) {newEnv sc' (gy q) env.globals Kw env.qual af .none (aa env) eK with scope:=relabel sc' env})
   (λr s'=>(∃f,r= .ok f)/\Cx (model W.prog W.w) A E Q use (.ref s2.heap.objs.size) (gy q) s') s') (E:=λ_ _=>False) R4 hit (by rw[Jq];exact loop)
 rw[Jq]at this;exact eL this (λ_ _ x=>x) λ_ _ x=>x.elim
end
structure Okg(W:WS)(C:EC)(g:Nat->Option AV):Prop extends Okf W C g where
 bmain:∃mg bm o,W.h0_.Ns eY mg/\mg "__builtins__" =aa (.ref bm)/\bm≠eK/\bm≠eY/\W.h0_.get? bm=aa o/\o.cls= .type "module" /\o.dict=aa eK/\o.data= .plain
 IF:∀e sc c f,sd sc=ah->cE g f sc e=aa c->W.lam e sc c
 Ua:∀e sc c,W.lam e sc c->sd sc=ah/\∃f,cE g f sc e=aa c
section
variable{W:WS}{C:EC}{g:Nat->Option AV}{d:Nat}{A:cR}{sc:cu}{cx:CX}{env:Env}{U U1_:ES}{Y cF:Nat->aG}{s s1_:aE}{Q:ay->aE->Prop}{E:ay->aE->Prop}
variable{ih:Ev}{f:Nat}
theorem OS(O:Okc W C)(N:bL W C g ih){elt src:CE}{tgt:Nat}{own:Bool}{test:Option CE}{free:List Nat}{ie iN:aS}{ifs:List aS}{t:Str}{px pos:Pos}{te:Option aS}{sc':cu}
  (wJ:cE g f sc iN=aa src) (helt:cE g f sc' ie=aa elt) (hfree:oq sc'=aa free) (hok:t9 sc' (cond own [t] [])=ah) (hid:codeN t=aa tgt) (hlk:sc'.names.lookup t=aa (cond own .cell .local)) (ht:cOpt (cE g f sc') te=aa test) (hif:te.toList=ifs)
  (S:aZ W C d A sc cx env U Y s) (h:PR W U.st Y s.heap (VO W) Q E (yY C ih d cx elt tgt own src test free U)):
  aC (model W.prog W.w) A (eval (.ListComp ie [⟨.Name t px,iN,ifs,0⟩] sc' pos) env) Q E s:=by
 rw[eval_ListComp];refine NO (use:=af) (k:=.ok) O N wJ helt hfree hok hid hlk ht hif S (by rw[aa3];exact h) λacc q σ3 dg s3 S3 X3 l3 hq h3=>?_;obtain⟨m,hm⟩:=Nx S3.R hq;refine⟨m,hm,λh' m' hn hb=>?_⟩;obtain⟨R4,X4⟩:=Mz S3.R hq hn hb;exact h3 _ _ _ R4 X4 ⟨_,rfl,l3,rfl⟩
theorem Yv{made:List (Nat×Nat×Nat)}:TriplesOk (made.flatMap λp=>[rawInt p.1,rawInt p.2.1,eB (Y p.2.2)]):=by
 induction made with
 |nil=>trivial
 |cons p r ih=>rw[rP];exact ih
theorem ZU{pos:Pos}{made:List (Nat×Nat×Nat)}:codeAmong pos (made.flatMap λp=>[rawInt p.1,rawInt p.2.1,eB (Y p.2.2)])=(vS made pos.line pos.col).map λk=>.ref (Y k):=by
 induction made with
 |nil=>rfl
 |cons p r ih=>rw[rP];show(if(((p.1:Nat):Int)==((pos.line:Nat):Int)&&((p.2.1:Nat):Int)==((pos.col:Nat):Int))=ah then aa (eB (Y p.2.2))else codeAmong pos (r.flatMap λp=>[rawInt p.1,rawInt p.2.1,eB (Y p.2.2)]))=(cond (aH p.1 pos.line&&aH p.2.1 pos.col) (aa p.2.2) (vS r pos.line pos.col)).map λk=>.ref (Y k);rw[fT,fT,IZ,IZ,ih,decide_eq_decide.mpr Int.ofNat_inj,decide_eq_decide.mpr Int.ofNat_inj];cases(decide (p.1=pos.line)&&decide (p.2.1=pos.col))<;>rfl
theorem Zn{line col k n:Nat}{l:List (Nat×Nat×Nat)}(h:∀p∈l,p.2.2<n)(e:vS l line col=aa k):k<n:=by
 induction l with
 |nil=>exact aN e
 |cons p r ih=>exact bS (P:=(· =aa k)) e (λ_ e=>sR e.symm (P:=λk=>k<n) (h p (.head _))) λ_ e=>ih (λq hq=>h q (.tail _ hq)) e
theorem aaE{n:Nat}{a:aG}{l:List (Nat×Nat×Nat)}(h:∀p∈l,p.2.2<n):l.flatMap (λp=>[rawInt p.1,rawInt p.2.1,eB (Y p.2.2)])=l.flatMap (λp=>[rawInt p.1,rawInt p.2.1,eB (dK Y n a p.2.2)]):=by
 induction l with
 |nil=>rfl
 |cons p r ih=>rw[rP,rP,ih λq hq=>h q (.tail _ hq),dw _ (h p (.head _))]
theorem ae6(O:Okg W C g)(N:bL W C g ih){b:CE}{free:List Nat}{body:aS}{sc':cu}{pos:Pos}(hok:sd sc'=ah)(hb:cE g f sc' body=aa b)(hfree:oq sc'=aa free)
  (S:aZ W C d A sc cx env U Y s) (h:PR W U.st Y s.heap (VO W) Q E (RE C cx pos.line pos.col b free U)):aC (model W.prog W.w) A (eval (.Lambda ⟨[],[],af,[],[],af,[]⟩ body sc' pos) env) Q E s:=by
 refine bZ h λtb ht h=>bZ h λmade hmade h=>bZ h λjy hcl h=>wo (S.T tb ht) λKc afF c hcode CH=>oE hmade λob hob hmade=>?_;have hmade:U.get tb=aa (.tab made):=by rw[hob,Ci hmade]
 obtain⟨r,hP,ps,rfl,hps,hlt⟩:=S.R.obj tb _ hmade;refine aV (LM S.N hfree hcl) λcl c1 c2=>?_;obtain⟨mg,bm,ob,b1,b2,b3,b4,b5,b6,b7,b8⟩:=O.bmain;have Vr:=S.R.new tb _ hmade;have hgP:eY≠Y tb:=λq=>by obtain⟨o,es,ep,e,_⟩:=b1;rw[q,Vr]at e;exact aN e
 have hbP:bm≠Y tb:=λq=>by rw[q,Vr]at b5;exact aN b5
 have hb':s.heap.BuiltinsAt mg (Y tb):=⟨bm,ob,b2,b3,b4,hbP,S.R.base _ _ b5,b6,b7,b8⟩;have hg':=b1.keeps S.R.base;have UE:=CH.keeps S.R.base;have UO:TriplesOk ps.toList:=by rw[hps];exact Yv
 have Eg:=ZU (Y:=Y) (pos:=pos) (made:=made);refine kla_eval rfl ?_;rw[afF];unfold Pe at h;cases hat:vS made pos.line pos.col with
 |some k=>
  rw[hat]at h Eg;dsimp only at h;have hk:=Zn hlt hat;refine kla_makeFunctionHit (mg:=mg) c1 S.N.gl hg' hcode UE hP UO (by rw[hps];exact Eg) hb' λctv h' tk hx hsz=>?_;obtain⟨R1,X1⟩:=S.R.grow (t:=tk) hx;have e:=ES.add_eq U (.fn cx.code jy k b);refine cU (R1.jP (U:=U) (o:=.fn cx.code jy k b) (r:=kla_obj "<lambda>" (W.qual cx.code++ "<lambda>") noParams body sc' cl ((mg "__name__").getD .none) (Y k) ctv) rfl
   ⟨m7 hk,body,sc',cl,_,ctv,O.IF _ _ _ _ hok hb,c2.mono λa b z=>⟨z.1,by rw[dw _ z.2.2];exact z.2.1,m7 z.2.2⟩,by rw[dw _ hk]⟩) λR2 X2 V2=>?_
  exact h _ _ _ R2 (X1.trans S.R.lt R1.lt X2) ⟨_,rfl,V2⟩
 |none=>
  rw[hat]at h Eg;dsimp only at h;refine kla_makeFunction (mg:=mg) c1 S.N.gl hg' hcode UE hP UO (by rw[hps];exact Eg) hgP hb' λc' ctv h' tk hx hge hlt' hrec htb=>?_;obtain⟨c'',oc,vs,tt,e1,hoc,hvs,hv1⟩:=hrec;cases e1;have hnew:s.heap.get? c'=af:=Heap.get?_none_of_le hge;have s1:(h'.update (Y tb) λ_=>tabObj ps).get? (Y tb)=aa (tabObj ps):=tD _ htb rfl;have cne:c'≠Y tb:=λq=>by rw[q,hP]at hnew;exact lV hnew
  have grow:∀a o,s.heap.get? a=aa o->(h'.update (Y tb) λ_=>tabObj ps).get? a=aa o:=λa o e=>by
   by_cases q:a=Y tb
   ·subst q;rw[hP]at e;(injection e with e;subst e);exact s1
   ·rw[tE _ _ _ _ q];exact hx a o q e
  refine cU (S.R.IE (o:=.code cx.code) (r:=oc) (D:=c') (t:=tk) grow hnew (by rw[tE _ _ _ _ cne];exact hoc) ⟨vs,tt,hvs,hv1⟩) λR1 X1 V1=>?_;have akY:tb<(U.add (.code cx.code)).2.next:=by rw[ES.NV];exact Jo (aq Kc) rfl
  have Ks:dK Y U.next c' tb=Y tb:=dw _ Kc
  have gtb:(U.add (.code cx.code)).2.get tb=aa (.tab made):=(ES.add_get U _ Kc).trans hmade;have ek:(U.add (.code cx.code)).1=U.next:=by rw[ES.add_eq]
  have vp:(U.add (.code cx.code)).1<(U.add (.code cx.code)).2.next:=V1.1
  unfold PL at h;generalize hk:(U.add (.code cx.code)).1=k at*;generalize sC:(U.add (.code cx.code)).2=σ1 at*;have bk:dK Y U.next c' k=c':=by rw[ek];exact mw
  have sb:pN (dK Y U.next c' tb) (h'.update (Y tb) λ_=>tabObj ps) h':=by rw[Ks];exact⟨(vB (a:=Y tb) (h:=h') (f:=λ_=>tabObj ps)).1.symm,λa ha=>(tE _ _ _ _ ha).symm⟩
  obtain⟨R2,X2⟩:=R1.nL (t:=tk) (o':=.tab (made++[(pos.line,pos.col,k)])) (r':=tabObj (ps++ #[rawInt pos.line,rawInt pos.col,.ref c'])) gtb sb (by rw[Ks];exact htb)
   (λr e n=>by rw[Ks]at e;have e:(h'.update (Y tb) λ_=>tabObj ps).get? (Y tb)=aa r:=e;rw[s1]at e;obtain rfl:=aX e;exact(n _ rfl).elim)
   ⟨_,rfl,by rw[xM,hps,List.flatMap_append];rw[aaE (a:=c') hlt,rP,List.flatMap_nil,bk];rfl,
   λp hp=>by
    rcases List.mem_append.mp hp with hp|hp
    ·exact dm (hlt p hp) X1.le
    ·cases List.mem_singleton.mp hp;exact vp⟩
  have Vx:=X1.trans S.R.lt R1.lt X2;have n2:σ1.next=(σ1.put tb (.tab (made++[(pos.line,pos.col,k)]))).next:=rfl
  refine cU (R2.jP (o:=.fn cx.code jy k b) (r:=kla_obj "<lambda>" (W.qual cx.code++ "<lambda>") noParams body sc' cl ((mg "__name__").getD .none) c' ctv) rfl
   ⟨m7 vp,body,sc',cl,_,ctv,O.IF _ _ _ _ hok hb,(Vx.cells c2).mono λa b z=>⟨z.1,by rw[dw _ z.2.2];exact z.2.1,m7 z.2.2⟩,by rw[dw _ (show k<(σ1.put tb (.tab (made++[(pos.line,pos.col,k)]))).next from vp),bk]⟩) λR3 X3 V3=>?_
  exact h _ _ _ R3 (Vx.trans S.R.lt R2.lt X3) ⟨_,rfl,V3⟩
theorem abA(N:bL W C g ih){a b:CE}{x y:aS}{pos:Pos}(S:aZ W C d A sc cx env U Y s)(ha:cE g f sc x=aa a)(hb:cE g f sc y=aa b)(h:PR W U.st Y s.heap (VO W) Q E (C3 ih d cx [(a,b)] U)):
  aC (model W.prog W.w) A (eval (.Dict [aa x] [y] pos) env) Q E s:=by
 unfold C3 at h;dsimp only at h;rw[show U.add (.dict [])=((U.add (.dict [])).1,(U.add (.dict [])).2)from rfl]at h;unfold Oj at h;dsimp only at h;refine cU (S.R.jP (o:=.dict []) (r:={cls:=.type "dict",data:=.dict #[]}) rfl ⟨[],⟨#[],0,⟨rfl,rfl,rfl⟩,rfl,λ_ he=>by simp at he,Pairs.nil,xZ⟩,.nil⟩) λR1 X1 V1=>?_;have S1:=S.ext R1 X1;have h:=PR.from S.R R1 X1 h;have ea:=(nV V1.2).symm;have la:=V1.1;generalize hx:(U.add (.dict [])).1=q at*;generalize sC:(U.add (.dict [])).2=σ1 at*;refine wpAny_Dict_pairs (knd:=su W.prog W.w) (pairs:=[(eval x env,do let x <-eval y env;standAt pos;pure x)]) rfl (by simp) (by simp) ?_;refine evalPairs_cons (N.v0 ha S1 h λkv σ2 bU s2 b2 S2 X2 V2 h2=>aF (N.v0 hb S2 h2 λvv σ3 dg s3 b3 S3 X3 V3 h3=>aF (jZ (bu (evalPairs_nil ?_)))));refine bZ h3 λk hk h4=>bZ h4 λl hl h5=>jA h5 λhn h6=>?_;have hd:=qZ hl;rw[List.isEmpty_iff.mp hn]at hd;have UK:=X2.trans S1.R.lt S2.R.lt X3;have e3:dg q=s.heap.objs.size:=by rw[UK.ag _ la];exact ea
 refine aV (S3.R.isDict hd) λps d1 d2=>?_;cases d2;rw[e3]at d1;refine⟨[(k.at W,b3)],⟨Gp hk (X3.vr V2),rfl,trivial⟩,d1,λh' hd' hb'=>?_⟩;obtain⟨R4,X4⟩:=S3.R.GL (t:=s3.toks+1) (kvs':=[(k,vv)]) hd (by rw[e3];exact hb') (by rw[e3];exact hd') (.cons ⟨rfl,V3⟩ .nil);have:=h6 _ _ (.ref (dg q)) R4 X4 ⟨_,rfl,dm la (eo UK.le X4.le),rfl⟩;rw[e3]at this;exact this
end
section
variable{W:WS}{C:EC}{g:Nat->Option AV}{d:Nat}{A:cR}{sc:cu}{cx:CX}{env:Env}{U U1_:ES}{Y cF:Nat->aG}{s s1_:aE}{Q:ay->aE->Prop}{E:ay->aE->Prop}
variable{ih:Ev}{f:Nat}
theorem Zt{I H:Type}{k:I->H}{a:Option I}{c:H}(h:a.map k=aa c):∃x,a=aa x/\c=k x:=oM h λx hx=>⟨x,hx,rfl⟩
inductive EI(g:Nat->Option AV)(n:Nat)(sc:cu):aS->CE->Prop
 |bad (e):EI g n sc e .bad
 |con (k kd pos c) (hc:cE g (n+1) sc (.Constant k kd pos)=aa c):EI g n sc (.Constant k kd pos) c
 |name (id pos c) (hc:cE g (n+1) sc (.Name id pos)=aa c):EI g n sc (.Name id pos) c
 |b2 (op x y pos a b) (h1:cE g n sc x=aa a) (h2:cE g n sc y=aa b):EI g n sc (.BoolOp op [x,y] pos) (mR op a b)
 |b3 (op x y z pos a b e) (h1:cE g n sc x=aa a) (h2:cE g n sc y=aa b) (h3:cE g n sc z=aa e):EI g n sc (.BoolOp op [x,y,z] pos) (mR op a (mR op b e))
 |dU (x pos a) (h1:cE g n sc x=aa a):EI g n sc (.UnaryOp .Not x pos) (.dU a)
 |neg (x pos a) (h1:cE g n sc x=aa a):EI g n sc (.UnaryOp .USub x pos) (.neg a)
 |bin (x o y pos a b) (h1:cE g n sc x=aa a) (h2:cE g n sc y=aa b):EI g n sc (.BinOp x o y pos) (.bin o a b)
 |ite (t x y pos z a b) (h1:cE g n sc t=aa z) (h2:cE g n sc x=aa a) (h3:cE g n sc y=aa b):EI g n sc (.IfExp t x y pos) (.ite z a b)
 |cmp (x o y pos a b) (h1:cE g n sc x=aa a) (h2:cE g n sc y=aa b):EI g n sc (.Compare x [o] [y] pos) (.cmp a o b)
 |k8 (x o o' y z pos a b e) (h1:cE g n sc x=aa a) (h2:cE g n sc y=aa b) (h3:cE g n sc z=aa e):EI g n sc (.Compare x [o,o'] [y,z] pos) (.k8 a o b o' e)
 |list (es pos a) (h1:bB (cE g n sc) es=aa a):EI g n sc (.List es pos) (.list a)
 |tup (es k pos a) (h1:bB (cE g n sc) es=aa a):EI g n sc (.Tuple es k pos) (.tup a)
 |Hy (pos):EI g n sc (.Dict [] [] pos) (.dict [])
 |Io (k v pos a b) (h1:cE g n sc k=aa a) (h2:cE g n sc v=aa b):EI g n sc (.Dict [aa k] [v] pos) (.dict [(a,b)])
 |call (x es pos a b) (hx:∀o m ap,x≠ .Attribute o m ap) (h1:cE g n sc x=aa a) (h2:bB (cE g n sc) es=aa b):EI g n sc (.Call x es [] pos) (.call a b)
 |aY (o m ap es pos a k b) (q1:pW o=ah) (q2:es.length<30) (q3:(ap.endLine==pos.line)=ah) (h1:cE g n sc o=aa a) (h2:codeN m=aa k) (h3:bB (cE g n sc) es=aa b):EI g n sc (.Call (.Attribute o m ap) es [] pos) (.aY a k b)
 |attr (o a pos b k) (q1:pW o=ah) (h1:cE g n sc o=aa b) (h2:codeN a=aa k):EI g n sc (.Attribute o a pos) (.attr b k)
 |sub (o i pos a b) (h1:cE g n sc o=aa a) (h2:cE g n sc i=aa b):EI g n sc (.Subscript o i pos) (.sub a b)
 |slice (l u pos a b) (h1:cOpt (cE g n sc) l=aa a) (h2:cOpt (cE g n sc) u=aa b):EI g n sc (.Slice l u af pos) (.slice a b)
 |Dm (ie src t px ifs sc' pos own te x k s q fr) (h1:cE g n sc src=aa s) (h2:cE g n sc' ie=aa x) (h3:oq sc'=aa fr) (h4:t9 sc' (cond own [t] [])=ah) (h5:codeN t=aa k) (h6:sc'.names.lookup t=aa (cond own .cell .local))
   (h7:cOpt (cE g n sc') te=aa q) (h8:te.toList=ifs):EI g n sc (.ListComp ie [⟨.Name t px,src,ifs,0⟩] sc' pos) (.comp x k own s q fr)
 |lam (body sc' pos b fr) (hl:sd sc'=ah) (h1:cE g n sc' body=aa b) (h2:oq sc'=aa fr):EI g n sc (.Lambda ⟨[],[],af,[],[],af,[]⟩ body sc' pos) (.lam pos.line pos.col b fr)
 |jx (es pos a) (h1:bB (cE g n sc) es=aa a):EI g n sc (.JoinedStr es pos) (.jx a)
 |fmt (x pos a) (h1:cE g n sc x=aa a):EI g n sc (.FormattedValue x (-1) af pos) (.fmt a)
theorem abW(x:aS):(∃o m ap,x= .Attribute o m ap)\/∀o m ap,x≠ .Attribute o m ap:=by cases x<;>first|exact .inl ⟨_,_,_,rfl⟩|exact .inr λ_ _ _ h=>Expr.noConfusion h
theorem agk{n:Nat}{x:aS}{es:List aS}{k:Keyword}{ks:List Keyword}{pos:Pos}:cE g (n+1) sc (.Call x es (k::ks) pos)=aa .bad:=by cases x<;>first|rfl|(cases es<;>rfl)
theorem abw{n:Nat}{x:aS}{es:List aS}{pos:Pos}(hx:∀o m ap,x≠ .Attribute o m ap):cE g (n+1) sc (.Call x es [] pos)=two CE.call (cE g n sc x) (bB (cE g n sc) es):=by cases x<;>first|rfl|exact absurd rfl (hx _ _ _)
theorem EI.je{n:Nat}{e:aS}{c:CE}(h:aa CE.bad=aa c):EI g n sc e c:=sI h (.bad e)
theorem YK{e:aS}{t:Str}(h:nameOf e=aa t):∃p,e= .Name t p:=by cases e<;>first|exact aN h|(obtain rfl:=aX h;exact⟨_,rfl⟩)
theorem NR{n:Nat}{ie src:aS}{sc':cu}{t:Str}{te:Option aS}{c:CE}{px pos:Pos}(hc:C4 (cE g n) sc sc' ie src t te=aa c):EI g n sc (.ListComp ie [⟨.Name t px,src,te.toList,0⟩] sc' pos) c:=by unfold C4 at hc;refine oE hc λq h7 hc=>oE hc λk h5 hc=>oE hc λown h6 hc=>bE hc λh4 hc=>?_;refine qb hc λx y z h1 h2 h3=>.Dm _ _ _ _ _ _ _ own te _ _ _ _ _ h2 h1 h3 h4 h5 (Cd h6) h7 rfl
theorem abL{n:Nat}{ie:aS}{sc':cu}{gn:Bx}{c:CE}{pos:Pos}(hc:HR (cE g n) sc sc' ie gn=aa c):EI g n sc (.ListComp ie [gn] sc' pos) c:=by
 unfold HR at hc;refine oS (P:=(· =aa c)) hc (λt ht hc=>?_) λ_ hc=>EI.je hc;refine bS (P:=(· =aa c)) hc (λh0 hc=>?_) λ_ hc=>EI.je hc;obtain⟨tg,src,ifs,asy⟩:=gn;obtain⟨px,rfl⟩:=YK ht;have h0:asy=0:=of_decide_eq_true h0;subst h0;rcases ifs with _|⟨z,_|_⟩
 ·exact NR (te:=af) hc
 ·exact NR (te:=aa z) hc
 ·exact EI.je hc
theorem HT{n:Nat}{ast:aS}{c:CE}(hc:cE g (n+1) sc ast=aa c):EI g n sc ast c:=by
 cases ast with
 |Constant k kd pos=>exact .con _ _ _ _ hc
 |Name id pos=>exact .name _ _ _ hc
 |BoolOp op es pos=>
  rcases es with _|⟨x,_|⟨y,_|⟨z,_|_⟩⟩⟩
  ·exact EI.je hc
  ·exact EI.je hc
  ·refine ju (show two (mR op) (cE g n sc x) (cE g n sc y)=aa c from hc) λa b h1 h2=>.b2 _ _ _ _ _ _ h1 h2
  ·refine qb (show three (λx y z=>mR op x (mR op y z)) (cE g n sc x) (cE g n sc y) (cE g n sc z)=aa c from hc) λa b e h1 h2 h3=>.b3 _ _ _ _ _ _ _ _ h1 h2 h3
  ·exact EI.je hc
 |UnaryOp op x pos=>
  cases op with
  |Not=>refine oM (show(cE g n sc x).map CE.dU=aa c from hc) λa h1=>.dU _ _ _ h1
  |USub=>refine oM (show(cE g n sc x).map CE.neg=aa c from hc) λa h1=>.neg _ _ _ h1
  |_=>exact EI.je hc
 |BinOp x o y pos=>refine ju (show two (λx y=>CE.bin o x y) (cE g n sc x) (cE g n sc y)=aa c from hc) λa b h1 h2=>.bin _ _ _ _ _ _ h1 h2
 |IfExp t x y pos=>refine qb (show three CE.ite (cE g n sc t) (cE g n sc x) (cE g n sc y)=aa c from hc) λz a b h1 h2 h3=>.ite _ _ _ _ _ _ _ h1 h2 h3
 |Compare x ops ys pos=>
  rcases ops with _|⟨o,_|⟨o',_|_⟩⟩
  ·exact EI.je hc
  ·rcases ys with _|⟨y,_|_⟩
   ·exact EI.je hc
   ·refine ju (show two (λx y=>CE.cmp x o y) (cE g n sc x) (cE g n sc y)=aa c from hc) λa b h1 h2=>.cmp _ _ _ _ _ _ h1 h2
   ·exact EI.je hc
  ·rcases ys with _|⟨y,_|⟨z,_|_⟩⟩
   ·exact EI.je hc
   ·exact EI.je hc
   ·refine qb (show three (λx y z=>CE.k8 x o y o' z) (cE g n sc x) (cE g n sc y) (cE g n sc z)=aa c from hc) λa b e h1 h2 h3=>.k8 _ _ _ _ _ _ _ _ _ h1 h2 h3
   ·exact EI.je hc
  ·exact EI.je hc
 |List es pos=>refine oM (show(bB (cE g n sc) es).map CE.list=aa c from hc) λa h1=>.list _ _ _ h1
 |Tuple es k pos=>refine oM (show(bB (cE g n sc) es).map CE.tup=aa c from hc) λa h1=>.tup _ _ _ _ h1
 |Dict ks vs pos=>
  rcases ks with _|⟨_|k,_|_⟩
  ·rcases vs with _|_
   ·obtain rfl:=aX hc;exact .Hy _
   ·exact aN hc
  ·exact aN hc
  ·exact aN hc
  ·rcases vs with _|⟨v,_|_⟩
   ·exact aN hc
   ·refine ju (show two (λa b=>CE.dict [(a,b)]) (cE g n sc k) (cE g n sc v)=aa c from hc) λa b h1 h2=>.Io _ _ _ _ _ h1 h2
   ·exact aN hc
  ·exact aN hc
 |Call x es kws pos=>
  cases kws with
  |cons _ _=>rw[agk]at hc;exact EI.je hc
  |nil=>
   rcases abW x with⟨o,m,ap,rfl⟩|hx
   ·have hc:cond (pW o&&decide (es.length<30)&&ap.endLine==pos.line) (three CE.aY (cE g n sc o) (codeN m) (bB (cE g n sc) es)) af=aa c:=hc;refine bE hc λhq hc=>?_;rw[bJ,bJ]at hq;refine qb hc λa k b h1 h2 h3=>.aY _ _ _ _ _ _ _ _ hq.1.1 (of_decide_eq_true hq.1.2) hq.2 h1 h2 h3
   ·rw[abw hx]at hc;refine ju hc λa b h1 h2=>.call _ _ _ _ _ hx h1 h2
 |Attribute o a pos=>have hc:cond (pW o) (two CE.attr (cE g n sc o) (codeN a)) af=aa c:=hc;refine bE hc λq hc=>?_;refine ju hc λb k h1 h2=>.attr _ _ _ _ _ q h1 h2
 |Subscript o i pos=>refine ju (show two CE.sub (cE g n sc o) (cE g n sc i)=aa c from hc) λa b h1 h2=>.sub _ _ _ _ _ h1 h2
 |Slice l u st pos=>
  cases st with
  |none=>refine ju (show two CE.slice (cOpt (cE g n sc) l) (cOpt (cE g n sc) u)=aa c from hc) λa b h1 h2=>.slice _ _ _ _ _ h1 h2
  |some _=>exact EI.je hc
 |ListComp ie gens sc' pos=>
  rcases gens with _|⟨gn,_|_⟩
  ·exact EI.je hc
  ·exact abL hc
  ·exact EI.je hc
 |Lambda params body sc' pos=>
  obtain⟨pa,pb,pc,pd,pe,pf,pg⟩:=params;rcases pa with _|_
  ·rcases pb with _|_
   ·rcases pc with _|_
    ·rcases pd with _|_
     ·rcases pe with _|_
      ·rcases pf with _|_
       ·rcases pg with _|_
        ·refine bE (show cond (sd sc') (two (λb fr=>CE.lam pos.line pos.col b fr) (cE g n sc' body) (oq sc')) af=aa c from hc) λhl hc=>?_;refine ju hc λb k h1 h2=>.lam _ _ _ _ _ hl h1 h2
        ·exact aN hc
       ·exact aN hc
      ·exact aN hc
     ·exact aN hc
    ·exact aN hc
   ·exact aN hc
  ·exact aN hc
 |JoinedStr es pos=>refine oM (show(bB (cE g n sc) es).map CE.jx=aa c from hc) λa h1=>.jx _ _ _ h1
 |FormattedValue x conv spec pos=>
  refine bE (show cond (decide (conv= -1)) (spec.elim ((cE g n sc x).map CE.fmt) λ_=>af) af=aa c from hc) λhq hc=>?_;have hq:=of_decide_eq_true hq;subst hq;cases spec with
  |some _=>exact aN hc
  |none=>refine oM hc λa h1=>.fmt _ _ _ h1
 |Starred _ _=>exact aN hc
 |Set _ _ _=>exact aN hc
 |SetComp _ _ _ _=>exact aN hc
 |DictComp _ _ _ _ _=>exact aN hc
 |_=>exact EI.je hc
theorem ZY{x:aS}{es:List aS}{pos:Pos}(hx:∀o m ap,x≠ .Attribute o m ap):eval (.Call x es [] pos) env=(do callWith pos (<-eval x env) [] (backTo pos (starEach es env)) (backToKw pos (keywordEach [] env))):=by cases x<;>first|rfl|exact absurd rfl (hx _ _ _)
theorem s_e(O:Okg W C g)(N:bL W C g ih){ast:aS}{c:CE}(hc:cE g f sc ast=aa c)(S:aZ W C d A sc cx env U Y s)(h:PR W U.st Y s.heap (VO W) Q E (zg C ih d cx c U)):
  aC (model W.prog W.w) A (eval ast env) Q E s:=by
 cases f with
 |zero=>exact aN hc
 |succ n=>
  have ei:=HT hc;revert hc h;induction ei with
  |bad=>exact λh hc=>lM h
  |con k kd pos=>exact λh hc=>abU S hc h
  |name id pos=>exact λh hc=>adK O.toOkd S hc h
  |b2 op x y pos a b h1 h2=>
   intro h hc;cases op with
   |And=>exact Qn N S h1 h2 rfl h
   |Or=>exact TL N S h1 h2 rfl h
  |b3 op x y z pos a b e h1 h2 h3=>
   intro h hc;have h4:cE g (n+1) sc (.BoolOp op [y,z] pos)=aa (mR op b e):=by show two (mR op) (cE g n sc y) (cE g n sc z)=_;rw[h2,h3];rfl
   cases op with
   |And=>exact Qn N S h1 h4 rfl h
   |Or=>exact TL N S h1 h4 rfl h
  |dU _ _ _ h1=>exact λh hc=>agz N S h1 h
  |neg _ _ _ h1=>exact λh hc=>agH N S h1 h
  |bin _ _ _ _ _ _ h1 h2=>exact λh hc=>agK N S h1 h2 h
  |ite _ _ _ _ _ _ _ h1 h2 h3=>exact λh hc=>agF N S h1 h2 h3 h
  |cmp _ _ _ _ _ _ h1 h2=>exact λh hc=>afJ O.toOkd N S h1 h2 h
  |k8=>exact λh hc=>lM h
  |list _ _ _ h1=>exact λh hc=>ZF N S h1 h
  |tup _ _ _ _ h1=>exact λh hc=>abH N S h1 h
  |Hy=>exact λh hc=>abr (ih:=ih) S h
  |Io _ _ _ _ _ h1 h2=>exact λh hc=>abA N S h1 h2 h
  |call _ _ _ _ _ hx h1 h2=>exact λh hc=>adP O.toOkd N S h1 h2 (ZY hx) h
  |aY _ _ _ _ _ _ _ _ q1 q2 q3 h1 h2 h3=>exact λh hc=>aeA O.toOkf N S h1 h2 h3 q1 q2 q3 h
  |attr _ _ _ _ _ q1 h1 h2=>exact λh hc=>aev O.toOke N S q1 h1 h2 h
  |sub _ _ _ _ _ h1 h2=>exact λh hc=>agP O.toOkd N S h1 h2 h
  |slice _ _ _ _ _ h1 h2=>exact λh hc=>abv N S h1 h2 h
  |Dm ie src t px ifs sc' pos own te x k s q fr h1 h2 h3 h4 h5 h6 h7 h8=>exact λh hc=>OS (te:=te) O.toOkc N h1 h2 h3 h4 h5 h6 h7 h8 S h
  |lam _ _ _ _ _ hl h1 h2=>exact λh hc=>ae6 O N hl h1 h2 S h
  |jx _ _ _ h1=>exact λh hc=>acV N S h1 h
  |fmt _ _ _ h1=>exact λh hc=>afk N S h1 h
end
section
variable{W:WS}{C:EC}{g:Nat->Option AV}{d:Nat}{A:cR}{sc:cu}{cx:CX}{env:Env}{U U1_:ES}{Y cF:Nat->aG}{s s1_:aE}{Q:Bool->aE->Prop}{E:ay->aE->Prop}
variable{ih:Ev}{f:Nat}
theorem BZ{b:Bool}(R0:Rel W U.st Y s)(h:PR W U.st Y s.heap VB Q E (vn b U)):Q b s:=h Y _ _ R0 .refl rfl
theorem abq(N:bL W C g ih){ast:aS}{c:CE}(hc:cE g f sc ast=aa c)(S:aZ W C d A sc cx env U Y s)(h:PR W U.st Y s.heap VB Q E (yZ ih d cx c U))
  (he:aC (model W.prog W.w) A (eval ast env) (λv s1_=>aC (model W.prog W.w) A (truthy v) Q E s1_) E s->aC (model W.prog W.w) A (isTrue ast env (eval ast env)) Q E s):aC (model W.prog W.w) A (isTrue ast env (eval ast env)) Q E s:=by
 refine he (N.v hc S (PR.then S.R h λv σ1 bF s1 b1 R1 X1 V1 h1=>?_));exact bZ h1 λt q h1=>BL V1 q (BZ R1 h1)
theorem adR{l r:aS}{op:lO}{pos:Pos}(h:aC (model W.prog W.w) A (eval (.Compare l [op] [r] pos) env) (λv s1_=>aC (model W.prog W.w) A (truthy v) Q E s1_) E s):
  aC (model W.prog W.w) A (isTrue (.Compare l [op] [r] pos) env (eval (.Compare l [op] [r] pos) env)) Q E s:=by
 have e:isTrue (.Compare l [op] [r] pos) env (eval (.Compare l [op] [r] pos) env)=(do let c <-eval (.Compare l [op] [r] pos) env;holding [c] (truthy c)):=by rw[isTrue_Compare1,eval_Compare1];simp only[bind_assoc]
 rw[e];exact aF (eL h (λv s1_ h1_=>gk h1_) λ_ _ x=>x)
theorem cBool{x y:CE}:∀{n:Nat} {sc:cu} {op:BoolOp} {y' z':aS} {pos:Pos},cE g n sc y'=aa x->cE g n sc z'=aa y->cE g (n+1) sc (.BoolOp op [y',z'] pos)=aa (mR op x y):=by intro n sc op y' z' pos h1 h2;show two (mR op) (cE g n sc y') (cE g n sc z')=_;rw[h1,h2];rfl
theorem Pd(N:bL W C g ih){a b:CE}{x:aS}{rest:List aS}{pos:Pos}{whole:Sem ay}(ha:cE g f sc x=aa a)(S:aZ W C d A sc cx env U Y s)(h:PR W U.st Y s.heap VB Q E (bindR (fK ih d cx a U) λt σ1=>QL ih d cx b t σ1))
  (k:∀{σ1 bF s1},aZ W C d A sc cx env σ1 bF s1->PR W σ1.st bF s1.heap VB Q E (ih d (.t cx b) σ1)->aC (model W.prog W.w) A (isTrue (.BoolOp .And rest pos) env whole) Q E s1):
  aC (model W.prog W.w) A (isTrue (.BoolOp .And (x::rest) pos) env whole) Q E s:=by
 refine isTrue_and (N.b ha S (PR.then S.R h λv σ1 bF s1 b1 R1 X1 V1 h1=>?_));obtain rfl:v=b1:=V1;cases v with
 |true=>rw[if_pos rfl];exact k (S.ext R1 X1) h1
 |false=>rw[if_neg (by decide)];exact BZ R1 h1
theorem RC(N:bL W C g ih){a b:CE}{x:aS}{rest:List aS}{pos:Pos}{whole:Sem ay}(ha:cE g f sc x=aa a)(S:aZ W C d A sc cx env U Y s)(h:PR W U.st Y s.heap VB Q E (bindR (fK ih d cx a U) λt σ1=>Sz ih d cx b t σ1))
  (k:∀{σ1 bF s1},aZ W C d A sc cx env σ1 bF s1->PR W σ1.st bF s1.heap VB Q E (ih d (.t cx b) σ1)->aC (model W.prog W.w) A (isTrue (.BoolOp .Or rest pos) env whole) Q E s1):
  aC (model W.prog W.w) A (isTrue (.BoolOp .Or (x::rest) pos) env whole) Q E s:=by
 refine BX (N.b ha S (PR.then S.R h λv σ1 bF s1 b1 R1 X1 V1 h1=>?_));obtain rfl:v=b1:=V1;cases v with
 |true=>rw[if_pos rfl];exact BZ R1 h1
 |false=>rw[if_neg (by decide)];exact k (S.ext R1 X1) h1
theorem Y9{x:aS}{pos:Pos}{whole:Sem ay}(h:aC (model W.prog W.w) A (isTrue x env (eval x env)) Q E s):aC (model W.prog W.w) A (isTrue (.BoolOp .And [x] pos) env whole) Q E s:=by
 refine isTrue_and (eL h (λc s' h'=>?_) λ_ _ e=>e);cases c with
 |true=>rw[if_pos rfl];exact isTrue_and_nil h'
 |false=>rw[if_neg (by decide)];exact h'
theorem ZA{x:aS}{pos:Pos}{whole:Sem ay}(h:aC (model W.prog W.w) A (isTrue x env (eval x env)) Q E s):aC (model W.prog W.w) A (isTrue (.BoolOp .Or [x] pos) env whole) Q E s:=by
 refine BX (eL h (λc s' h'=>?_) λ_ _ e=>e);cases c with
 |true=>rw[if_pos rfl];exact h'
 |false=>rw[if_neg (by decide)];exact isTrue_or_nil h'
theorem acX(O:Okd W C g)(N:bL W C g ih){a b e:CE}{x y z:aS}{o o':lO}{pos:Pos}{whole:Sem ay}(S:aZ W C d A sc cx env U Y s)(ha:cE g f sc x=aa a)(hb:cE g f sc y=aa b)(he:cE g f sc z=aa e)
  (h:PR W U.st Y s.heap VB Q E (Po C ih d cx a o b o' e U)):aC (model W.prog W.w) A (isTrue (.Compare x [o,o'] [y,z] pos) env whole) Q E s:=by
 refine isTrue_chain (N.v ha S (PR.then S.R h λv σ1 bF s1 b1 R1 X1 V1 h1=>test_link (N.v hb (S.ext R1 X1) (PR.then R1 h1 λw σ2 bU s2 b2 R2 X2 V2 h2=>?_)))) (by
  have:=NU (o:=o') he
  simpa [lastMarks]using this)
 have S2:=(S.ext R1 X1).ext R2 X2;have hu:A.units+40<cLine:=by have:=S.F.hu;exact cX (aT aU (bD this)) rfl
 refine bZ h2 λt q h2=>Fz O.toOkc R2 (X2.vr V1) V2 q hu λtk=>Lg ?_;have A9:=R2.tok tk;cases t with
 |false=>rw[if_neg (by decide)];exact h2 bU _ _ A9 .refl rfl
 |true=>rw[if_pos rfl];exact test_last (N.v he (S2.ext A9 .refl) (PR.then A9 h2 λu σ3 dg s3 b3 R3 X3 V3 h3=>bZ h3 λt q3 h3=>Fz O.toOkc R3 (X3.vr V2) V3 q3 hu λtk=>Lg (h3 dg _ _ (R3.tok _) .refl rfl)))
theorem YN{n:Nat}{id:Str}{pos:Pos}{c:CE}(hc:cE g (n+1) sc (.Name id pos)=aa c):ud C ih d cx c U=yZ ih d cx c U:=by
 refine oE hc λk hk e=>?_;cases hl:sc.names.lookup id with
 |none=>rw[hl]at e;exact aN e
 |some t=>
  rw[hl]at e;cases t with
  |globalExplicit=>exact aN e
  |globalImplicit=>exact oM e λa _=>rfl
  |_=>exact sI e rfl
theorem s_t(O:Okg W C g)(N:bL W C g ih){ast:aS}{c:CE}(hc:cE g f sc ast=aa c)(S:aZ W C d A sc cx env U Y s)(h:PR W U.st Y s.heap VB Q E (ud C ih d cx c U)):
  aC (model W.prog W.w) A (isTrue ast env (eval ast env)) Q E s:=by
 cases f with
 |zero=>exact aN hc
 |succ n=>
  have plain:∀{ast:aS} {c:CE},cE g (n+1) sc ast=aa c->(ud C ih d cx c U=yZ ih d cx c U)->PR W U.st Y s.heap VB Q E (ud C ih d cx c U)->
    (aC (model W.prog W.w) A (eval ast env) (λv s1_=>aC (model W.prog W.w) A (truthy v) Q E s1_) E s->aC (model W.prog W.w) A (isTrue ast env (eval ast env)) Q E s)->aC (model W.prog W.w) A (isTrue ast env (eval ast env)) Q E s:=λhc e h he=>by
   rw[e]at h;exact abq N hc S h he
  have ei:=HT hc;revert hc h;induction ei with
  |bad=>exact λh hc=>lM h
  |con k kd pos=>
   intro h hc;cases k with
   |none=>obtain rfl:=aX hc;exact plain rfl rfl h pO
   |bool _=>obtain rfl:=aX hc;exact plain rfl rfl h pO
   |int _=>obtain rfl:=aX hc;exact plain rfl rfl h pO
   |str _=>obtain rfl:=aX hc;exact plain rfl rfl h pO
   |_=>exact aN hc
  |name id pos=>exact λh hc=>plain hc (YN hc) h pO
  |b2 op x y pos a b h1 h2=>
   intro h hc;cases op with
   |And=>exact Pd N h1 S h λS1 k1=>Y9 (N.t h2 S1 k1)
   |Or=>exact RC N h1 S h λS1 k1=>ZA (N.t h2 S1 k1)
  |b3 op x y z pos a b e h1 h2 h3=>
   intro h hc;cases op with
   |And=>exact Pd N h1 S h λS1 k1=>N.t (cBool (op:=.And) (pos:=pos) h2 h3) S1 k1
   |Or=>exact RC N h1 S h λS1 k1=>N.t (cBool (op:=.Or) (pos:=pos) h2 h3) S1 k1
  |dU x pos a h1=>intro h hc;refine isTrue_not (N.b h1 S (PR.then S.R h λv σ1 bF s1 b1 R1 X1 V1 k1=>?_));obtain rfl:v=b1:=V1;exact BZ R1 k1
  |neg=>exact λh hc=>plain hc rfl h pO
  |bin=>exact λh hc=>plain hc rfl h pO
  |ite t x y pos z a b h1 h2 h3=>
   intro h hc;refine isTrue_IfExp (N.b h1 S (PR.then S.R h λv σ1 bF s1 b1 R1 X1 V1 k1=>?_));obtain rfl:v=b1:=V1;cases v with
   |true=>rw[if_pos rfl];exact N.t h2 (S.ext R1 X1) k1
   |false=>rw[if_neg (by decide)];exact N.t h3 (S.ext R1 X1) k1
  |cmp=>exact λh hc=>plain hc rfl h adR
  |k8 x o o' y z pos a b e h1 h2 h3=>exact λh hc=>acX O.toOkd N S h1 h2 h3 h
  |list=>exact λh hc=>lM h
  |tup=>exact λh hc=>lM h
  |Hy=>exact λh hc=>lM h
  |Io=>exact λh hc=>lM h
  |call=>exact λh hc=>plain hc rfl h pO
  |aY=>exact λh hc=>plain hc rfl h pO
  |attr=>exact λh hc=>plain hc rfl h pO
  |sub=>exact λh hc=>plain hc rfl h pO
  |slice=>exact λh hc=>lM h
  |Dm=>exact λh hc=>lM h
  |lam=>exact λh hc=>lM h
  |jx=>exact λh hc=>lM h
  |fmt=>exact λh hc=>lM h
end
section
variable{W:WS}{C:EC}{g:Nat->Option AV}{d:Nat}{A:cR}{sc:cu}{cx:CX}{env:Env}{U U1_:ES}{Y cF:Nat->aG}{s s1_:aE}{E:ay->aE->Prop}
theorem OR.slots{n:Nat}{o:AO}{r:Obj}(hi:isNs o=ah)(h:OR W n Y o r)(sl:Array (Option ay)):OR W n Y o {r with slots:=sl}:=by cases o<;>first|exact absurd hi nR|exact h
theorem Yg(R0:Rel W U.st Y s)(F:eu W d A U.st Y s.heap){l:List Env}(hl:A.frames=aa l){h':cy}(hs:Heap.SlotsOnly (l.filterMap (·.frame)) s.heap h'):Rel W U.st Y {s with heap:=h'}/\Ext W U.st Y s.heap U.st Y h':=by
 obtain⟨_,_,_,⟨l',h1,h2,h3⟩,_⟩:=F;rw[hl]at h1;obtain rfl:=aX h1;have own:∀b,b∈l.filterMap (·.frame)->∃x o,U.get x=aa o/\isNs o=ah/\Y x=b:=λb hb=>by refine aV (List.mem_filterMap.mp hb) λenv he hf=>?_;exact h3 env he b hf
 have keep:∀b o,s.heap.get? b=aa o->(∀x p,U.get x=aa p->Y x≠b)->h'.get? b=aa o:=λb o e hn=>by rw[hs.2.1 b λhm=>by refine fE (own b hm) λx p q1 _ q2=>?_;exact hn x p q1 q2];exact e
 refine⟨⟨λb o e=>?_,λx o e=>?_,R0.new,R0.inj,R0.lt,R0.gens,R0.os⟩,cN _,λ_ _=>rfl,λ_ _ e=>⟨_,e,id⟩,λ_ _ e=>.inl ⟨_,e⟩,λb o e hn _=>keep b o e hn,λb o e hn _=>⟨o.slots,keep b o e hn⟩,λb o e=>?_⟩
 ·rw[hs.2.1 b λhm=>by have:=(h2.mem hm).1;rw[e]at this;exact lV this];exact R0.base b o e
 ·refine aV (R0.obj x o e) λr hr ho=>?_
  by_cases hm:Y x∈l.filterMap (·.frame)
  ·refine fE (own _ hm) λy p q1 q2 q3=>?_;have:=R0.inj y x p o q1 e q3;subst this;have e':U.get y=aa o:=e;rw[e']at q1;obtain rfl:=aX q1;obtain⟨sl,hsl⟩:=hs.2.2 _ _ hr;exact⟨_,hsl,ho.slots q2 sl⟩
  ·exact⟨r,by rw[hs.2.1 _ hm];exact hr,ho⟩
 ·obtain⟨sl,h⟩:=hs.2.2 b o e;exact⟨_,h,λn=>n⟩
theorem BP{r:Obj}{vs:Array ay}(h:r.data= .fields vs):mK r->False:=λn=>n vs h
theorem Mr(S:aZ W C d A sc cx env U Y s)(T:iF A env){x a:Nat}{D:Option Nat}{K:aG}{tb:Option Nat}{head:ay}{hadNext:Bool}{Q:Unit->aE->Prop}(hx:U.get x=aa (.exc K D a tb))
  (h:∀ρ' s',Rel W ((U.add (.fQ (aa cx.fr))).2.put x (.exc K D a (aa (U.add (.fQ (aa cx.fr))).1))).st ρ' s'->Ext W U.st Y s.heap ((U.add (.fQ (aa cx.fr))).2.put x (.exc K D a (aa (U.add (.fQ (aa cx.fr))).1))).st ρ' s'.heap->Q () s'):
  aC (model W.prog W.w) A (do let a <-frameOf env;let pl <-entryPlaceOf (Y cx.fr) hadNext;let b <-K9 head a .none (rawInt (Y cx.fr)) .none pl;setField (.ref (Y x)) 1 b) Q E s:=by
 obtain⟨outer,hfr⟩:=T;obtain⟨_,_,_,⟨l',h1,h2,h3⟩,_⟩:=id S.F;rw[hfr]at h1;obtain rfl:=aX h1;refine aF (wpAny_frameOf_fun hfr h2 S.N.fr.1 λh1_ hs1_=>?_);obtain⟨R1,X1⟩:=Yg S.R S.F hfr hs1_;refine aF (wpAny_entryPlaceOf λpl hpl=>?_);unfold K9 newFields;refine aF (qI ?_ (hpl.sizeOk5 _ _ _ _ _));have Vg:=S.N.fr.2;refine cU (R1.jP (o:=.fQ (aa cx.fr)) (r:={cls:=.type "traceback",dict:=af,data:=.fields ([head,.ref (Y cx.fr),.none,rawInt (Y cx.fr),.none]++(if pl.isEmpty then nU 6 kg else pl)).toArray}) rfl
  ⟨rfl,_,rfl,m7 Vg,by rw[dw _ Vg];first|(simp;done)|(rcases hpl with rfl|⟨_,_,_,_,_,_,_,rfl⟩<;>simp)⟩) λR2 X2 V2=>?_
 have Vf:(U.add (.fQ (aa cx.fr))).2.get x=aa (.exc K D a tb):=(ES.add_get U _ (S.R.lt x _ hx)).trans hx;refine tT (R2.obj x _ Vf) λoe g1 g2 g3 g4 g5 vs g6 g7 g8=>?_;have ex:dK Y U.next h1_.objs.size x=Y x:=dw _ (S.R.lt x _ hx)
 have eT:dK Y U.next h1_.objs.size (U.add (.fQ (aa cx.fr))).1=h1_.objs.size:=(nV V2.2).symm
 have hsz:1<vs.size:=by
  cases tb with
  |none=>exact(Array.getElem?_eq_some_iff.mp g8).1
  |some t=>exact(Array.getElem?_eq_some_iff.mp g8.2).1
 have oV:=Bo g6 (·.setIfInBounds 1 (eB h1_.objs.size));have hc3:=EJ oe (·.setIfInBounds 1 (eB h1_.objs.size));have KH:(oe.mapFields (·.setIfInBounds 1 (eB h1_.objs.size))).dict=oe.dict:=by obtain⟨c,d,dt,sl⟩:=oe;cases dt<;>rfl
 obtain⟨R3,X3⟩:=R2.uN (o':=.exc K D a (aa (U.add (.fQ (aa cx.fr))).1)) (f:=qL (·.setIfInBounds 1 (eB h1_.objs.size))) Vf g1 (Bj oV) (λn=>(BP g6 n).elim)
  ⟨hc3.trans g2,by rw[KH];exact g3,g4,g5,_,oV,by rw[KL (by decide)];exact g7,V2.1,by rw[eT];simp[hsz]⟩
 rw[ex]at g1 R3 X3;refine Bu g1 g6 hsz (h _ _ R3 ?_);exact X1.trans S.R.lt R1.lt (X2.trans R1.lt R2.lt X3)
theorem Fp(S:aZ W C d A sc cx env U Y s)(T:iF A env){x:Nat}{σ':ES}{Q:Unit->aE->Prop}(e:zx x cx.fr U=aa σ')
  (h:∀ρ' s',Rel W σ'.st ρ' s'->Ext W U.st Y s.heap σ'.st ρ' s'.heap->Q () s'):aC (model W.prog W.w) A (noteFrame (.ref (Y x)) env) Q E s:=by
 refine oE e λq hx e1=>?_;clear e;obtain⟨K,D,a,tb⟩:=q;have hx:=r9 hx;have hx:U.get x=aa (.exc K D a tb):=hx;refine tT (S.R.obj x _ hx) λoe g1 g2 g3 g4 g5 vs g6 g7 g8=>?_;unfold noteFrame;simp only[S.N.fr.1];cases tb with
 |none=>obtain rfl:=aX e1;refine aF (j9 g1 g6 g8 ?_);rw[if_neg (by decide)];exact Mr S T hx h
 |some t=>
  refine oE e1 λfl ht e2=>?_;clear e1;have ht:=Qd ht;refine zf (S.R.obj t _ ht) λot k1 k2 ts k3 k4=>?_;refine aF (j9 g1 g6 g8.2 ?_);rw[if_pos (show(eB (Y t) != kg)=ah from by simp)];have UR:∃v,ts[3]?=aa v/\(fl=af->v= .none)/\∀G,fl=aa G->v=rawInt (Y G):=by
   cases fl with
   |none=>exact⟨_,k4,(λ_=>rfl),λ_ h=>(nomatch h)⟩
   |some G=>exact⟨_,k4.2,(λh=>(nomatch h)),λG' h=>by(injection h with h;subst h);rfl⟩
  refine fS UR λv3 q3 q4 q5=>?_;try clear UR
  refine aF (j9 k1 k3 q3 ?_);have Ul:(v3==rawInt (Y cx.fr))=ak->(∃σ1,σ1=U.put t (.fQ af)/\σ'=(σ1.add (.fQ (aa cx.fr))).2.put x (.exc K D a (aa (σ1.add (.fQ (aa cx.fr))).1)))->
    aC (model W.prog W.w) A (if(v3==rawInt (Y cx.fr))=ah then pure ()else do
     setField (.ref (Y t)) 3 .none
     let a <-frameOf env;let pl <-entryPlaceOf (Y cx.fr) (eB (Y t) != kg);let b <-K9 (eB (Y t)) a .none (rawInt (Y cx.fr)) .none pl;setField (.ref (Y x)) 1 b) Q E s:=λhne ⟨σ1,sC,aih⟩=>by
   rw[if_neg (by rw[hne];decide)];have h3:3<ts.size:=(Array.getElem?_eq_some_iff.mp q3).1;have oV:=Bo k3 (·.setIfInBounds 3 kg);have hc3:=EJ ot (·.setIfInBounds 3 kg);obtain⟨R1,X1⟩:=S.R.uN (o':=.fQ af) (f:=qL (·.setIfInBounds 3 kg)) ht k1 (Bj oV) (λn=>(BP k3 n).elim) ⟨hc3.trans k2,_,oV,by simp[h3]⟩;refine aF (Bu k1 k3 h3 ?_);rw[<-sC]at R1 X1;have hxt:x≠t:=λq=>by rw[q,ht]at hx;cases hx
   have sM:σ1.get x=aa (.exc K D a (aa t)):=by rw[sC];have:=congrArg (λz=>St.get z x) (ES.mG (o:=.fQ af) ht);exact this.trans ((if_neg hxt).trans hx)
   refine Mr (S.ext R1 X1) T sM λρ' s' R2 X2=>?_;rw[<-aih]at R2 X2;exact h ρ' s' R2 (X1.trans S.R.lt R1.lt X2)
  cases fl with
  |none=>rw[q4 rfl];obtain rfl:=aX e2;have:=Ul (by rw[q4 rfl];rfl) ⟨_,rfl,rfl⟩;rw[q4 rfl]at this;exact this
  |some G=>
   have qv:=q5 G rfl;refine bS (P:=(· =aa σ')) e2 (λEn e3=>?_) λEn e3=>bE e3 λhs e4=>?_
   ·obtain rfl:=aX e3;rw[qv,<-cG En];rw[if_pos (by simp)];exact bu (h Y s S.R .refl)
   ·have hs:((U.get G).isSome&&(U.get cx.fr).isSome)=ah:=hs;rw[bJ]at hs;obtain rfl:=aX e4;obtain⟨oG,hG⟩:=Option.isSome_iff_exists.mp hs.1;obtain⟨oF,hF⟩:=Option.isSome_iff_exists.mp hs.2;refine Ul ?_ ⟨_,rfl,rfl⟩;rw[qv,beq_eq_false_iff_ne];intro q;have q:=S.R.inj G cx.fr oG oF hG hF (Int.ofNat_inj.mp (Value.int.inj q).1);rw[q]at En;exact absurd (Nat.beq_refl _) (by rw[show aH cx.fr cx.fr=ak from En];decide)
theorem BC(R0:Rel W U.st Y s){x:Nat}{fl:Option Nat}{σ':ES}{Q:Unit->aE->Prop}(hf:∀f,fl=aa f->f<U.next)(e:vW x fl U=aa σ')
  (h:∀s',Rel W σ'.st Y s'->Ext W U.st Y s.heap σ'.st Y s'.heap->Q () s'):aC (model W.prog W.w) A (setFlight (.ref (Y x)) (fl.map Y)) Q E s:=by
 refine oE e λq hx e1=>?_;clear e;obtain⟨K,D,a,tb⟩:=q;have hx:=r9 hx;have hx:U.get x=aa (.exc K D a tb):=hx;refine tT (R0.obj x _ hx) λoe g1 g2 g3 g4 g5 vs g6 g7 g8=>?_;unfold setFlight;cases tb with
 |none=>obtain rfl:=aX e1;refine aF (j9 g1 g6 g8 ?_);rw[if_neg (by decide)];exact bu (h s R0 .refl)
 |some t=>
  revert h;refine oM (show(U.gB t).map (λ_=>U.put t (.fQ fl))=aa σ' from e1) λfl0 ht h=>?_;clear e1;have ht:=Qd ht;refine zf (R0.obj t _ ht) λot k1 k2 ts k3 k4=>?_;have h3:3<ts.size:=by
   cases fl0 with
   |none=>exact(Array.getElem?_eq_some_iff.mp k4).1
   |some G=>exact(Array.getElem?_eq_some_iff.mp k4.2).1
  refine aF (j9 g1 g6 g8.2 ?_);rw[if_pos (show(eB (Y t) != kg)=ah from by simp)];have oV:=Bo k3 (·.setIfInBounds 3 ((fl.map Y).elim kg λf=>rawInt f));have hc3:=EJ ot (·.setIfInBounds 3 ((fl.map Y).elim kg λf=>rawInt f));obtain⟨R1,X1⟩:=R0.uN (o':=.fQ fl) (f:=qL (·.setIfInBounds 3 ((fl.map Y).elim kg λf=>rawInt f))) ht k1 (Bj oV) (λn=>(BP k3 n).elim)
   ⟨hc3.trans k2,_,oV,by
    cases fl with
    |none=>simp[h3]
    |some f=>exact⟨hf f rfl,by simp[h3]⟩⟩
  exact Bu k1 k3 h3 (h _ R1 X1)
set_option tactic.hygienic true in
theorem XA(S:aZ W C d A sc cx env U Y s)(T:iF A env){x:Nat}{σ':ES}{Q:Unit->aE->Prop}(hx:x<U.next)(e:C2 x cx.fr U=aa σ')
  (h:∀ρ' s',Rel W σ'.st ρ' s'->Ext W U.st Y s.heap σ'.st ρ' s'.heap->Q () s'):aC (model W.prog W.w) A (leaving env (.ref (Y x))) Q E s:=by
 unfold C2 at e;split at e
 ·rename_i σ1 h1
  unfold leaving;refine aF (Fp S T h1 λbF s1 R1 X1=>?_);rw[<-X1.ag x hx];refine BC (fl:=af) R1 nofun e λs2 R2 X2=>?_
  exact h bF s2 R2 (X1.trans S.R.lt R1.lt X2)
 ·exact aN e
end
section
variable{W:WS}{C:EC}{g:Nat->Option AV}{d:Nat}{A:cR}{sc:cu}{cx:CX}{env:Env}{U U1_:ES}{Y cF:Nat->aG}{s s1_:aE}{E:ay->aE->Prop}
variable{ih:Ev}{f:Nat}
noncomputable def VU(_:Nat)(_:Nat->aG)(_:Unit)(_:Unit):Prop:=True
theorem Cj(S:aZ W C d A sc cx env U Y s){I H:Type}{V:Nat->(Nat->aG)->I->H->Prop}{h:cy}{r:R I}{Q:H->aE->Prop}{bH:St}(p:PR W bH Y h V Q E (live d r)):A.handled=af/\PR W bH Y h V Q E r:=by obtain⟨h1,h2⟩:=M7 p;exact⟨S.F.hh h1,h2⟩
theorem Fc{a:AV}{v:ay}{vs:List AV}{n:Nat}{Q:List ay->aE->Prop}(R0:Rel W U.st Y s)(hh:A.handled=af)(va:VR W U.next Y a v)(e:sj C a U=aa vs)(hn:n=vs.length)
  (h:∀items s',Rel W U.st Y s'->Ext W U.st Y s.heap U.st Y s'.heap->aO (VR W U.next Y) vs items->Q items s'):aC (model W.prog W.w) A (unpackItems v n af) Q E s:=by
 refine oE e λx hx e1=>?_;obtain rfl:=kh hx;obtain⟨_,rfl⟩:=va;have grow:∀{h':cy},Heap.ExtBut s.heap.objs.size s.heap h'->∀b o,s.heap.get? b=aa o->h'.get? b=aa o:=λhe b o hb=>he b o (iJ (E3 hb)) hb;refine oS (P:=(· =aa vs)) e1 (λxs hx e2=>?_) λ_ e2=>?_
 ·obtain rfl:=aX e2;refine aV (R0.isList (jM hx)) λys hl hv=>?_;have e1:=hv.size;rw[hn,e1];refine kun_itemsOf hh hl λh' he=>?_;obtain⟨R1,X1⟩:=R0.grow (t:=s.toks) (grow he);exact h _ _ R1 X1 hv
 ·refine GD (R0.obj x _ (G7 e2)) λo o1 o2 ys m o3 hv=>?_;have e1:=hv.size;rw[hn,e1];refine unpackItems_tuple hh ⟨o,o1,o2,m,o3⟩ λh' he=>?_;obtain⟨R1,X1⟩:=R0.grow (t:=s.toks) (grow he);exact h _ _ R1 X1 hv
theorem MF(O:Okg W C g)(N:bL W C g ih){t:CT}{target:aS}{a:AV}{v:ay}{Q:Unit->aE->Prop}(hc:cT g f sc target=aa t)(S:aZ W C d A sc cx env U Y s)(va:VR W U.next Y a v)
  (h:PR W U.st Y s.heap VU Q E (CV C ih d cx t a U)):aC (model W.prog W.w) A (assign target env v) Q E s:=by
 cases f with
 |zero=>exact aN hc
 |succ n=>
  cases target with
  |Name id pos=>revert h;exact ju (show two (λk b=>CT.nm k b) (codeN id) (kindB (sc.names.lookup id))=aa t from hc) λk b h1 h2 h=>bZ h λσ1 hs h=>Bs S h1 (Cd h2) va hs λs' R1 X1=>h Y s' () R1 X1 trivial
  |Attribute o at' pos=>revert h;refine ju (show two CT.at (cE g n sc o) (codeN at')=aa t from hc) λoc k h1 h2 h=>?_;rw[assign_Attribute,<-(mz h2).1];exact aF (gk (N.v0 h1 S h λov σ1 bF s1 b1 S1 X1 V1 k1=>aF (jZ (aF (gk (bZ k1 λσ2 hs k1=>LL O.toOke S1.R V1 (X1.vr va) hs λbU s2 R2 X2=>wpAny_release (k1 bU s2 () R2 X2 trivial)))))))
  |Subscript o i pos=>
   revert h;refine ju (show two CT.sb (cE g n sc o) (cE g n sc i)=aa t from hc) λoc ic h1 h2 h=>?_
   set_option backward.match.sparseCases true in
   show aC (model W.prog W.w) A (do
    let ov <-holding [v] (eval o env)
    let iv <-holding [v,ov] (eval i env)
    standAt pos
    holding [v,ov,iv] (setItem ov iv v)
    release (match(generalizing:=false) i with| .Slice _ _ af _=>[iv,v,ov]|_=>[v,ov,iv]) []) Q E s
   exact aF (gk (N.v0 h1 S h λov σ1 bF s1 b1 S1 X1 V1 k1=>aF (gk (N.v0 h2 S1 k1 λiv σ2 bU s2 b2 S2 X2 V2 k2=>aF (jZ (aF (gk (bZ k2 λσ3 hs k2=>Xu S2.R (X2.vr V1) V2 (X2.vr (X1.vr va)) hs λs3 R3 X3=>wpAny_release (k2 bU s3 () R3 X3 trivial)))))))))
  |Tuple es k pos=>revert h;exact oM (show(bB (cT g n sc) es).map CT.tp=aa t from hc) λts h1 h=>lM h
  |_=>exact aN hc
theorem BD:∀{es:List aS} {ts:List CT},bB (cT g f sc) es=aa ts->assignEach es env=es.map λt=>(ak,assign t env)
 | [],_,_=>rfl
 |e::es,_,hc=>by
  refine fE (qR hc) λb m h1 h2 uS=>?_;subst uS;have:assignEach (e::es) env=(ak,assign e env)::assignEach es env:=by
   cases e<;>first|rfl|skip
   cases f<;>(exact aN h1)
  rw[this,BD h2];rfl
theorem YM(O:Okg W C g)(N:bL W C g ih){Q:Unit->aE->Prop}:∀{es:List aS} {ts:List CT} {as:List AV} {vs:List ay} {U:ES} {Y:Nat->aG} {s:aE},bB (cT g f sc) es=aa ts->aZ W C d A sc cx env U Y s->aO (VR W U.next Y) as vs->
  PR W U.st Y s.heap VU Q E (r8 C ih d cx ts as U)->aC (model W.prog W.w) A (assignInOrder (es.map λt=>assign t env) vs) Q E s:=by
 intro es;induction es generalizing Q with
 |nil=>
  intro ts as vs U Y s hc S va h;obtain rfl:=aX hc;cases va with
  |nil=>exact bu (h Y s () S.R .refl trivial)
  |cons _ _=>exact h.elim
 |cons e es ihl=>
  intro ts as vs U Y s hc S va h;revert h;refine pZ hc λb m h1 h2 h=>?_;cases va with
  |nil=>exact h.elim
  |@cons a v as vs va vt=>have h:PR W U.st Y s.heap VU Q E (bindR (CV C ih d cx b a U) λ_ σ1=>r8 C ih d cx m as σ1):=h;show aC (model W.prog W.w) A (do holding vs (assign e env v);assignInOrder (es.map λt=>assign t env) vs) Q E s;refine aF (gk (MF O N h1 S va (PR.then S.R h λu σ1 bF s1 b1 R1 X1 V1 k1=>?_)));exact ihl h2 (S.ext R1 X1) (vt.mono λ_ _=>X1.vr) k1
theorem afR{n:Nat}{e:aS}{ts:List CT}(hc:cT g (n+1) sc e=aa (.tp ts)):∃es k pos,e= .Tuple es k pos/\bB (cT g n sc) es=aa ts:=by
 cases e with
 |Tuple es k pos=>exact aV (Zt (show(bB (cT g n sc) es).map CT.tp=aa (.tp ts)from hc)) λts' h1 h2=>⟨es,k,pos,rfl,by rw[h1];cases h2;rfl⟩
 |Name id pos=>exact fE (yL (show two (λk b=>CT.nm k b) (codeN id) (kindB (sc.names.lookup id))=aa (.tp ts)from hc)) λk b h1 h2 h3=>nomatch h3
 |Attribute o at' pos=>exact fE (yL (show two CT.at (cE g n sc o) (codeN at')=aa (.tp ts)from hc)) λoc k h1 h2 h3=>nomatch h3
 |Subscript o i pos=>exact fE (yL (show two CT.sb (cE g n sc o) (cE g n sc i)=aa (.tp ts)from hc)) λoc ic h1 h2 h3=>nomatch h3
 |_=>exact aN hc
theorem vM{I H:Type}{k:I->Option H}{l:List I}:∀{r:List H},bB k l=aa r->r.length=l.length:=by
 induction l with
 |nil=>intro r h;exact sI h rfl
 |cons e es ih=>intro r h;exact pZ h λb m _ h2=>congrArg (· +1) (ih h2)
theorem ML(O:Okg W C g)(N:bL W C g ih){t:CT}{target:aS}{a:AV}{v:ay}{Q:Unit->aE->Prop}(hc:cT g f sc target=aa t)(S:aZ W C d A sc cx env U Y s)(va:VR W U.next Y a v)
  (h:PR W U.st Y s.heap VU Q E (nE C ih d cx t a U)):aC (model W.prog W.w) A (assign target env v) Q E s:=by
 cases t with
 |tp ts=>
  cases f with
  |zero=>exact aN hc
  |succ n=>
   obtain⟨es,k,pos,rfl,h1⟩:=afR hc;obtain⟨hh,h⟩:=Cj S h;refine bZ h λvs hs h=>jA h λhl h=>?_;show aC (model W.prog W.w) A (do standAt pos;unpack v (assignEach es env)) Q E s;refine aF (jZ ?_);unfold unpack;rw[BD h1];have e1:(es.map λt=>(ak,assign t env)).map (·.2)=es.map λt=>assign t env:=by simp
   have e2:(es.map λt=>(ak,assign t env)).findIdx? (·.1)=af:=by rw[List.findIdx?_eq_none_iff];intro x hx;refine aV (List.mem_map.mp hx) λy _ Ao=>?_;subst Ao;rfl
   rw[e1,e2,tN];exact aF (gk (Fc S.R hh va hs ((vM h1).symm.trans (cG hl)) λitems s1 R1 X1 V1=>YM O N h1 (S.ext R1 X1) V1 (PR.from S.R R1 X1 h)))
 |_=>exact MF O N hc S va h
end
structure Okh(W:WS)(C:EC)(g:Nat->Option AV):Prop extends Okg W C g where
 RU:∀K,C.isExc K=ah->typeIn W.K (.ref K)=aa (.type "type")
 wF:∀K' K b,C.wF K' K=aa b->exmOne W.K (.ref K') (.ref K)=aa b
section
variable{W:WS}{C:EC}{g:Nat->Option AV}{d:Nat}{A:cR}{sc:cu}{cx:CX}{env:Env}{U U1_:ES}{Y cF:Nat->aG}{s s1_:aE}{E:ay->aE->Prop}
variable{ih:Ev}{f:Nat}
theorem qS{a:Flow}{b:gA}{Q:gA->aE->Prop}(R0:Rel W U.st Y s)(h:PR W U.st Y s.heap (gM W) Q E (.ok a U))(e:gM W U.next Y a b):Q b s:=h Y s b R0 .refl e
theorem Xl(N:jg W U.next Y sc cx env):interactive env=ak:=by unfold interactive;rw[N.kind];rfl
theorem Zb(S:aZ W C d A sc cx env U Y s){ie:aS}{gens:List Bx}{sc':cu}{pos px:Pos}{t:Str}{line:Nat}:
  ∃b,swapsWith (.ListComp ie gens sc' pos) (aa (.Name t px)) line env=pure b/\(b=ah->env.kindOf t=aa .local):=by
 refine⟨_,rfl,λh=>?_⟩;rw[bJ,bJ,bJ]at h;exact eq_of_beq h.1.1.2
theorem Fl{e:aS}{t:Option aS}{line:Nat}(h:nA e=ak):swapsWith e t line env=pure ak:=by cases e<;>first|rfl|(exact Bb h)
theorem YB{e t:aS}{line:Nat}(h:∀id pos,t≠ .Name id pos):swapsWith e (aa t) line env=pure ak:=by
 cases hc:nA e with
 |false=>exact Fl hc
 |true=>cases e<;>first|exact cB hc|(cases t<;>first|rfl|exact absurd rfl (h _ _))
theorem ads(O:Okg W C g)(N:bL W C g ih){x:aS}{c:CE}{pos:Pos}{Q:gA->aE->Prop}(hx:nA x=ak)(hc:cE g f sc x=aa c)(S:aZ W C d A sc cx env U Y s)
  (h:PR W U.st Y s.heap (gM W) Q E (bindR (bw ih d cx c U) λ_ σ1=>.ok .next σ1)):aC (model W.prog W.w) A (exec (.Expr x pos) env) Q E s:=
 wpAny_Expr_any (N.v hc S (PR.then S.R h λv σ1 bF s1 b1 R1 X1 V1 h1=>qS R1 h1 rfl)) (Xl S.N) (Fl hx)
theorem agd(N:bL W C g ih){x:aS}{c:CE}{pos:Pos}{Q:gA->aE->Prop}(hc:cE g f sc x=aa c)(S:aZ W C d A sc cx env U Y s)
  (h:PR W U.st Y s.heap (gM W) Q E (bindR (bw ih d cx c U) λv σ1=>.ok (.ret v) σ1)):aC (model W.prog W.w) A (exec (.Return (aa x) pos) env) Q E s:=
 Xh (N.v hc S (PR.then S.R h λv σ1 bF s1 b1 R1 X1 V1 h1=>qS R1 h1 ⟨b1,rfl,V1⟩))
theorem adn{t:CT}{target x:aS}{pos:Pos}{Q:gA->aE->Prop}(ht:cT g f sc target=aa t)(hs:swapsWithSole [target] x pos.line env=pure ak)(hw:swappedStores [target] x env=pure af)
  (h:aC (model W.prog W.w) A (eval x env) (λv s1_=>aC (model W.prog W.w) A (assign target env v) (λ_ s'=>Q .next s') E s1_) E s):aC (model W.prog W.w) A (exec (.Assign [target] x pos) env) Q E s:=by
 have hstar:assignEach [target] env=[(ak,assign target env)]:=by have:=BD (env:=env) (es:=[target]) (ts:=[t]) (f:=f) (g:=g) (sc:=sc) (by unfold bB;rw[ht];rfl);rw[this];rfl
 rw[exec_Assign,hs,hw,hstar];refine aF (jZ (aF (bu ?_)));rw[if_neg (by decide)];refine aF (eL h (λv s1 h1=>aF (bu ?_)) λ_ _ e=>e);show aC (model W.prog W.w) A (do assign target env v;pure .next) Q E s1;exact aF (eL h1 (λ_ s2 h2=>bu h2) λ_ _ e=>e)
theorem Qp(O:Okg W C g)(N:bL W C g ih){t:CT}{target x:aS}{c:CE}{pos:Pos}{Q:gA->aE->Prop}(ht:cT g f sc target=aa t)(hc:cE g f sc x=aa c)(S:aZ W C d A sc cx env U Y s)
  (hs:swapsWithSole [target] x pos.line env=pure ak) (hw:swappedStores [target] x env=pure af)
  (h:PR W U.st Y s.heap (gM W) Q E (bindR (bw ih d cx c U) λv σ1=>bindR (nE C ih d cx t v σ1) λ_ σ2=>.ok .next σ2)):aC (model W.prog W.w) A (exec (.Assign [target] x pos) env) Q E s:=by
 have hstar:assignEach [target] env=[(ak,assign target env)]:=by have:=BD (env:=env) (es:=[target]) (ts:=[t]) (f:=f) (g:=g) (sc:=sc) (by unfold bB;rw[ht];rfl);rw[this];rfl
 rw[exec_Assign,hs,hw,hstar];refine aF (jZ (aF (bu ?_)));rw[if_neg (by decide)];refine aF (N.v hc S (PR.then S.R h λv σ1 bF s1 b1 R1 X1 V1 h1=>aF (bu ?_)));show aC (model W.prog W.w) A (do assign target env b1;pure .next) Q E s1;refine aF (ML O N ht (S.ext R1 X1) V1 (PR.then R1 h1 λu σ2 bU s2 b2 R2 X2 V2 h2=>bu (qS R2 h2 rfl)))
theorem aeE(O:Okg W C g)(N:bL W C g ih){elt src:CE}{tgt:Nat}{own:Bool}{test:Option CE}{free:List Nat}{ie iN:aS}{ifs:List aS}{t:Str}{px pos:Pos}{te:Option aS}{sc':cu}{y:Str}{py pos':Pos}{k:Nat}{Q:gA->aE->Prop}
  (wJ:cE g f sc iN=aa src) (helt:cE g f sc' ie=aa elt) (hfree:oq sc'=aa free) (hok:t9 sc' (cond own [t] [])=ah) (hid:codeN t=aa tgt) (hlk:sc'.names.lookup t=aa (cond own .cell .local)) (ht:cOpt (cE g f sc') te=aa test) (hif:te.toList=ifs)
  (hy:codeN y=aa k) (hk:sc.names.lookup y=aa .local) (hs:swapsWith (.ListComp ie [⟨.Name t px,iN,ifs,0⟩] sc' pos) (aa (.Name y py)) pos'.line env=pure ah)
  (S:aZ W C d A sc cx env U Y s) (h:PR W U.st Y s.heap (gM W) Q E (bindR (cA (yY C ih d cx elt tgt own src test free U)) λv σ1=>bindR (nE C ih d cx (.nm k ak) v σ1) λ_ σ2=>.ok .next σ2)):
  aC (model W.prog W.w) A (exec (.Assign [.Name y py] (.ListComp ie [⟨.Name t px,iN,ifs,0⟩] sc' pos) pos') env) Q E s:=by
 rw[exec_Assign_Name_used _ _ _ _ hs];refine aF (jZ (aF ?_));show aC _ A (do let _ <-comprehension (.ListComp ie [⟨.Name t px,iN,ifs,0⟩] sc' pos) sc' env _ (newList []) ak (eval iN env) (aa (assign (.Name y py) env))) _ _ s;rw[aaL]at h;refine aF (eL (Q:=λ_ s'=>Q .next s') (NO (use:=aa (assign (.Name y py) env)) O.toOkc N wJ helt hfree hok hid hlk ht hif S h λacc q σ3 dg s3 S3 X3 l3 hq h3=>?_) (λ_ s' hq=>bu (bu hq)) λ_ _ e=>e);have h3:PR W σ3.st dg s3.heap (gM W) Q E (bindR (bz (gH cx k ak (.ref acc) σ3) λσ1=>.ok () σ1) λ_ σ2=>.ok .next σ2):=h3;refine Ag h3 λbA hst h3=>Bs S3 (cell:=ak) (a:=.ref acc) hy hk ⟨l3,rfl⟩ hst λs4 R4 X4=>?_;have Vo:bA.get q=aa .iD:=by refine oM (show(σ3.gN cx.loc).map (λkvs=>σ3.put cx.loc (.ns (putN kvs k (.ref acc))))=aa bA from hst) λkvs hx=>?_;have hx:=kQ hx;have:=congrArg (λz=>St.get z q) (ES.mG (o:=.ns (putN kvs k (.ref acc))) hx);refine this.trans ((if_neg λe=>?_).trans hq);rw[e,hx]at hq;cases hq
 obtain⟨m,hm⟩:=Nx R4 Vo;refine⟨m,hm,λh' m' hn hb=>?_⟩;obtain⟨R5,X5⟩:=Mz R4 Vo hn hb;exact h3 dg {s4 with heap:=h'} .next R5 (X4.trans S3.R.lt R4.lt X5) rfl
theorem Li(S:aZ W C d A sc cx env U Y s){Q:Unit->aE->Prop}:∀{names:List Str} {ks:List Nat} {as:List AV} {vs:List ay} {U σ':ES} {s:aE},bB codeN names=aa ks->(∀n∈names,sc.names.lookup n=aa .local)->jg W U.next Y sc cx env->Rel W U.st Y s->
  aO (VR W U.next Y) as vs->names.length=as.length->storeAll cx (ks.zip as) U=aa σ'->(∀s',Rel W σ'.st Y s'->Ext W U.st Y s.heap σ'.st Y s'.heap->Q () s')->
  aC (model W.prog W.w) A (assignInOrder (names.map λn=>bindName env n) vs) Q E s:=by
 clear S;intro names;induction names with
 |nil=>
  intro ks as vs U σ' s hk _ N R0 va hl e h;obtain rfl:=aX hk;cases va with
  |nil=>obtain rfl:=aX e;exact bu (h s R0 .refl)
  |cons _ _=>contradiction
 |cons n names ih=>
  intro ks as vs U σ' s hk hloc N R0 va hl e h;revert e;refine pZ hk λb m h1 h2 e=>?_;cases va with
  |nil=>contradiction
  |@cons a v as vs va vt=>refine oE (show(gH cx b ak a U).bind (λσ'=>storeAll cx (m.zip as) σ')=aa σ' from e) λσ1 hs e=>?_;show aC (model W.prog W.w) A (do holding vs (bindName env n v);assignInOrder (names.map λn=>bindName env n) vs) Q E s;refine aF (gk (Ly (vI (cell:=ak) R0 N h1 (hloc n (.head _)) va hs λs1 R1 X1=>?_)));exact ih h2 (λx hx=>hloc x (.tail _ hx)) (N.mono X1.le X1.ag) R1 (vt.mono λ_ _=>X1.vr) (qO hl) e λs2 R2 X2=>h s2 R2 (X1.trans R0.lt R1.lt X2)
theorem FE(N:jg W U.next Y sc cx env)(id:Str):(env.kindOf id==aa .local)=(sc.names.lookup id==aa .local):=by
 rcases N.kinds id with q|⟨q1,q2⟩
 ·rw[q]
 ·rw[q1,q2];rfl
theorem ahO{a z b c d e:Bool}{names:List Str}{r:Option (List Str)}{x:Sem (Option (List Str))}(hz:z=ak)(h:cond (a||b||c||d) (aa af) (cond e af (aa (aa names)))=aa r):
  (if(a||z)=ah then pure af else if b=ah then pure af else if c=ah then pure af else if d=ah then pure af else if e=ah then x else pure (aa names):Sem (Option (List Str)))=pure r:=by
 subst hz;cases a with
 |true=>cases h;rfl
 |false=>cases b with
  |true=>cases h;rfl
  |false=>cases c with
   |true=>cases h;rfl
   |false=>cases d with
    |true=>cases h;rfl
    |false=>cases e with
     |true=>exact nomatch h
     |false=>cases h;rfl
theorem Gj(N:jg W U.next Y sc cx env){ts vs:List aS}{k k':Nat}{p p':Pos}{r:Option (List Str)}(h:sf sc ts vs=aa r):swappedStores [.Tuple ts k p] (.Tuple vs k' p') env=pure r:=by
 have bk:env.blockKind= .function:=by unfold Env.blockKind;rw[N.kind];rfl
 unfold swappedStores;dsimp only;rw[bk];generalize hN2:List.filterMap _ ts=N2;rw[show N2=xo sc ts from by
  rw[<-hN2];unfold xo
  congr 1<;>(funext x;cases x<;>first|rfl|(dsimp only;rw[FE N];rfl))]
 exact ahO rfl h
theorem MN{ts vs:List aS}{names:List Str}(h:sf sc ts vs=aa (aa names)):∀n∈names,sc.names.lookup n=aa .local:=by
 refine bS (P:=(· =aa (aa names))) h (λ_ h=>nomatch h) λ_ h=>bS (P:=(· =aa (aa names))) h (λ_ h=>nomatch h) λ_ h=>?_;rw[<-aX (aX h)];intro n hn;refine aV (List.mem_filterMap.mp hn) λx _ hx=>?_;cases x with
 |Name id pos=>
  have hx:(if(sc.names.lookup id==aa .local&&pos.line==(ts.head?.map (·.pos.line)).getD 0)=ah then aa id else af)=aa n:=hx
  by_cases q:(sc.names.lookup id==aa .local&&pos.line==(ts.head?.map (·.pos.line)).getD 0)=ah
  ·rw[if_pos q]at hx;rw[<-aX hx];rw[bJ]at q;exact eq_of_beq q.1
  ·rw[if_neg q]at hx;exact aN hx
 |_=>exact aN hx
theorem aO.reverse{I H:Type}{R:I->H->Prop}{l:List I}{m:List H}(h:aO R l m):aO R l.reverse m.reverse:=by
 induction h with
 |nil=>exact .nil
 |cons h _ ih=>rw[rQ,rQ];exact ih.append (.cons h .nil)
theorem Zc{I H:Type}{k:I->Option H}{a:I}{b:H}(h1:k a=aa b){l:List I}:∀{r:List H},bB k l=aa r->bB k (l++[a])=aa (r++[b]):=by
 induction l with
 |nil=>intro r h;exact sI h (by show(k a).bind _=_;rw[h1];rfl)
 |cons x l ih=>intro r h;exact pZ h λy m h2 h3=>by show(k x).bind (λb=>(bB k (l++[a])).map λm=>b::m)=_;rw[h2,ih h3];rfl
theorem MX{I H:Type}{k:I->Option H}{l:List I}:∀{r:List H},bB k l=aa r->bB k l.reverse=aa r.reverse:=by
 induction l with
 |nil=>intro r h;exact sI h rfl
 |cons a l ih=>intro r h;exact pZ h λb m h1 h2=>by rw[rQ,rQ];exact Zc h1 (ih h2)
theorem abo{I H:Type}:∀{l:List I} {m:List H},l.length=m.length->(l.zip m).reverse=l.reverse.zip m.reverse:=by
 intro l;induction l with
 |nil=>intro m h;cases m<;>rfl
 |cons a l ih=>
  intro m h;cases m with
  |nil=>contradiction
  |cons b m=>have h:=qO h;rw[xO,rQ,rQ,rQ,ih h,Lr (by rw[xN,xN,h])];rfl
theorem adw(O:Okg W C g)(N:bL W C g ih){ts vs:List aS}{names:List Str}{ks:List Nat}{c:CE}{k k':Nat}{p p' pos:Pos}{Q:gA->aE->Prop}(hv:sf sc ts vs=aa (aa names))(hk:bB codeN names=aa ks)(hc:cE g f sc (.Tuple vs k' p')=aa c)
  (S:aZ W C d A sc cx env U Y s) (h:PR W U.st Y s.heap (gM W) Q E (live d (PN C ih d cx ks c U))):aC (model W.prog W.w) A (exec (.Assign [.Tuple ts k p] (.Tuple vs k' p') pos) env) Q E s:=by
 obtain⟨hh,h⟩:=Cj S h;refine WQ (names:=names) (N.v hc S (PR.then S.R h λv σ1 bF s1 b1 R1 X1 V1 h1=>bZ h1 λas hs h1=>jA h1 λhl h1=>bZ h1 λσ2 hst h1=>?_)) (hw:=Gj S.N hv);have hl:=cG hl;have hl2:=(vM hk).symm.trans hl;refine Fc R1 hh V1 hs hl2 λitems s2 R2 X2 V2=>?_;rw[abo hl]at hst;have S1:=(S.ext R1 X1).ext R2 X2;exact Li S1 (names:=names.reverse) (MX hk) (λn hn=>MN hv n (List.mem_reverse.mp hn)) S1.N R2 V2.reverse (by rw[xN,xN];exact hl2) hst λs3 R3 X3=>h1 bF s3 .next R3 (X2.trans R1.lt R2.lt X3) rfl
theorem MA{op:jI}{a b r:AV}{v w:ay}{Q:ay->aE->Prop}(va:VR W U.next Y a v)(vb:VR W U.next Y b w)(e:DG op a b=aa r)
  (h:∀u t,VR W U.next Y r u->Q u {s with toks:=t}):aC (model W.prog W.w) A (inplaceOp op v w) Q E s:=by
 revert h;refine bE e λq e=>oE e λi hi e=>oE e λj hj e=>vInt hi va λt=>vInt hj vb λu=>oM e λk hk h=>?_;have q:op= .Add:=by cases op<;>first|rfl|exact cB q
 rw[q];exact iadd_int (h _ _ ⟨_,by rw[NQ hk]⟩)
theorem age(O:Okg W C g)(N:bL W C g ih){o x:aS}{oc c:CE}{a:Str}{k:Nat}{op:jI}{tp pos:Pos}{Q:gA->aE->Prop}(ho:cE g f sc o=aa oc)(ha:codeN a=aa k)(hc:cE g f sc x=aa c)(S:aZ W C d A sc cx env U Y s)
  (h:PR W U.st Y s.heap (gM W) Q E (Q3 C ih d cx oc k op c U)):aC (model W.prog W.w) A (exec (.AugAssign (.Attribute o a tp) op x pos) env) Q E s:=by
 rw[<-(mz ha).1];refine wpAny_AugAssign_AttributeAny (N.v0 ho S h λov σ1 bF s1 b1 S1 X1 V1 h1=>bZ h1 λold hg h1=>LJ O.toOke S1.R V1 hg λu t Vu=>?_);refine N.v0 hc (S1.ext (S1.R.tok t) .refl) h1 λv σ2 bU s2 b2 S2 X2 V2 h2=>bZ h2 λr hu h2=>MA (X2.vr Vu) V2 hu λw t2 Vw=>?_;exact bZ h2 λσ3 hst h2=>LL O.toOke (S2.R.tok t2) (X2.vr V1) Vw hst λdg s3 R3 X3=>h2 dg s3 .next R3 X3 rfl
theorem acz(O:Okg W C g)(N:bL W C g ih){x:aS}{c:CE}{id:Str}{k:Nat}{cell:Bool}{op:jI}{tp pos:Pos}{Q:gA->aE->Prop}(ha:codeN id=aa k)(hk:sc.names.lookup id=aa (cond cell .cell .local))(hc:cE g f sc x=aa c)(S:aZ W C d A sc cx env U Y s)
  (h:PR W U.st Y s.heap (gM W) Q E (Qh ih d cx k cell op c U)):aC (model W.prog W.w) A (exec (.AugAssign (.Name id tp) op x pos) env) Q E s:=by
 have hn:cE g 1 sc (.Name id tp)=aa (cond cell (.bh k) (.loc k)):=by show(codeN id).bind (λk=>RA g k (sc.names.lookup id))=_;rw[ha,hk];cases cell<;>rfl
 have ld:∀{Q:ay->aE->Prop} {E':ay->aE->Prop},aC (model W.prog W.w) A (eval (.Name id tp) env) Q E' s->aC (model W.prog W.w) A (do standAt tp;loadName env id) Q E' s:=λq=>by rw[eval_Name env id tp (mz ha).2.1]at q;exact q
 rw[exec_AugAssign_Name];have:=ld (E':=E) (N.v0 hn S h λold σ1 bF s1 b1 S1 X1 V1 h1=>(show(λ(old:ay) s'=>aC (model W.prog W.w) A (do
   let v <-holding [old] (eval x env)
   standAt pos
   let new <-operate [old,v] (inplaceOp op old v)
   standAt tp
   bindName env id new
   pure .next) Q E s') b1 s1 from by
  refine aF (gk (N.v0 hc S1 h1 λv σ2 bU s2 b2 S2 X2 V2 h2=>aF (jZ (aF (wpAny_operate' ?_)))));exact bZ h2 λr hu h2=>MA (X2.vr V1) V2 hu λw t2 Vw=>aF (jZ (aF (Ly (bZ h2 λσ3 hst h2=>vI (S2.R.tok t2) S2.N ha hk Vw hst λs3 R3 X3=>bu (h2 bU s3 .next R3 X3 rfl)))))))
 have e:(do standAt tp;let old <-loadName env id;let v <-holding [old] (eval x env);standAt pos;let new <-operate [old,v] (inplaceOp op old v);standAt tp;bindName env id new;pure Ls:Sem gA)=
   ((do standAt tp;loadName env id) >>= λold=>(do let v <-holding [old] (eval x env);standAt pos;let new <-operate [old,v] (inplaceOp op old v);standAt tp;bindName env id new;pure Ls)):=by
  simp only[bind_assoc]
 rw[e];exact aF (eL this (λ_ _ q=>q) λ_ _ q=>q)
theorem aij(N:bL W C g ih){t:aS}{z:CE}{a b:List fR}{ca cb:List CS}{pos:Pos}{Q:gA->aE->Prop}(T:iF A env)(hz:cE g f sc t=aa z)(ha:bB (cS g f sc) a=aa ca)(hb:bB (cS g f sc) b=aa cb)(S:aZ W C d A sc cx env U Y s)
  (h:PR W U.st Y s.heap (gM W) Q E (bindR (fK ih d cx z U) λq σ1=>cH ih d (.s cx (cond q ca cb)) σ1)):aC (model W.prog W.w) A (exec (.If t a b pos) env) Q E s:=by
 refine wpAny_If (N.b hz S (PR.then S.R h λv σ1 bF s1 b1 R1 X1 V1 h1=>?_));obtain rfl:v=b1:=V1;cases v with
 |true=>rw[if_pos rfl];exact N.s ha (S.ext R1 X1) T h1.jk
 |false=>rw[if_neg (by decide)];exact N.s hb (S.ext R1 X1) T h1.jk
end
section
variable{W:WS}{C:EC}{g:Nat->Option AV}{d:Nat}{A:cR}{sc:cu}{cx:CX}{env:Env}{U U1_:ES}{Y cF:Nat->aG}{s s1_:aE}{E:ay->aE->Prop}
variable{ih:Ev}{f:Nat}
theorem abS(O:Okh W C g)(N:bL W C g ih){x:aS}{c:CE}{pos:Pos}{Q:gA->aE->Prop}(hc:cE g f sc x=aa c)(S:aZ W C d A sc cx env U Y s)
  (h:PR W U.st Y s.heap (gM W) Q E (bindR (bw ih d cx c U) (Rv C d))):aC (model W.prog W.w) A (exec (.Raise (aa x) af pos) env) Q E s:=by
 show aC (model W.prog W.w) A (do standAt pos;raiseStmt env (aa (do let v <-eval x env;standAt pos;pure v)) af) Q E s;refine aF (jZ ?_);unfold raiseStmt;dsimp only;refine aF (aF (N.v hc S (PR.then S.R h λv σ1 bF s1 b1 R1 X1 V1 h1=>aF (jZ (bu ?_)))));obtain⟨hh,h1⟩:=Cj (S.ext R1 X1) (show PR W σ1.st bF s1.heap (gM W) Q E (live d _)from h1);refine bZ h1 λy hy h2=>bZ h2 λq hx h3=>bZ h3 λD hq h4=>jA h4 λhtb h5=>jA h5 λhK h5=>bZ h5 λkvs hD h6=>?_;rw[kh hy]at V1;obtain⟨ly,rfl⟩:=V1;obtain⟨K,D0,a,tb⟩:=q;have hx:=r9 hx;have hq:D0=aa D:=hq;have htb:tb=af:=Option.isNone_iff_eq_none.mp htb;have hx:σ1.get y=aa (.exc K (aa D) a af):=by rw[<-hq,<-htb];exact hx
 have hD:=kQ hD;have Z:=O.exc K hK;refine pY (R1.exc hx hD) λox od IA k3 k6 k7=>?_;refine tT (R1.obj _ _ hx) λoe g1 g2 g3 g4 g5 vs g6 g7 g8=>?_;have X:=R1.X O.toOk;have hnt:∀{Q':Bool->aE->Prop},Q' ak s1->aC (model W.prog W.w) A (isType (.ref (bF y))) Q' E s1:=by intro Q' hq;simp only[isType,loadHead];refine aF (xY g1 ?_);rw[g6];exact bu hq
 have LT:qc (model W.prog W.w) s1.heap (typeOf (.ref (bF y))) (.ref K):=IA.type;have LB:qc (model W.prog W.w) s1.heap (isInstance (.ref (bF y)) (.type "BaseException")) ah:=IA.type.andThen (looks_subIn X Z.be);refine aF (bu ?_);dsimp only;refine aF (gk ?_);unfold excFromValue isExcClass;refine aF (aF (hnt ?_));simp only[Bm,if_false];refine bu ?_;refine aF (LB.here ?_);simp only[if_true];refine bu ?_;refine aF (hnt ?_);simp only[Bm,if_false];unfold raisedInstance;refine aF (aF (LT.here (aF ((looks_typeIn X (O.RU K hK)).here ?_))));rw[if_pos (by rfl)];refine bu ?_;unfold setFlight;refine aF (aF (j9 g1 g6 g8 ?_));rw[if_neg (by decide)];refine bu ?_;exact wpAny_raiseNew_none hh (h6 bF s1 R1 .refl ly)
theorem eu.mark{h:cy}(F:eu W d A U.st Y h)(e:Option ay):eu W 0 (A.mark e) U.st Y h:=
 ⟨by have:=F.hd;show A.depth+4*0+8<_;exact afy this,by have:=F.hu;show A.units+40*0+40<_;exact agf this,λh=>absurd rfl h,F.fr,F.tb⟩
theorem aZ.mark(S:aZ W C d A sc cx env U Y s)(e:Option ay):aZ W C 0 (A.mark e) sc cx env U Y s:=⟨S.R,S.N,S.F.mark e,S.T⟩
theorem aZ.unmark{e:Option ay}(S:aZ W C d A sc cx env U Y s){σ1:ES}{bF:Nat->aG}{s1:aE}(S1:aZ W C 0 (A.mark e) sc cx env σ1 bF s1)(X:Ext W U.st Y s.heap σ1.st bF s1.heap):aZ W C d A sc cx env σ1 bF s1:=S.ext S1.R X
theorem gF(kvs:List (Nat×AV))(k:Nat)(v:AV):bN (putN kvs k v) k=aa v:=by
 induction kvs with
 |nil=>rw[ND,pS];rw[fT,decide_eq_true rfl]
 |cons p l ih=>
  rw[yC];cases q:aH p.1 k with
  |true=>rw[pS,q]
  |false=>rw[pS,q];exact ih
theorem Xk(S:aZ W C d A sc cx env U Y s){n:Str}{k:Nat}{pos:Pos}{dR:ES}{kvs:List (Nat×AV)}{Q:Unit->aE->Prop}(hn:codeN n=aa k)(hk:sc.names.lookup n=aa .local)
  (e:gH cx k ak .none U=aa dR) (h8:dR.get cx.loc=aa (.ns kvs)) (h:∀s',Rel W (dR.put cx.loc .iD).st Y s'->Ext W U.st Y s.heap (dR.put cx.loc .iD).st Y s'.heap->Q () s'):
  aC (model W.prog W.w) A (do bindName env n .none;unbindBehindTheSuite env n pos) Q E s:=by
 revert h h8;refine oM (show(U.gN cx.loc).map (λkvs=>U.put cx.loc (.ns (putN kvs k .none)))=aa dR from e) λuH hx h8 h=>?_;have hx:=kQ hx;have kd:env.kindOf n=aa .local:=eq_of_beq (by rw[FE S.N,hk];rfl);have hp:(env.scope.kind== .class||(env.scope.kind== .module&&env.locals != env.globals))=ak:=by rw[S.N.kind];rfl
 refine aF (Ly (vI (cell:=ak) (a:=.none) S.R S.N hn hk rfl (show gH cx k ak .none U=aa _ from by show(U.gN cx.loc).map _=_;rw[qi hx];rfl) λs1 R1 X1=>?_));have g8:(U.put cx.loc (.ns (putN uH k .none))).get cx.loc=aa (.ns (putN uH k .none)):=by have:=congrArg (λz=>St.get z cx.loc) (ES.mG (o:=.ns (putN uH k .none)) hx);exact this.trans (if_pos rfl)
 refine aV (R1.obj _ _ g8) λo JF ho2=>?_;refine aV (Q5 JF ho2) λm hm hl=>?_;have hsome:(m n).isSome=ah:=by
  rcases hl k with⟨av,v,q1,q2,q3⟩|⟨q1,q2⟩
  ·rw[<-(mz hn).1,q2];rfl
  ·rw[gF]at q1;exact lV q1
 unfold unbindBehindTheSuite;refine wpAny_onRaise ?_;unfold unbindName;refine aF (wpAny_point (aF ?_));unfold deleteName;simp only[kd,hp];rw[if_neg (by decide)];have hL:env.locals=Y cx.loc:=S.N.loc.1;rw[hL];refine aF (wpAny_nsDel hm λh2_ m2_ hn2_ hs2_=>?_);rw[hsome];simp only[if_true,Bool.not_true,Bm,if_false];refine bu (wpAny_point ?_);refine Oq hn2_ λo2 es ep p1 p2 p3 _=>?_;try clear hn2_
 obtain⟨R2,X2⟩:=R1.nL (t:=s1.toks) (o':=.iD) g8 hs2_ p1 (λ_ _ _ vs z=>by rw[p2]at z;contradiction) ⟨es,ep,p2,p3⟩;exact h _ R2 (X1.trans S.R.lt R1.lt X2)
theorem agr(O:Okh W C g)(N:bL W C g ih){b:List fR}{ce:aS}{h0:fR}{hb:List fR}{cb JG:List CS}{cc:CE}{x:Str}{k:Nat}{pos hpos:Pos}{Q:gA->aE->Prop}(T:iF A env)(hcb:bB (cS g f sc) b=aa cb)(hcc:cE g f sc ce=aa cc)
  (hch:bB (cS g f sc) (h0::hb)=aa JG) (hx:codeN x=aa k) (hk:sc.names.lookup x=aa .local) (S:aZ W C d A sc cx env U Y s)
  (h:PR W U.st Y s.heap (gM W) Q E (QI C ih d cx cc k JG (cH ih d (.s cx cb) U))):aC (model W.prog W.w) A (exec (.Try b [.ExceptHandler (aa ce) (aa x) (h0::hb) hpos] [] [] pos) env) Q E s:=by
 refine wpAny_Try_except ?_;have body:=set_option backward.match.sparseCases true in PR.fold (V:=gM W) (Q:=λfl s1_=>match fl with| .next=>aC (model W.prog W.w) A (execs [] env) Q E s1_|fl=>Q fl s1_)
  (E:=λe s1_=>aC (model W.prog W.w) A (noteFrame e env) (λ_ s2_=>aC (model W.prog W.w) A (setFlight e af) (λ_ s3_=>aC (model W.prog W.w) A (handleBy e env [.ExceptHandler (aa ce) (aa x) (h0::hb) hpos]) Q E s3_) E s2_) E s1_) S.R h
  (λa σ1 bF s1 fl R1 X1 V1 h1=>?_) (λy σ1 bF s1 R1 X1 l1 h1=>?_)
 ·exact N.s hcb S T body.jk
 ·have:=qS R1 h1 V1;cases fl with
  |next=>exact xV this
  |_=>exact this
 ·have S1:=S.ext R1 X1;refine bZ h1 λσ2 hn h1=>Fp S1 T hn λbU s2 R2 X2=>?_;have S2:=S1.ext R2 X2;have l2:=dm l1 X2.le;rw[<-X2.ag y l1];refine bZ (PR.from R1 R2 X2 h1) λσ3 hf h2=>BC (fl:=af) R2 nofun hf λs3 R3 X3=>?_
  have S3:=S2.ext R3 X3;have l3:=dm l2 X3.le;refine wpAny_handleBy_cons ?_ nofun
  refine codeAny_handlers_test (N.v0 hcc (S3.mark (aa (.ref (bU y)))) (PR.from R2 R3 X3 h2) λc bA gy s4 b4 S4 X4 V4 h4=>?_);have l4:=dm l3 X4.le;rw[<-X4.ag y l3];have S4:=(aZ.unmark S3 S4 X4).mark (aa (.ref (gy y)));refine bZ h4 λt hs h4=>jA h4 λht h4=>oE hs λK hK e=>oE e λq hy e=>oE e λD hD0 e=>oE e λkvs hD e=>ru hK V4 ?_;have hy:=r9 hy;rw[hD0]at hy;refine dB (S4.R.exc hy (kQ hD)) λox od IA _=>(exm_one (S4.R.X O.toOk) IA.type (O.wF _ K t e)).here ?_;rw[if_pos ht];refine bZ h4 λbT hf2 h4=>codeAny_handlers_suite_as (BC (fl:=af) S4.R nofun hf2 λs5 R5 X5=>?_);have S5:=S4.ext R5 X5;refine bZ (PR.from S4.R R5 X5 h4) λfz hst h5=>vI (cell:=ak) (a:=.ref y) R5 S5.N hx hk ⟨dm l4 X5.le,rfl⟩ hst λs6 R6 X6=>?_;have S6:=S5.ext R6 X6;have h6:PR W fz.st gy s6.heap (gM W) Q E (bindR (gP (cH ih 0 (.s cx JG) fz)) λf dP=>PV cx k f dP):=PR.from R5 R6 X6 h5;have T':iF (A.mark (aa (.ref (gy y)))) env:=T;refine N.s hch S6 T' (PR.HC R6 h6 λa dP ρ7 s7 fl R7 X7 V7 h7=>bZ h7 λdR aiu h7=>bZ h7 λRT h8 h7=>?_).jk;have X37:=((X4.trans R3.lt S4.R.lt X5).trans R3.lt R5.lt X6).trans R3.lt R6.lt X7;refine Xk (aZ.unmark S3 (S6.ext R7 X7) X37) hx hk aiu (kQ h8) λs9 R9 X9=>h7 ρ7 s9 fl R9 X9 ?_;cases a with
  |ret u=>exact aV V7 λv e1 e2=>⟨v,e1,X9.vr e2⟩
  |_=>exact V7
end
theorem ME{I H γ:Type}{f:I->ES->R H}{g:Nat->ES->R H}{k:H->ES->R γ}(r:R I):bindR (gr f g r) k=gr (λa U=>bindR (f a U) k) (λx U=>bindR (g x U) k) r:=by
 induction r with
 |ok a U=>rfl
 |exc x U=>rfl
 |alt a b dh dj=>show R.alt (bindR (gr f g a) k) (bindR (gr f g b) k)=_;rw[dh,dj];rfl
 |stuck=>rfl
theorem yu{I H γ:Type}{f:H->ES->R γ}{g:Nat->ES->R γ}{k:I->ES->R H}(r:R I):gr f g (bindR r k)=gr (λa U=>gr f g (k a U)) g r:=by
 induction r with
 |ok a U=>rfl
 |exc x U=>rfl
 |alt a b dh dj=>show R.alt (gr f g (bindR a k)) (gr f g (bindR b k))=_;rw[dh,dj];rfl
 |stuck=>rfl
section
variable{W:WS}{C:EC}{g:Nat->Option AV}{d:Nat}{A:cR}{sc:cu}{cx:CX}{env:Env}{U U1_:ES}{Y cF:Nat->aG}{s s1_:aE}{E:ay->aE->Prop}
variable{ih:Ev}{f:Nat}
theorem F8(S:aZ W C d A sc cx env U Y s)(T:iF A env){x:Nat}(lx:x<U.next){I γ δ:Type}{V:Nat->(Nat->aG)->γ->δ->Prop}{Q:δ->aE->Prop}{k:I->ES->R γ}(h:PR W U.st Y s.heap V Q E (bindR (HV cx.fr x U) k)):
  notedBy (model W.prog W.w) A env E (.ref (Y x)) s:=by
 refine Ag h λσ1 hn h=>Fp S T hn λbF s1 R1 X1=>?_;have:=h bF s1 R1 X1 (dm lx X1.le);rw[X1.ag x lx]at this;exact this
theorem afA(N:bL W C g ih){z:CE}{b:List CS}{test:aS}{body:List fR}{Q:gA->aE->Prop}(hz:cE g f sc test=aa z)(hb:bB (cS g f sc) body=aa b)(S:aZ W C d A sc cx env U Y s)(T:iF A env)
  (h:PR W U.st Y s.heap (VF W) Q E (H9 ih d cx z b U)):fj (model W.prog W.w) A (.whileLoop test body [] env) (λr s'=>match r with| .ok f=>Q f s'| .error e=>E e s') s:=by
 unfold H9 Dn at h;rw[ME,yu]at h;refine EU ?_;show aC _ A ((whileTurn test body [] env).onRaise (λx=>do noteFrame x env;theTreesLotGoes x)) _ _ s;refine Mi ?_;simp only[whileTurn];refine aF (N.b hz S (PR.fold S.R h (λv σ1 bF s1 b1 R1 X1 V1 h1=>?_) λx σ1 bF s1 R1 X1 l1 h1=>F8 (S.ext R1 X1) T l1 h1));obtain rfl:v=b1:=V1;have S1:=S.ext R1 X1;cases v with
 |false=>simp only[Bm,if_false];have h1:PR W σ1.st bF s1.heap (VF W) Q E (vq .next σ1):=h1;exact aF (xV (bu (h1 bF s1 .next R1 .refl ⟨_,rfl,rfl⟩)))
 |true=>
  simp only[if_true];have h1:PR W σ1.st bF s1.heap (VF W) Q E (gr (λa U=>bindR (.ok a U) (I5 ih d cx z b)) (λx U=>bindR (HV cx.fr x U) (I5 ih d cx z b)) (bindR (cH ih d (.s cx b) σ1) λf σ2=>.ok (.f f) σ2)):=h1;rw[yu]at h1;refine aF (N.s hb S1 T (PR.fold R1 h1 (λfl σ2 bU s2 b2 R2 X2 V2 h2=>?_) λx σ2 bU s2 R2 X2 l2 h2=>F8 (S1.ext R2 X2) T l2 h2).jk);have S2:=S1.ext R2 X2;have h2:PR W σ2.st bU s2.heap (VF W) Q E (CZ (ih d (.dS cx z b)) fl σ2):=h2;cases fl with
  |next=>cases V2;exact bu ⟨rfl,N.dS hz hb S2 T h2⟩
  |cont=>cases V2;exact bu ⟨rfl,N.dS hz hb S2 T h2⟩
  |brk=>cases V2;exact bu (h2 bU s2 .next R2 .refl ⟨_,rfl,rfl⟩)
  |ret u=>refine aV V2 λw dQ V3=>?_;try clear V2;subst dQ;exact bu (h2 bU s2 (.ret w) R2 .refl ⟨_,rfl,w,rfl,V3⟩)
theorem afh(O:Okg W C g)(N:bL W C g ih){t:CT}{it:Nat}{b:List CS}{id:Str}{px:Pos}{body:List fR}{Q:gA->aE->Prop}(ht:cT g f sc (.Name id px)=aa t)(hb:bB (cS g f sc) body=aa b)(S:aZ W C d A sc cx env U Y s)(T:iF A env)(hi:it<U.next)
  (h:PR W U.st Y s.heap (VF W) Q E (Im C ih d cx t it b U)):fj (model W.prog W.w) A (.forLoop (.Name id px) (.ref (Y it)) body [] env) (λr s'=>match r with| .ok f=>Q f s'| .error e=>E e s') s:=by
 unfold Im at h;obtain⟨hh,h⟩:=Cj S h;refine EU ?_;show aC _ A ((forTurn (.Name id px) (.ref (Y it)) body [] env).onRaise (λx=>do noteFrame x env;theTreesLotGoes x)) _ _ s;refine Mi ?_;simp only[forTurn];refine aF (jZ (aF (wpAny_onRaise ?_)));refine bZ h λp hn h=>?_;obtain⟨o,σ1⟩:=p;cases o with
 |none=>exact next_end O.toOkc S.R hh hn λs1 R1 X1=>bu ⟨rfl,codeAny_block (xV (h Y s1 .next R1 X1 ⟨_,rfl,rfl⟩))⟩
 |some v=>
  refine next_item O.toOkc S.R hn λs1 b1 R1 X1 V1=>?_;have S1:=S.ext R1 X1;have h:=PR.from S.R R1 X1 h;have h:PR W σ1.st Y s1.heap (VF W) Q E (Tw ih d cx t it b v σ1):=h;cases f with
  |zero=>exact aN ht
  |succ n=>
  obtain⟨k,c,hid,hk,rfl⟩:=yL (show two (λk b=>CT.nm k b) (codeN id) (kindB (sc.names.lookup id))=aa t from ht);have hk:=Cd hk;refine bZ h λσ2 hs h=>aF (bu (aF (Bs S1 hid hk V1 hs λs2 R2 X2=>?_)));have S2:=S1.ext R2 X2;have h:=PR.from R1 R2 X2 h;unfold Dn at h;rw[ME,yu]at h;refine aF (N.s hb S2 T (PR.fold R2 h (λfl σ3 dg s3 b3 R3 X3 V3 h3=>?_) λx σ3 dg s3 R3 X3 l3 h3=>F8 (S2.ext R3 X3) T l3 h3).jk);have S3:=S2.ext R3 X3;have mV:=(X1.trans S.R.lt R1.lt X2).trans S.R.lt R2.lt X3;have h3:PR W σ3.st dg s3.heap (VF W) Q E (CZ (ih d (.eF cx (.nm k c) it b)) fl σ3):=h3;have again:PR W σ3.st dg s3.heap (VF W) Q E (ih d (.eF cx (.nm k c) it b) σ3)->fj (model W.prog W.w) A (.forLoop (.Name id px) (.ref (Y it)) body [] env) (λr s'=>match r with| .ok f=>Q f s'| .error e=>E e s') s3:=λh=>by rw[<-mV.ag it hi];exact N.eF ht hb S3 T (dm hi mV.le) h
  cases fl with
  |next=>cases V3;exact bu ⟨rfl,again h3⟩
  |cont=>cases V3;exact bu ⟨rfl,again h3⟩
  |brk=>cases V3;exact bu (h3 dg s3 .next R3 .refl ⟨_,rfl,rfl⟩)
  |ret u=>refine aV V3 λw jW V4=>?_;try clear V3;subst jW;exact bu (h3 dg s3 (.ret w) R3 .refl ⟨_,rfl,w,rfl,V4⟩)
theorem MR(S:aZ W C d A sc cx env U Y s){x:Nat}(lx:x<U.next){γ δ:Type}{V:Nat->(Nat->aG)->γ->δ->Prop}{Q:δ->aE->Prop}(h:PR W U.st Y s.heap V Q E (NZ (aa cx.fr) x U)):
  cameBackBy (model W.prog W.w) A env E (.ref (Y x)) s:=by
 refine bZ h λσ1 hn h=>oE hn λq hx e=>oE e λt ht e=>?_;have hx:=r9 hx;rw[ht]at hx;refine tT (S.R.obj _ _ hx) λoe g1 g2 g3 g4 g5 vs g6 g7 g8=>?_;unfold cameBackBy;refine aF (j9 g1 g6 g8.2 ?_);rw[if_neg (by simp),show env.frame=(aa cx.fr).map Y from S.N.fr.1];exact BC S.R (λf hf=>by(injection hf with hf;subst hf);exact S.N.fr.2) e λs1 R1 X1=>h Y s1 R1 X1 (dm lx X1.le)
theorem Pw{t x:aS}{m:Nat}{ct:CT}(h1:cT g m sc t=aa ct)(hno:∀ts k p vs k' p',t= .Tuple ts k p->x= .Tuple vs k' p'->False):swappedStores [t] x env=pure af:=by
 cases t<;>first|rfl|(cases m<;>exact aN h1;done)|skip
 cases x<;>first|rfl|exact absurd rfl (hno _ _ _ _ _ _ rfl)
theorem YR{t:aS}(h:isName t=ah):∃id px,t= .Name id px:=by cases t<;>first|exact⟨_,_,rfl⟩|exact cB h
inductive rG(g:Nat->Option AV)(n:Nat)(sc:cu):List aS->aS->CS->Prop
 |bad (ts x):rG g n sc ts x .bad
 |VP (ts k p vs k' p' names a b) (hsw:sf sc ts vs=aa (aa names)) (h1:bB codeN names=aa a) (h2:cE g n sc (.Tuple vs k' p')=aa b):rG g n sc [.Tuple ts k p] (.Tuple vs k' p') (.iO a b)
 |U9 (ts k p vs k' p' a b) (hsw:sf sc ts vs=aa af) (h1:cT g n sc (.Tuple ts k p)=aa a) (h2:cE g n sc (.Tuple vs k' p')=aa b):rG g n sc [.Tuple ts k p] (.Tuple vs k' p') (.asg a b)
 |comp (id px ie t Ef src ifs sc' pos own te elt tgt Du test free m a) (hn:n=m+1) (h0:cT g n sc (.Name id px)=aa a) (g1:cE g m sc src=aa Du) (g2:cE g m sc' ie=aa elt) (g3:oq sc'=aa free) (g4:t9 sc' (cond own [t] [])=ah)
   (g5:codeN t=aa tgt) (g6:sc'.names.lookup t=aa (cond own .cell .local)) (g7:cOpt (cE g m sc') te=aa test) (g8:te.toList=ifs):rG g n sc [.Name id px] (.ListComp ie [⟨.Name t Ef,src,ifs,0⟩] sc' pos) (.sD a (.comp elt tgt own Du test free))
 |one (t x a b) (hno:∀ts k p vs k' p',t= .Tuple ts k p->x= .Tuple vs k' p'->False) (h1:cT g n sc t=aa a) (h2:cE g n sc x=aa b) (hq:¬(isName t&&nA x)=ah):rG g n sc [t] x (.asg a b)
theorem Z2{n:Nat}{id px}{e:aS}{a}{b:CE}(hb:EI g n sc e b)(hq:nA e=ah)(hnb:b≠ .bad)(h1:cT g (n+1) sc (.Name id px)=aa a):rG g (n+1) sc [.Name id px] e (.sD a b):=by
 revert hq hnb;induction hb with
 |bad=>exact λ_ hnb=>(hnb rfl).elim
 |Dm ie src t Ef ifs sc' pos own te x k s q fr g1 g2 g3 g4 g5 g6 g7 g8=>exact λ_ _=>.comp _ _ _ _ _ _ _ _ _ own te _ _ _ _ _ n _ rfl h1 g1 g2 g3 g4 g5 g6 g7 g8
 |_=>exact λhq _=>cB hq
theorem aaR{n:Nat}{t e:aS}{a}{b:CE}(h2:cE g n sc e=aa b)(hq1:isName t=ah)(hq:nA e=ah)(hnb:isBad (cE g n sc e)=ak)(h1:cT g n sc t=aa a):rG g n sc [t] e (.sD a b):=by
 obtain⟨id,px,rfl⟩:=YR hq1;cases n with
 |zero=>exact aN h2
 |succ m=>exact Z2 (HT h2) hq (λe=>by rw[h2,e]at hnb;exact Bb hnb) h1
theorem MU{e:aS}{ts:List aS}(h:Ij e=aa ts):∃k p,e= .Tuple ts k p:=by cases e<;>first|exact aN h|(obtain rfl:=aX h;exact⟨_,_,rfl⟩)
theorem Ro{n:Nat}{t x:aS}{c:CS}(hno:∀ts k p vs k' p',t= .Tuple ts k p->x= .Tuple vs k' p'->False)(hc:IX (cT g n sc t) (cE g n sc x) (isName t&&nA x)=aa c):rG g n sc [t] x c:=by
 refine bS (P:=(· =aa c)) hc (λhq hc=>?_) λhq hc=>?_
 ·rw[bJ]at hq;refine bS (P:=(· =aa c)) hc (λ_ hc=>?_) λhnb hc=>?_
  ·exact sI hc (.bad _ _)
  ·exact ju hc λa b h1 h2=>aaR h2 hq.1 hq.2 hnb h1
 ·exact ju hc λa b h1 h2=>.one _ _ _ _ hno h1 h2 (Bool.eq_false_iff.mp hq)
theorem adN{n:Nat}{ts:List aS}{x:aS}{pos:Pos}{c:CS}(hc:cS g (n+1) sc (.Assign ts x pos)=aa c):rG g n sc ts x c:=by
 rcases ts with _|⟨t,_|_⟩
 ·exact aN hc
 ·refine oS (P:=(· =aa c)) (show SS (cE g n sc) (cT g n sc) sc t x=aa c from hc) (λts ht hc=>?_) λht hc=>Ro (λts k p _ _ _ e _=>by rw[e]at ht;exact lV ht) hc;refine oS (P:=(· =aa c)) hc (λvs hx hc=>?_) λhx hc=>Ro (λ_ _ _ vs k p _ e=>by rw[e]at hx;exact lV hx) hc;obtain⟨k,p,rfl⟩:=MU ht;obtain⟨k',p',rfl⟩:=MU hx;refine oE hc λo hsw hc=>oS (P:=(· =aa c)) hc (λnames ho hc=>?_) λho hc=>?_
  ·rw[ho]at hsw;exact ju hc λa b h1 h2=>.VP _ _ _ _ _ _ _ _ _ hsw h1 h2
  ·rw[ho]at hsw;exact ju hc λa b h1 h2=>.U9 _ _ _ _ _ _ _ _ hsw h1 h2
 ·exact aN hc
theorem aa9(O:Okh W C g)(N:bL W C g ih){n:Nat}{ts:List aS}{x:aS}{pos:Pos}{c:CS}{Q:gA->aE->Prop}(hc:cS g (n+1) sc (.Assign ts x pos)=aa c)(S:aZ W C d A sc cx env U Y s)
  (h:PR W U.st Y s.heap (gM W) Q E (kr C ih d cx c U)):aC (model W.prog W.w) A (exec (.Assign ts x pos) env) Q E s:=by
 have ai:=adN hc;clear hc;revert h;induction ai with
 |bad=>exact lM
 |VP ts k p vs k' p' names a b hsw h1 h2=>exact adw O.toOkg N hsw h1 h2 S
 |U9 ts k p vs k' p' a b hsw h1 h2=>exact Qp O.toOkg N h1 h2 S rfl (Gj S.N hsw)
 |comp id px ie t Ef src ifs sc' cpos own te elt tgt Du test free m a hn h1 g1 g2 g3 g4 g5 g6 g7 g8=>
  intro h;have h:PR W U.st Y s.heap (gM W) Q E (bindR (cA (yY C ih d cx elt tgt own Du test free U)) λv σ1=>bindR (nE C ih d cx a v σ1) λ_ σ2=>.ok .next σ2):=h;refine aV (Zb (line:=pos.line) (px:=px) (t:=id) (ie:=ie) (gens:=[⟨.Name t Ef,src,ifs,0⟩]) (sc':=sc') (pos:=cpos) S) λbb hb1 hb2=>?_;cases bb with
  |false=>refine adn h1 hb1 (Pw h1 λ_ _ _ _ _ _ e _=>Expr.noConfusion e) (OS (te:=te) O.toOkc N g1 g2 g3 g4 g5 g6 g7 g8 S (PR.then S.R h λv σ1 bF s1 b1 R1 X1 V1 k1=>?_).cA);exact ML O.toOkg N h1 (S.ext R1 X1) V1 (PR.then R1 k1 λu σ2 bU s2 b2 R2 X2 V2 k2=>qS R2 k2 rfl)
  |true=>rw[hn]at h1;have hlk:sc.names.lookup id=aa .local:=eq_of_beq (by rw[<-FE S.N,hb2 rfl];rfl);refine fE (yL (show two (λk b=>CT.nm k b) (codeN id) (kindB (sc.names.lookup id))=aa a from h1)) λk bb hid hk y_=>?_;rw[hlk]at hk;obtain rfl:=aX hk;subst y_;exact aeE O.toOkg N g1 g2 g3 g4 g5 g6 g7 g8 hid hlk hb1 S h
 |one t x a b hno h1 h2 hq=>
  refine Qp O.toOkg N h1 h2 S ?_ (Pw h1 hno);show swapsWith x (aa t) pos.line env=pure ak;cases hx:nA x with
  |false=>exact Fl hx
  |true=>rw[hx,Bool.and_true]at hq;exact YB λid px e=>hq (by rw[e];rfl)
theorem Qc(O:Okh W C g)(N:bL W C g ih){st:fR}{c:CS}{Q:gA->aE->Prop}(hc:cS g f sc st=aa c)(S:aZ W C d A sc cx env U Y s)(T:iF A env)
  (h:PR W U.st Y s.heap (gM W) Q E (kr C ih d cx c U)):aC (model W.prog W.w) A (exec st env) Q E s:=by
 cases f with
 |zero=>exact aN hc
 |succ n=>
  cases st with
  |Expr x pos=>refine bS (P:=(· =aa c)) (show cond (nA x) af ((cE g n sc x).map CS.expr)=aa c from hc) (λ_ hc=>aN hc) λhx hc=>?_;revert h;refine oM hc λa h1=>ads O.toOkg N hx h1 S
  |Return o pos=>
   cases o with
   |none=>exact aN hc
   |some x=>revert h;refine oM (show(cE g n sc x).map CS.ret=aa c from hc) λa h1=>agd N h1 S
  |Assign ts x pos=>exact aa9 O N hc S h
  |AugAssign t op x pos=>
   cases t with
   |Attribute o a tp=>revert h;refine qb (show three (λx y z=>CS.aug x y op z) (cE g n sc o) (codeN a) (cE g n sc x)=aa c from hc) λx1 x2 x3 h1 h2 h3=>age O.toOkg N h1 h2 h3 S
   |Name id tp=>revert h;refine qb (show three (λk b z=>CS.uK k b op z) (codeN id) (kindB (sc.names.lookup id)) (cE g n sc x)=aa c from hc) λk b a h0 hk h1=>acz (cell:=b) O.toOkg N h0 (Cd hk) h1 S
   |_=>exact aN hc
  |If t a b pos=>revert h;refine qb (show three CS.iff (cE g n sc t) (bB (cS g n sc) a) (bB (cS g n sc) b)=aa c from hc) λx1 x2 x3 h1 h2 h3=>aij N T h1 h2 h3 S
  |While t a els pos=>
   cases els with
   |cons _ _=>exact aN hc
   |nil=>revert h;refine ju (show two CS.dS (cE g n sc t) (bB (cS g n sc) a)=aa c from hc) λx1 x2 h1 h2 h=>?_;have h:PR W U.st Y s.heap (gM W) Q E (GA (aa cx.fr) (cH ih d (.dS cx x1 x2) U)):=h;refine wpAny_While ?_;have:=N.dS h1 h2 S T (PR.fold S.R h (V:=gM W) (Q:=Q) (E:=cameBackBy (model W.prog W.w) A env E) (λfl σ1 bF s1 b1 R1 X1 V1 k1=>qS R1 k1 V1) λx σ1 bF s1 R1 X1 l1 k1=>MR (S.ext R1 X1) l1 k1).jk;exact this
  |For t e b els pos=>
   cases els with
   |cons _ _=>cases t<;>(exact aN hc)
   |nil=>
    cases t with
    |Name id px=>revert h;refine qb (show three CS.eF (cT g n sc (.Name id px)) (cE g n sc e) (bB (cS g n sc) b)=aa c from hc) λx1 x2 x3 h1 h2 h3 h=>?_;refine wpAny_For (N.v h2 S (PR.then S.R h λv σ1 bF s1 b1 R1 X1 V1 k1=>bZ k1 λp hi k1=>My O.toOkc R1 V1 hi λbU s2 R2 X2 l2=>?_)) (Qe h2);have S2:=(S.ext R1 X1).ext R2 X2;exact N.eF h1 h3 S2 T l2 (PR.fold R2 (PR.from R1 R2 X2 k1) (V:=gM W) (Q:=Q) (E:=cameBackBy (model W.prog W.w) A env E) (λfl σ3 dg s3 b3 R3 X3 V3 k3=>qS R3 k3 V3) λx σ3 dg s3 R3 X3 l3 k3=>MR (S2.ext R3 X3) l3 k3).jk
    |_=>exact aN hc
  |Raise exc cause pos=>
   cases exc with
   |none=>exact aN hc
   |some e=>
    cases cause with
    |some _=>exact aN hc
    |none=>revert h;refine oM (show(cE g n sc e).map CS.Dq=aa c from hc) λa h1=>abS O N h1 S
  |Try b hs els fin pos=>refine oE (show(Ia hs els fin).bind _=aa c from hc) λp hp hc=>oE hc λk hk hc=>bE hc λhl hc=>?_;obtain⟨hpos,e1,e2,e3⟩:=Z5 hp;rw[e1,e2,e3];revert h;exact qb hc λx1 x2 x3 h1 h2 h3=>agr O N T h1 h2 h3 hk (of_decide_eq_true hl) S
  |Continue pos=>revert h;exact sI hc λh=>wpAny_Continue (qS S.R h rfl)
  |Break pos=>revert h;exact sI hc λh=>wpAny_Break (qS S.R h rfl)
  |_=>revert h;exact sI hc lM
end
theorem NG{I:Type}:∀{ks:List Str} {ws:List I},ks.Nodup->ks.length=ws.length->ks.filterMap (λn=>((ks.zip ws).lookup n).map (n,·))=ks.zip ws
 | [],[],_,_=>rfl
 | [],_::_,_,h=>by contradiction
 |_::_,[],_,h=>by contradiction
 |a::r,b::ws,hn,h=>by
  rw[tM]at hn;rw[xO,La];have e:Fi a ((a,b)::r.zip ws)=aa b:=by simp[l8]
  rw[e];dsimp only[Option.map_some]
  congr 1
  have key:∀(l:List Str),a ∉ l->l.filterMap (λn=>(Fi n ((a,b)::r.zip ws)).map (n,·))=l.filterMap (λn=>((r.zip ws).lookup n).map (n,·)):=by
   intro l;induction l with
   |nil=>intro _;rfl
   |cons x l ih=>intro hx;have e:(x==a)=ak:=beq_eq_false_iff_ne.mpr λq=>hx (q▸ .head _);rw[La,La,l8,e,ih λq=>hx (.tail _ q)]
  rw[key r hn.1,NG hn.2 (qO h)]
theorem LG{I:Type}:∀{ks:List Str} {ws:List I} {x:Str},x ∉ ks->(ks.zip ws).lookup x=af
 | [],_,_,_=>rfl
 |_::_,[],_,_=>rfl
 |a::r,b::ws,x,h=>by have:(x==a)=ak:=beq_eq_false_iff_ne.mpr λq=>h (q▸ .head _);rw[xO,l8,this];exact LG λq=>h (.tail _ q)
theorem LH{I:Type}:∀{ks:List Str} {ws:List I} {x:Str},x∈ks->ks.length<=ws.length->((ks.zip ws).lookup x).isSome=ah
 |a::r,[],x,_,h=>by cases h
 |a::r,b::ws,x,hx,h=>by
  rw[xO,l8];cases q:x==a with
  |true=>rfl
  |false=>
   rcases List.mem_cons.mp hx with rfl|hx
   ·rw[beq_self_eq_true]at q;exact Bb q
   ·exact LH hx (Wx h)
theorem Zi{I:Type}(l m:List (Str×I))(x:Str):(l++m).lookup x=(l.lookup x).or (m.lookup x):=by
 induction l with
 |nil=>rfl
 |cons p l ih=>rw[tK,l8,l8,ih];cases x==p.1<;>rfl
theorem Nf(f:Str×ay->List (Str×ay)->Sem (ForInStep (List (Str×ay))))(hf:∀n v sl,f (n,v) sl=if(sl.lookup n).isNone=ah then pure (.yield (sl++[(n,v)]))else pure (.yield sl)):
  ∀(ps:List (Str×ay)) (sl:List (Str×ay)),(ps.map (·.1)).Nodup->(∀p∈ps,(sl.lookup p.1).isNone=ah)->forIn ps sl f=(pure (sl++ps):Sem _)
 | [],sl,_,_=>by rw[Bv,lJ]
 |(n,v)::ps,sl,hn,h=>by
  rw[iw,tM]at hn;rw[Bt,hf,if_pos (h _ (.head _)),pure_bind];dsimp only;rw[Nf f hf ps (sl++[(n,v)]) hn.2 λp hp=>by rw[Zi];have h1:=h p (.tail _ hp);rw[Bc]at h1;have:(p.1==n)=ak:=beq_eq_false_iff_ne.mpr λq=>hn.1 (q▸List.mem_map_of_mem (f:=(·.1)) hp);rw[h1,l8];rw[this];rfl]
  rw[tF];rfl
theorem Nc(f:Str×ay->List (Str×ay)->Sem (ForInStep (List (Str×ay))))(hf:∀n v sl,f (n,v) sl=if(sl.lookup n).isNone=ah then pure (.yield (sl++[(n,v)]))else pure (.yield sl)):
  ∀(ps qs:List (Str×ay)) (sl:List (Str×ay)),(∀p∈ps,(sl.lookup p.1).isSome=ah)->forIn (ps++qs) sl f=(forIn qs sl f:Sem _)
 | [],qs,sl,_=>rfl
 |(n,v)::ps,qs,sl,h=>by rw[tK,Bt,hf,if_neg (by have:=h _ (.head _);rw[Bc];intro e;simp only at this;rw[e]at this;exact cB this),pure_bind];exact Nc f hf ps qs sl λp hp=>h p (.tail _ hp)
structure OX(fd:yG)(nms:List Str):Prop where
 po:fd.params.posonlyargs=[]
 ar:fd.params.args.map (·.arg)=nms
 va:fd.params.vararg=af
 ko:fd.params.kwonlyargs=[]
 kw:fd.params.kwarg=af
 nd:nms.Nodup
section
variable{nms:List Str}{vs ds:List ay}
theorem Gi{l:List Str}{ws:List ay}{p:Str×ay}(h:p∈l.zip ws):p.1∈l:=(List.of_mem_zip h).1
theorem ZL{l:List Str}:∀{ws:List ay},l.Nodup->((l.zip ws).map (·.1)).Nodup:=by
 induction l with
 |nil=>exact λ_=>xZ
 |cons a l ih=>
  intro ws hn;cases ws with
  |nil=>exact xZ
  |cons b ws=>rw[tM]at hn;rw[xO,iw,tM];refine⟨λhm=>?_,ih hn.2⟩;obtain⟨p,hp,e⟩:=List.mem_map.mp hm;have e:p.1=a:=e;exact hn.1 (e▸Gi hp)
theorem GI(hl:vs.length<=nms.length):nms.zip vs=(nms.take vs.length).zip vs:=by rw[List.zip_eq_zip_take_min,Ll hl,List.take_length]
theorem PT(hl:vs.length<=nms.length){x:Str}(hx:x∈nms.take vs.length):((nms.zip vs).lookup x).isSome=ah:=by rw[GI hl];exact LH hx (by rw[Bq];exact aki)
theorem aa1(hl:vs.length<=nms.length)(hd:nms.length<=vs.length+ds.length):(List.filter (λn=>((nms.zip vs).lookup n).isNone) (BY (nms.length- ds.length) nms))=[]:=by
 rw[List.filter_eq_nil_iff];intro x hx;have:nms.take (nms.length- ds.length)=(nms.take vs.length).take (nms.length- ds.length):=by rw[List.take_take,ET (WR hd)]
 rw[this]at hx;have:=PT hl (WO hx);rw[Bc];intro e;rw[e]at this;exact cB this
theorem ξ(hl:vs.length<=nms.length)(hd:nms.length<=vs.length+ds.length)(hdl:ds.length<=nms.length):
  (nms.drop (nms.length- ds.length)).zip ds=((nms.take vs.length).drop (nms.length- ds.length)).zip (ds.take (vs.length-(nms.length- ds.length)))++(nms.drop vs.length).zip (ds.drop (ds.length-(nms.length- vs.length))):=by
 have hk:nms.length- ds.length<=vs.length:=by exact WR hd
 have e1:nms.drop (nms.length- ds.length)=(nms.take vs.length).drop (nms.length- ds.length)++nms.drop vs.length:=by rw[<-List.drop_append_of_le_length (by rw[Bq];exact Nat.le_min.mpr ⟨hk,rV _ _⟩),xK]
 have e2:ds=ds.take (vs.length-(nms.length- ds.length))++ds.drop (ds.length-(nms.length- vs.length)):=by rw[show ds.length-(nms.length- vs.length)=vs.length-(nms.length- ds.length)from by exact zz5 hl hdl,xK]
 rw[e1,<-Lr (by simp;exact ajl hdl),<-e2]
theorem YQ{f:Str×ay->List (Str×ay)->Sem (ForInStep (List (Str×ay)))}(hf:∀n v sl,f (n,v) sl=if(sl.lookup n).isNone=ah then pure (.yield (sl++[(n,v)]))else pure (.yield sl))(nd:nms.Nodup)
  (hl:vs.length<=nms.length) (hd:nms.length<=vs.length+ds.length) (hdl:ds.length<=nms.length):
  forIn ((nms.drop (nms.length- ds.length)).zip ds) (nms.zip vs) f=(pure (nms.zip (vs++ds.drop (ds.length-(nms.length- vs.length)))):Sem _):=by
 have dis:∀x∈nms.drop vs.length,x ∉ nms.take vs.length:=λx hx hx'=>by rw[<-xK vs.length nms,List.nodup_append]at nd;exact nd.2.2 x hx' x hx rfl
 rw[ξ hl hd hdl,Nc _ hf _ _ _ λp hp=>PT hl (WM (Gi hp)),Nf _ hf _ _ (ZL (nd.sublist (List.drop_sublist _ _))) λp hp=>by rw[GI hl,LG (dis _ (Gi hp))];rfl]
 rw[GI hl,<-Lr (by rw[Bq];exact ET hl),xK]
variable{pos:List Str}{ws:List ay}
theorem NB(e:pos=nms)(e2:ws=ds)(hdl:ds.length<=nms.length):yx (ws.length- pos.length) ws=ds:=by rw[e,e2,show ds.length- nms.length=0 from by exact WG hdl,Bw]
theorem ahk(e:pos=nms)(e2:ws=ds)(hl:vs.length<=nms.length)(hd:nms.length<=vs.length+ds.length)(hdl:ds.length<=nms.length):
  ¬(!(List.filter (λn=>((pos.zip vs).lookup n).isNone) (BY (pos.length-(yx (ws.length- pos.length) ws).length) pos)).isEmpty)=ah:=by
 rw[NB e e2 hdl,e,aa1 hl hd];exact nR
theorem slots'{f:Str×ay->List (Str×ay)->Sem (ForInStep (List (Str×ay)))}(hf:∀n v sl,f (n,v) sl=if(sl.lookup n).isNone=ah then pure (.yield (sl++[(n,v)]))else pure (.yield sl))(e:pos=nms)(e2:ws=ds)(nd:nms.Nodup)
  (hl:vs.length<=nms.length) (hd:nms.length<=vs.length+ds.length) (hdl:ds.length<=nms.length):
  forIn ((pos.drop (pos.length-(yx (ws.length- pos.length) ws).length)).zip (yx (ws.length- pos.length) ws)) (pos.zip vs) f=(pure (nms.zip (vs++ds.drop (ds.length-(nms.length- vs.length)))):Sem _):=by
 rw[NB e e2 hdl,e];exact YQ hf nd hl hd hdl
end
section
variable{M:Model}{A:cR}{E:ay->aE->Prop}{s:aE}
theorem G0{c:Prop} [Decidable c]{I:Type}{t e:Sem I}{Q:I->aE->Prop}(h:¬c)(k:aC M A e Q E s):aC M A (if c then t else e) Q E s:=by rw[if_neg h];exact k
theorem ZW{I H γ:Type}{l:List I}{b:H}{f:I->H->Sem (ForInStep H)}{K:H->Sem γ}{Q:γ->aE->Prop}(e:l=[])(k:aC M A (K b) Q E s):aC M A (forIn l b f >>= K) Q E s:=by rw[e];exact k
theorem BS{fd:yG}{nms:List Str}{vs ds:List ay}{Q:List (Str×ay)->aE->Prop}(P:OX fd nms)(hl:vs.length<=nms.length)(hd:nms.length<=vs.length+ds.length)(hdl:ds.length<=nms.length)
  (hdf:∀{Q':Option (Array ay)->aE->Prop},(∀r,(r.getD #[]).toList=ds->Q' r s)->aC M A (seqItems? fd.defaults) Q' E s)
  (h:Q (nms.zip (vs++ds.drop (ds.length-(nms.length- vs.length)))) s):aC M A (bindArgs fd ⟨vs,[]⟩) Q E s:=by
 obtain⟨po,ar,va,ko,kw,nd⟩:=P;have hn:List.map (·.arg) fd.params.posonlyargs++List.map (·.arg) fd.params.args=nms:=by rw[po];exact ar
 refine aF (bu (aF (hdf λr hr=>G0 (by rw[hn,bJ];exact λq=>Nat.not_lt.mpr hl (of_decide_eq_true q.1)) (G0 (ahk hn hr hl hd hdl) (aF (tO (slots' (λn v sl=>rfl) hn hr nd hl hd hdl) (ZW (by rw[ko];rfl) (G0 nR ?_))))))));rw[va,kw];refine bu ?_;rw[ko,List.map_nil,lJ,hn,NG nd (by rw[fX,xS];exact zz7 hl hd)];exact h
end
inductive wM(W:WS)(C:EC)(g:Nat->Option AV)(a:aG)(fi:FI):Prop
 |mk (o:Obj) (fd:yG) (body:List fR) (f:Nat) (nms:List Str) (p1:W.h0_.get? a=aa o) (p2:o.data= .func fd) (p3:fd.body= .stmts body) (p4:bB (cS g f fd.scope) body=aa fi.body) (p5:fd.scope.kind= .function) (p6:fd.scope.isCoroutine=ak) (p7:fd.scope.isGenerator=ak) (p8:fd.closure=[]) (p9:fd.globals=eY) (xC:fd.builtins=eK) (sN:W.h0_.CodeRec fd.code fd.qualname) (sW:OX fd nms) (oW:bB codeN nms=aa fi.params) (rF:bB codeN (zc fd.scope)=aa fi.cells) (uZ:(∀n k,n∈nms->codeN n=aa k->fd.scope.names.lookup n=aa (cond (fi.cells.any (aH k)) .cell .local))) (sV:((fd.defaults= .none/\fi.dflt=[])\/∃t items,fd.defaults= .ref t/\W.h0_.IsTuple t items/\aO (VG W) fi.dflt items.toList)) (xE:fi.dflt.length<=nms.length) (xj:W.qual a=fd.qualname++ ".<locals>.") (xh:∀tb,C.tabOf a=aa tb->tb∈W.tabs/\∃c,fd.code= .ref c/\CodeHd W.h0_ c tb):wM W C g a fi
structure Oki(W:WS)(C:EC)(g:Nat->Option AV):Prop extends Okh W C g where
 fn:∀a fi,C.fn a=aa fi->C.spec a=af->wM W C g a fi
section
variable{W:WS}{C:EC}{g:Nat->Option AV}{d:Nat}{A:cR}{sc:cu}{cx:CX}{env:Env}{U U1_:ES}{Y cF:Nat->aG}{s s1_:aE}{E:ay->aE->Prop}
variable{ih:Ev}{f:Nat}
theorem E1{cells:List Nat}{Q:PUnit->aE->Prop}(h0:Str×ay->PUnit->Sem (ForInStep PUnit))(hf:∀n v u,h0 (n,v) u=(do storeName env n v;pure (.yield ⟨⟩))):∀{nms:List Str} {ks:List Nat} {as:List AV} {vs:List ay} {U σ':ES} {s:aE},bB codeN nms=aa ks->(∀n k,n∈nms->codeN n=aa k->sc.names.lookup n=aa (cond (cells.any (aH k)) .cell .local))->
  jg W U.next Y sc cx env->Rel W U.st Y s->aO (VR W U.next Y) as vs->nms.length=vs.length->bindAll cx cells ks as U=aa σ'->(∀s',Rel W σ'.st Y s'->Ext W U.st Y s.heap σ'.st Y s'.heap->Q ⟨⟩ s')->
  aC (model W.prog W.w) A (forIn (nms.zip vs) ⟨⟩ h0) Q E s:=by
 intro nms;induction nms with
 |nil=>
  intro ks as vs U σ' s hk _ N R0 va hl e h;obtain rfl:=aX hk;cases va with
  |nil=>obtain rfl:=aX e;exact bu (h s R0 .refl)
  |cons _ _=>contradiction
 |cons n nms ih=>
  intro ks as vs U σ' s hk hloc N R0 va hl e h;revert e hloc;refine pZ hk λb m h1 h2 hloc e=>?_;cases va with
  |nil=>contradiction
  |@cons a v as vs va vt=>refine oE (show(gH cx b (cells.any (aH b)) a U).bind (λσ'=>bindAll cx cells m as σ')=aa σ' from e) λσ1 hs e=>?_;rw[xO,Bt,hf];refine aF (aF (vI R0 N h1 (hloc n b (.head _) h1) va hs λs1 R1 X1=>bu ?_));exact ih h2 (λx k hx=>hloc x k (.tail _ hx)) (N.mono X1.le X1.ag) R1 (vt.mono λ_ _=>X1.vr) (qO hl) e λs2 R2 X2=>h s2 R2 (X1.trans R0.lt R1.lt X2)
theorem eu.deeper{U:ES}{h:cy}(F:eu W (d+1) A U.st Y h)(R0:Rel W U.st Y s)(hs:s.heap=h){env:Env}{q:Nat}{kvs:List (Nat×AV)}(hq:U.get q=aa (.ns kvs))(hf:env.frame=aa (Y q))(hk:env.scope.kind= .function):eu W d (A.deeper env) U.st Y h:=by
 obtain⟨h1,h2,h3,⟨l,h4,h5,h6⟩,h7⟩:=F;subst hs;refine qX (R0.obj q _ hq) λo ho es ep hd _=>?_;refine⟨by show A.depth+1+4*d+8<_;exact Qu h1,by show A.units+3+40*d+40<_;exact afB h2,λhd=>h3 (vD _),⟨env::l,by show A.frames.map (env:: ·)=_;rw[h4];rfl,⟨by rw[hk];nofun,⟨Y q,o,hf,R0.new q _ hq,ho,λvs z=>by rw[hd]at z;contradiction⟩,h5⟩,?_⟩,h7⟩;intro env' he L hL;rcases List.mem_cons.mp he with rfl|he
 ·rw[hf]at hL;(injection hL with hL;subst hL);exact⟨q,_,hq,rfl,rfl⟩
 ·exact h6 env' he L hL
theorem Gl{v:Option ay}{a:AV}{w:ay}{Q:ay->aE->Prop}(R0:Rel W U.st Y s)(h:PR W U.st Y s.heap (VO W) Q E (eS a U))(e:VR W U.next Y a w):Q w s:=h Y s w R0 .refl ⟨_,rfl,e⟩
theorem leave_back(S:aZ W C d A sc cx env U Y s)(T:iF A env){x:Nat}(lx:x<U.next){γ δ:Type}{V:Nat->(Nat->aG)->γ->δ->Prop}{Q:δ->aE->Prop}(h:PR W U.st Y s.heap V Q E (leaveX cx.fr x U)){E':ay->aE->Prop}:
  aC (model W.prog W.w) A (leaving env (.ref (Y x))) (λ_ s''=>E (.ref (Y x)) s'') E' s:=by
 refine bZ h λσ1 hn h=>XA S T lx hn λbF s1 R1 X1=>?_;have:=h bF s1 R1 X1 (dm lx X1.le);rw[X1.ag x lx]at this;exact this
theorem Zx{ps:List Nat}{dflt as:List AV}{nms:List Str}(h1:ps.length=nms.length):zw ps dflt as=as++dflt.drop (dflt.length-(nms.length- as.length)):=by
 unfold zw;rw[h1];cases dflt with
 |nil=>simp
 |cons a l=>rfl
theorem Fj{cx:CX}{cells:List Nat}{ks:List Nat}:∀{as:List AV} {U σ':ES},bindAll cx cells ks as U=aa σ'->ks.length=as.length:=by
 induction ks with
 |nil=>intro as U σ' h;exact bE (show cond as.isEmpty (aa U) af=aa σ' from h) λq _=>by rw[List.isEmpty_iff.mp q];rfl
 |cons k ks ih=>
  intro as U σ' h;cases as with
  |nil=>exact aN h
  |cons a as=>exact oE (show(gH cx k (cells.any (aH k)) a U).bind (λσ'=>bindAll cx cells ks as σ')=aa σ' from h) λσ1 _ h=>congrArg (· +1) (ih h)
theorem aiH(O:Oki W C g)(N:bL W C g ih){a:aG}{fi:FI}{as:List AV}{vs:List ay}{Q:ay->aE->Prop}(P:wM W C g a fi)(R0:Rel W U.st Y s)(F:eu W (d+1) A U.st Y s.heap)(va:aO (VR W U.next Y) as vs)
  (h:PR W U.st Y s.heap (VO W) Q E (I9 ih d a fi as (U.add (.ns [])))):fj (model W.prog W.w) A (.call (.ref a) ⟨vs,[]⟩) (om Q E) s:=by
 obtain⟨o,fd,body,f,nms,p1,p2,p3,p4,p5,p6,p7,p8,p9,xC,sN,sW,oW,rF,uZ,sV,xE,xj,xh⟩:=P;have hcd:=sN.keeps R0.base;refine KZ (by have:=F.hd;exact aA (aT aU (bD this)) rfl) (R0.base _ _ p1) p2 p6 p7 p3 hcd ?_;rw[show U.add (.ns [])=((U.add (.ns [])).1,(U.add (.ns [])).2)from rfl]at h;unfold I9 at h;dsimp only at h;rw[show eN fi.cells [] (U.add (.ns [])).2=((eN fi.cells [] (U.add (.ns [])).2).1,(eN fi.cells [] (U.add (.ns [])).2).2)from rfl]at h;unfold Ie at h;dsimp only at h;unfold ux wh at h;have g4:=E7 fi.cells [] (U.add (.ns [])).2;generalize hq:(U.add (.ns [])).1=q at*;generalize DV:eN fi.cells [] (U.add (.ns [])).2=pc at*;obtain⟨cells,σ2⟩:=pc;dsimp only at h g4;refine Sf h λσ3 hb h=>?_;have lp:=vM oW;have lb:=Fj hb;have fl:=Zx (dflt:=fi.dflt) (as:=as) lp;rw[fl]at lb hb;rw[fX,xS]at lb;have la:=va.length;obtain⟨ds,hds,hdl,hdr⟩:∃ds:List ay,aO (VG W) fi.dflt ds/\ds.length=fi.dflt.length/\∀{Q':Option (Array ay)->aE->Prop} {E':ay->aE->Prop},(∀r:Option (Array ay),(r.getD #[]).toList=ds->Q' r s)->aC (model W.prog W.w) A.in1 (seqItems? fd.defaults) Q' E' s:=by
  rcases sV with⟨q1,q2⟩|⟨t,items,q1,q2,q3⟩
  ·refine⟨[],by rw[q2];exact .nil,by rw[q2];rfl,λ{Q' E'} h=>?_⟩;rw[q1];exact aF (bu (bu (h af rfl)))
  ·refine⟨items.toList,q3,q3.length.symm,λ{Q' E'} h=>?_⟩;refine qk q2 λot o1 o2 nn o3=>?_;try clear q2
   rw[q1];exact rS (R0.base _ _ o1) o3 (h (aa items) rfl)
 refine BS sW (ds:=ds) (aik lp lb la) (ajw lp lb la hdl) (aR (aT (aD hdl) (aM xE)) rfl) hdr ?_;rw[p8,p9,xC];refine yg (ks:=fi.cells) rF R0 .nil λbU s2 gj R2 X2 A2 l2=>?_;rw[DV]at R2 X2 A2 l2;rw[hq]at l2 ⊢;dsimp only at R2 X2 A2 l2;have F2:=F.ext X2 R0.lt;have EN:jg W σ2.next bU fd.scope ⟨q,q,cells,a⟩ (newEnv fd.scope (bU q) eY gj (fd.qualname++ ".<locals>.") (aa a) fd.code af eK):=
  ⟨λid=>.inl rfl,p5,rfl,rfl,⟨rfl,l2⟩,⟨rfl,l2⟩,A2⟩
 have vals:aO (VR W σ2.next bU) (as++fi.dflt.drop (fi.dflt.length-(nms.length- as.length))) (vs++ds.drop (ds.length-(nms.length- vs.length))):=by rw[hdl,<-la];exact(va.mono λ_ _=>X2.vr).append ((hds.mono λ_ _=>VG.vr).drop _)
 refine aF (E1 (cells:=fi.cells) _ (λ_ _ _=>rfl) oW uZ EN R2 vals (by rw[fX,xS];exact ajt lp lb la hdl) hb λs3 R3 X3=>?_);refine bu ⟨O.lim.keeps R3.base,LY ?_⟩;have mV:=X2.trans R0.lt R2.lt X3;have F3:=F.ext mV R0.lt;refine Sf h λkvs uX h=>?_;have uX:=kQ uX;rw[yu]at h;have l3:q<σ3.next:=dm l2 X3.le
 have eq3:bU q=bU q:=rfl;have FD:eu W d (A.deeper (newEnv fd.scope (bU q) eY gj (fd.qualname++ ".<locals>.") (aa a) fd.code af eK)) σ3.st bU s3.heap:=eu.deeper F3 R3 rfl uX rfl p5;have SD:aZ W C d (A.deeper (newEnv fd.scope (bU q) eY gj (fd.qualname++ ".<locals>.") (aa a) fd.code af eK)) fd.scope ⟨q,q,cells,a⟩ (newEnv fd.scope (bU q) eY gj (fd.qualname++ ".<locals>.") (aa a) fd.code af eK) σ3 bU s3:=
  ⟨R3,EN.mono X3.le X3.ag,FD,λtb htb=>by refine iY (xh tb htb) λq1 c q2 q3=>?_;obtain⟨q4,q5⟩:=FD.tb tb q1;exact⟨q4,xj.symm,c,q2,by rw[q5];exact q3⟩⟩
 have TD:iF (A.deeper (newEnv fd.scope (bU q) eY gj (fd.qualname++ ".<locals>.") (aa a) fd.code af eK)) (newEnv fd.scope (bU q) eY gj (fd.qualname++ ".<locals>.") (aa a) fd.code af eK):=by obtain⟨_,_,_,⟨l,h4,_⟩,_⟩:=F;exact⟨l,by show A.frames.map (_:: ·)=_;rw[h4];rfl⟩
 have h3:=PR.from R0 R3 mV h;refine N.s p4 SD TD (PR.fold R3 h3 (λfl bA gy s4 b4 R4 X4 V4 h4=>?_) λx bA gy s4 R4 X4 l4 h4=>leave_back (SD.ext R4 X4) TD l4 h4).jk;cases fl with
 |next=>cases V4;exact Gl (v:=af) R4 (show PR W bA.st gy s4.heap (VO W) Q E (eS .none bA)from h4) rfl
 |cont=>exact h4.elim
 |brk=>exact h4.elim
 |ret u=>refine aV V4 λw ig V5=>?_;try clear V4;subst ig;exact Gl (v:=af) R4 (show PR W bA.st gy s4.heap (VO W) Q E (eS u bA)from h4) V5
end
end Mine
end
section
namespace Mine
open PySem PySem.W PySem.Calls PyProof.Rows PySem.SeqAt PySem.F
section
variable{W:WS}{C:EC}{g:Nat->Option AV}{d:Nat}{A:cR}{sc:cu}{cx:CX}{env:Env}{U U1_:ES}{Y cF:Nat->aG}{s s1_:aE}{E:ay->aE->Prop}
variable{ih:Ev}{f:Nat}
theorem XJ(a:aG)(rest:List ay)(kw:List (Str×ay)):(yf "type.__call__" ⟨.ref a::rest,kw⟩).weight=1:=by kernel_rfl
theorem XS(args:Args):(yf "type.__call__" args).cUnits=1:=by kernel_rfl
theorem Y7(args:Args):(yf "type.__call__" args).envs=[]:=by kernel_rfl
theorem eu.RD{h:cy}(F:eu W (d+1) A U.st Y h)(a:aG)(rest:List ay):eu W d (A.under (.builtin "type.__call__" ⟨.ref a::rest,[]⟩)) U.st Y h:=by
 obtain⟨h1,h2,h3,⟨l,h4,h5,h6⟩,h7⟩:=F;refine⟨?_,?_,λ_=>h3 (vD _),⟨l,?_,h5,h6⟩,h7⟩
 ·show A.depth+(yf "type.__call__" ⟨.ref a::rest,[]⟩).weight+4*d+8<_;rw[XJ];exact Qu h1
 ·show A.units+(yf "type.__call__" ⟨.ref a::rest,[]⟩).cUnits+40*d+40<_;rw[XS];exact af1 h2
 ·show pushEnvs (yf "type.__call__" ⟨.ref a::rest,[]⟩).envs A.frames=_;rw[Y7];exact h4
theorem Na{x:Nat}{Q:ay->aE->Prop}{r:R Out}(R0:Rel W U.st Y s)(lx:x<U.next)(h:PR W U.st Y s.heap (VO W) Q E (bindR (cA r) λv σ2=>newEnd x v σ2)):
  PR W U.st Y s.heap (VO W) (λv s'=>v= .none/\Q (.ref (Y x)) s') E r:=by
 refine(PR.then R0 h λv σ1 bF s1 b R1 X1 V1 h1=>?_).cA;refine jA h1 λq h1=>⟨Ab q V1 rfl,?_⟩;rw[<-X1.ag x lx];exact h1 bF s1 _ R1 .refl ⟨_,rfl,dm lx X1.le,rfl⟩
inductive IQ(f:aG->Option Obj)(K:aG):Prop
 |mk (nm q:Str) (N:aG) (bs:List ay) (hdct:Bool) (sn:List Str) (sub:List ay) (ab:Bool) (col:Option Bool) (dd:Option aG) (k0 k1 k2 k3 k5:Option ay)
  (h:f K=aa (excClassObj nm q K N bs [.ref 550,.type "ValueError",.type "Exception",.type "BaseException",.type "object"] hdct sn sub ab col dd k0 k1 k2 k3 k5 "ValueError.__new__")):IQ f K
structure o8(W:WS)(C:EC)(g:Nat->Option AV):Prop extends Oki W C g where
 makes:∀K,C.fC K=ah->makesIn W.K K=ah
 J7:∀a fi,C.fn a=aa fi->typeIn W.K (.ref a)=aa (.type "function")
 II:∀K,C.isExc K=ah->IQ W.h0_.get? K
 Ti:∀K f,C.isExc K=ah->C.cls K dZ=aa (aa f)->findIn W.K (.ref K) "__init__" =aa (aa (.ref f))
 SW:C.tabOf 0=af
theorem af9(O:o8 W C g)(N:bL W C g ih){K init:aG}{fi:FI}{as:List AV}{vs:List ay}{Q:ay->aE->Prop}(hK:C.fC K=ah)(hi:C.cls K dZ=aa (aa init))(hf:C.fn init=aa fi)
  (R0:Rel W U.st Y s) (F:eu W (d+1) A U.st Y s.heap) (va:aO (VR W U.next Y) as vs) (h:PR W U.st Y s.heap (VO W) Q E (HA ih d K init as (U.add (.ns [])))):
  fj (model W.prog W.w) A (.call (.ref K) ⟨vs,[]⟩) (om Q E) s:=by
 have X:=R0.X O.toOk;have hfind:=(O.IM K _ init hK hi).1;rw[Ox]at hfind;obtain⟨hh,gs,dr,t,os⟩:=s;refine make_core (makes_of X (O.makes K hK)) (BH X hfind) (λself=>bind_fn X self (O.J7 _ _ hf)) (.inl rfl) ?_;rw[show U.add (.ns [])=((U.add (.ns [])).1,(U.add (.ns [])).2)from rfl]at h;unfold HA at h;dsimp only at h;refine cU (R0.jP (o:=.ns []) (r:=emptyDict) rfl ⟨#[],0,rfl,.nil⟩) λR1 X1 V1=>?_;have ed:=(nV V1.2).symm;have ld:=V1.1;generalize hdn:(U.add (.ns [])).1=dn at*;generalize sC:(U.add (.ns [])).2=σ1 at*;rw[show σ1.add (.inst K dn)=((σ1.add (.inst K dn)).1,(σ1.add (.inst K dn)).2)from rfl]at h;unfold CK at h;dsimp only at h;refine cU (R1.jP (o:=.inst K dn) (r:=instObj K hh.objs.size) rfl ⟨rfl,by rw[dw _ ld,ed],m7 ld,rfl⟩) λR2 X2 V2=>?_;have mX:=X1.trans R0.lt R1.lt X2;have ex:=(nV V2.2).symm;have sz:(hh.push emptyDict).objs.size=hh.objs.size+1:=Lz ..;have h2:=PR.from R0 R2 mX h;have:=N.zE (A:=A.under (.builtin "type.__call__" ⟨.ref K::vs,[]⟩)) hf R2 ((F.ext mX R0.lt).RD _ _) (as:=.ref (σ1.add (.inst K dn)).1::as) (vs:=.ref (hh.objs.size+1)::vs)
  (.cons ⟨V2.1,by rw[ex];exact congrArg eB sz.symm⟩ (va.mono λ_ _=>mX.vr)) (Na R2 V2.1 h2)
 refine BJ this λr s' z=>?_;rw[ex,sz]at z;cases r with
 |error e=>exact z
 |ok fl=>
  cases fl with
  |ret v=>exact z
  |_=>exact z
noncomputable abbrev oX:List ay:=[.ref 550,.type "ValueError",.type "Exception",.type "BaseException",.type "object"]
section
variable{M:Model}{h:cy}{gs:Array GenState}{dr:Drawn}{t:Nat}{os:jL}{K N:aG}{nm q:Str}{bs:List ay}{hdct:Bool}{sn:List Str}{sub:List ay}{ab:Bool}{col:Option Bool}{dd:Option aG}{k0 k1 k2 k3 k5:Option ay}
theorem PD:(eB K::oX).contains (.type "ValueError")=ah:=by rw[Lc];rw[show oX.contains (.type "ValueError")=ah from by decide+kernel,Bool.or_true]
theorem ac9:(eB K::oX).contains (.type "AttributeError")=ak:=by rw[Lc];rw[show oX.contains (.type "AttributeError")=ak from by decide+kernel];rfl
theorem acS:(eB K::oX).contains (.type "NameError")=ak:=by rw[Lc];rw[show oX.contains (.type "NameError")=ak from by decide+kernel];rfl
theorem XE{rest:List ay}{Q:Unit->aE->Prop}(hC:h.get? K=aa (excClassObj nm q K N bs oX hdct sn sub ab col dd k0 k1 k2 k3 k5 "ValueError.__new__"))
  (hq:Q () ⟨h,gs,dr,t,os⟩):aC M A (checkBuiltinCall "ValueError.__new__" ⟨.ref K::rest,[]⟩) Q E ⟨h,gs,dr,t,os⟩:=
 wpAny_check_new_subU EE (bmB:=oX) (by decide+kernel) .base hC hq
theorem abJ{rest:List ay}{R:Result->aE->Prop}(hC:h.get? K=aa (excClassObj nm q K N bs oX hdct sn sub ab col dd k0 k1 k2 k3 k5 "ValueError.__new__"))
  (hq:R (.ok (.ret (.ref (h.objs.size+1)))) ⟨(h.push {cls:=.type "tuple",data:=.seq rest.toArray}).push {cls:=.ref K,data:=.fields #[.ref h.objs.size,.none,.none,.none,.bool ak,.none]},gs,dr,t,os⟩) (hrest:rest.length<=sizeLine):
  fj (model W.prog W.w) A (.builtin "ValueError.__new__" ⟨.ref K::rest,[]⟩) R ⟨h,gs,dr,t,os⟩:=by
 have Fn:=EE;have akR:=Fn.ends;have Kd:=PD (K:=K);have hcA:=ac9 (K:=K);have hcN:=acS (K:=K);refine PySem.codeAny_builtinAt Fn.entry ?_;unfold Builtin.«BaseException.__new__»;refine PySem.wpAt_bind ?_;show PySem.wpAt _ _ _ (stack >>= _) _ _ _;refine PySem.wpAt_bind (PySem.wpAt_stack λp below=>WW ?_)
 wp_walk
 refine WW ?_;rw[Fn.owner]
 repeat (first|with_reducible refine wpAny_madeHere_exc Fn.canon hC ?_|with_reducible refine vC hC ?_|(with_reducible refine Lb hC ?_;first|rw[Kd]|rw[hcA]|rw[hcN])|wp_step)
 show R _ _;rw[Lz];exact hq
theorem aae{rest:List ay}{init:aG}{R:Result->aE->Prop}(hC:h.get? K=aa (excClassObj nm q K N bs oX hdct sn sub ab col dd k0 k1 k2 k3 k5 "ValueError.__new__"))(hrest:rest.length<=sizeLine)
  (hi:qc (model W.prog W.w) h (typeLookup (.ref K) "__init__") (aa (.ref init))) (hb:∀self,qc (model W.prog W.w) h (bindSpecial (.ref init) self) (.ref init,[self]))
  (hq:fj (model W.prog W.w) (A.under (.builtin "type.__call__" ⟨.ref K::rest,[]⟩)) (.call (.ref init) ⟨.ref (h.objs.size+1)::rest,[]⟩) (InitBack (h.objs.size+1) R)
   ⟨(h.push {cls:=.type "tuple",data:=.seq rest.toArray}).push {cls:=.ref K,data:=.fields #[.ref h.objs.size,.none,.none,.none,.bool ak,.none]},gs,dr,t,os⟩):
  fj (model W.prog W.w) A (.call (.ref K) ⟨rest,[]⟩) R ⟨h,gs,dr,t,os⟩:=by
 have f1:=tc_lookup;have f2:=tc_bind (.ref K);have Fn:=EE;have hT:(⟨h,gs,dr,t,os⟩:aE).TypeIs (.ref K) "type" :=⟨_,hC,rfl⟩;refine EU ?_;show aC _ _ (callAny (.ref K) _) _ _ _
 repeat (any_goals (first|assumption|with_reducible refine vC hC ?_|wp_step))
 refine⟨rfl,?_⟩;refine codeAny_call_builtin_at (Xb _ (by decide+kernel)) entry_typeCall (wpAny_check_type_call_sub hC ?_);unfold Builtin.«type.__call__»
 repeat (first|with_reducible refine vC hC ?_|with_reducible refine wpAny_madeBy_exc hC ?_|wp_step)
 refine codeAny_call_builtin_code (Xb _ Fn.quiet) (XE hC ?_);refine abJ hC ?_ hrest;show aC _ _ _ _ _ _;have k:∀b o,h.get? b=aa o->((h.push {cls:=.type "tuple",data:=.seq rest.toArray}).push {cls:=.ref K,data:=.fields #[.ref h.objs.size,.none,.none,.none,.bool ak,.none]}).get? b=aa o:=λb o e=>jo _ (jo _ e);have agG:=k _ _ hC;have hget:((h.push {cls:=.type "tuple",data:=.seq rest.toArray}).push
   {cls:=.ref K,data:=.fields #[.ref h.objs.size,.none,.none,.none,.bool ak,.none]}).get? (h.objs.size+1)=aa
   {cls:=.ref K,data:=.fields #[.ref h.objs.size,.none,.none,.none,.bool ak,.none]}:=by heap_get
 have hcC:(eB K::oX).contains (.ref K)=ah:=by simp
 have i1:=hi.keeps k;have b1:=(hb (.ref (h.objs.size+1))).keeps k;unfold isInstance
 repeat (first|with_reducible refine vC hget ?_|wp_step)
 show aC _ _ (isSubtype (.ref K) (.ref K)) _ _ _;refine Lb agG ?_;rw[hcC]
 repeat (first|with_reducible refine vC hget ?_|wp_step)
 show aC _ _ (typeLookup (.ref K) _) _ _ _;refine i1.here ?_;refine gk (aF (b1.here ?_));refine aF (yt (BJ hq λr s' z=>?_));rcases r with e|(v|_|_|_)<;>first|exact z|exact z.elim|skip
 obtain⟨rfl,z⟩:=z;exact bu (bu z)
end
end
section
variable{W:WS}{C:EC}{g:Nat->Option AV}{d:Nat}{A:cR}{sc:cu}{cx:CX}{env:Env}{U U1_:ES}{Y cF:Nat->aG}{s s1_:aE}{E:ay->aE->Prop}
variable{ih:Ev}{f:Nat}
theorem Λ(O:o8 W C g)(N:bL W C g ih){K init:aG}{fi:FI}{as:List AV}{vs:List ay}{Q:ay->aE->Prop}(hK:C.isExc K=ah)(hi:C.cls K dZ=aa (aa init))(hf:C.fn init=aa fi)(hz:as.length<=1000000)
  (R0:Rel W U.st Y s) (F:eu W (d+1) A U.st Y s.heap) (va:aO (VR W U.next Y) as vs) (h:PR W U.st Y s.heap (VO W) Q E (Ii ih d K init as (U.add (.tup as)))):
  fj (model W.prog W.w) A (.call (.ref K) ⟨vs,[]⟩) (om Q E) s:=by
 have X:=R0.X O.toOk;have hfind:=O.Ti K init hK hi;obtain⟨nm,q,Nn,bs,hdct,sn,sub,ab,col,dd,k0,k1,k2,k3,k5,hC⟩:=O.II K hK;obtain⟨hh,gs,dr,t,os⟩:=s;have lv:=va.length;refine aae (R0.base _ _ hC) (by rw[gp];exact cL (aT (ao lv) (cC hz)) rfl) (BH X hfind) (λself=>bind_fn X self (O.J7 _ _ hf)) ?_;rw[show U.add (.tup as)=((U.add (.tup as)).1,(U.add (.tup as)).2)from rfl]at h;unfold Ii at h;dsimp only at h;refine cU (R0.jP (o:=.tup as) (r:={cls:=.type "tuple",data:=.seq vs.toArray}) rfl ⟨rfl,_,_,rfl,va.mono λ_ _=>VR.mono (iA _) dw⟩) λR1 X1 V1=>?_;have ed:=(nV V1.2).symm;have ld:=V1.1;generalize hdn:(U.add (.tup as)).1=dn at*;generalize sC:(U.add (.tup as)).2=σ1 at*;rw[show σ1.add (.exc K af dn af)=((σ1.add (.exc K af dn af)).1,(σ1.add (.exc K af dn af)).2)from rfl]at h;unfold CK at h;dsimp only at h;refine cU (R1.jP (o:=.exc K af dn af) (r:={cls:=.ref K,data:=.fields #[.ref hh.objs.size,.none,.none,.none,.bool ak,.none]}) rfl ⟨rfl,rfl,trivial,m7 ld,_,rfl,by rw[dw _ ld,ed];rfl,rfl⟩) λR2 X2 V2=>?_;have mX:=X1.trans R0.lt R1.lt X2;have ex:=(nV V2.2).symm;have sz:(hh.push {cls:=.type "tuple",data:=.seq vs.toArray}).objs.size=hh.objs.size+1:=Lz ..;have h2:=PR.from R0 R2 mX h;have:=N.zE (A:=A.under (.builtin "type.__call__" ⟨.ref K::vs,[]⟩)) hf R2 ((F.ext mX R0.lt).RD _ _) (as:=.ref (σ1.add (.exc K af dn af)).1::as) (vs:=.ref (hh.objs.size+1)::vs)
  (.cons ⟨V2.1,by rw[ex];exact congrArg eB sz.symm⟩ (va.mono λ_ _=>mX.vr)) (Na R2 V2.1 h2)
 refine BJ this λr s' z=>?_;rw[ex,sz]at z;cases r with
 |error e=>exact z
 |ok fl=>
  cases fl with
  |ret v=>exact z
  |_=>exact z
theorem ai9(O:o8 W C g){x:Nat}{a:AV}{D:Option Nat}{b:Nat}{tb:Option Nat}{K:aG}{av:ay}{Q:ay->aE->Prop}(hK:C.isExc K=ah)(R0:Rel W U.st Y s)(hx:U.get x=aa (.exc K D b tb))(va:VR W U.next Y a av)
  (h:PR W U.st Y s.heap (VO W) Q E (dH (DM x (K,D,b,tb) a U))):aC (model W.prog W.w) A (call (.builtin "ValueError.__init__") [.ref (Y x),av]) Q E s:=by
 obtain⟨nm,q,Nn,bs,hdct,sn,sub,ab,col,dd,k0,k1,k2,k3,k5,hC⟩:=O.II K hK;have hC:=R0.base _ _ hC;have F:=EE;refine tT (R0.obj x _ hx) λoe g1 g2 g3 g4 g5 vs g6 g7 g8=>?_;obtain⟨hh,gs,dr,t,os⟩:=s;have Kd:=PD (K:=K);refine yt (K7 F.init.plain F.initEntry ?_);have El:∀{M:Model} {A:cR} {Q:Unit->aE->Prop} {E:ay->aE->Prop},Q () ⟨hh,gs,dr,t,os⟩->aC M A (checkBuiltinCall "ValueError.__init__" ⟨[.ref (Y x),av],[]⟩) Q E ⟨hh,gs,dr,t,os⟩:=λ{M A Q E} hq=>by
  have akL:=F.noStar;simp only[checkBuiltinCall,F.initKind,F.initSplit,F.initRow]
  repeat (first|(with_reducible refine vC g1 ?_;rw[g2])|with_reducible refine vC hC ?_|(with_reducible refine Lb hC ?_;rw[Kd])|wp_step)
  exact hq
 refine El ?_;refine cU (R0.jP (o:=.tup [a]) (r:={cls:=.type "tuple",data:=.seq #[av]}) rfl ⟨rfl,_,_,rfl,.cons (VR.mono (iA _) dw va) .nil⟩) λR1 X1 V1=>?_;have sM:(U.add (.tup [a])).2.get x=aa (.exc K D b tb):=(ES.add_get U _ (R0.lt x _ hx)).trans hx;have ex:dK Y U.next hh.objs.size x=Y x:=dw _ (R0.lt x _ hx)
 have eT:=(nV V1.2).symm;refine tT (R1.obj x _ sM) λoe' j1 j2 j3 j4 j5 vs' j6 j7 j8=>?_;have hp:=jo ({cls:=.type "tuple",data:=.seq #[av]}:Obj) g1;rw[ex]at j1;have Vk:(hh.push {cls:=.type "tuple",data:=.seq #[av]}).get? (Y x)=aa oe':=j1;rw[hp]at Vk;cases Vk;rw[g6]at j6;cases j6;have hsz:0<vs.size:=(Array.getElem?_eq_some_iff.mp g7).1;have oV:=Bo g6 (·.setIfInBounds 0 (eB hh.objs.size));have hc3:=EJ oe (·.setIfInBounds 0 (eB hh.objs.size));have KH:(oe.mapFields (·.setIfInBounds 0 (eB hh.objs.size))).dict=oe.dict:=by obtain⟨c,d,dt,sl⟩:=oe;cases dt<;>rfl
 obtain⟨R2,X2⟩:=R1.uN (o':=.exc K D (U.add (.tup [a])).1 tb) (f:=qL (·.setIfInBounds 0 (eB hh.objs.size))) sM (by rw[ex];exact hp) (Bj oV) (λn=>(BP g6 n).elim)
  ⟨hc3.trans g2,by rw[KH];exact j3,trivial,V1.1,_,oV,by rw[eT];simp[hsz],by
   cases tb with
   |none=>rw[KL (by decide)];exact j8
   |some t=>exact⟨j8.1,by rw[KL (by decide)];exact j8.2⟩⟩
 rw[ex]at R2 X2;have fin:=h _ _ .none R2 (X1.trans R0.lt R1.lt X2) ⟨_,rfl,rfl⟩
 wp_walk
 rw[g6]
 wp_walk
 rw[g7]
 wp_walk
 rw[g6];dsimp only;rw[if_pos hsz];refine wpAny_update hp ?_;refine Mg ?_;exact bu fin
end
section
variable{W:WS}{C:EC}{g:Nat->Option AV}{d:Nat}{A:cR}{sc:cu}{cx:CX}{env:Env}{U U1_:ES}{Y cF:Nat->aG}{s s1_:aE}{E:ay->aE->Prop}
variable{ih:Ev}{f:Nat}
theorem ahn(O:o8 W C g)(N:bL W C g ih){x own cd:Nat}{cl:List (Nat×Nat)}{b:CE}{Q:ay->aE->Prop}(hx:U.get x=aa (.fn own cl cd b))(hcd:U.get cd=aa (.code own))(R0:Rel W U.st Y s)(F:eu W (d+1) A U.st Y s.heap)
  (h:PR W U.st Y s.heap (VO W) Q E (Hh ih d b cl (U.add (.ns [])))):fj (model W.prog W.w) A (.call (.ref (Y x)) ⟨[],[]⟩) (om Q E) s:=by
 refine Mq (R0.obj x _ hx) λo h1 h2 body scope clos pm ct hl hcl dQ=>?_;subst dQ;refine qX (R0.obj cd _ hcd) λoc c1 vs t c2 c3=>?_;obtain⟨hok,f,hb⟩:=O.Ua _ _ _ hl;unfold sd at hok;rw[bJ,bJ,bJ,Lh,Lh]at hok;obtain⟨⟨⟨k1,k2⟩,k3⟩,k4⟩:=hok;have k1:=FU k1;have k2:scope.kind= .function:=eq_of_beq k2;refine kla_callFunE (by have:=F.hd;exact aA (aT aU (bD this)) rfl) h1 rfl k4 k3 rfl ⟨Y cd,oc,vs,t,rfl,c1,c2,c3⟩ ?_;refine BS (nms:=[]) (vs:=[]) (ds:=[]) ⟨rfl,rfl,rfl,rfl,rfl,xZ⟩ (cN _) (cN _) (cN _) (λ{Q'} h=>aF (bu (bu (h af rfl)))) ?_;rw[show U.add (.ns [])=((U.add (.ns [])).1,(U.add (.ns [])).2)from rfl]at h;unfold Hh at h;dsimp only at h;refine yg (ks:=[]) (cs:=cl) (by rw[k1];rfl) R0 hcl λbU s2 gj R2 X2 A2 l2=>?_;rw[show(forIn (([]:List Str).zip (([]:List ay)++yx (([]:List ay).length-(([]:List Str).length-([]:List ay).length)) ([]:List ay))) Fw _:Sem PUnit)=pure Fw from Bv,pure_bind];refine bu ⟨O.lim.keeps R2.base,kla_codeExpr ?_⟩;have e2:(eN [] cl (U.add (.ns [])).2).2=(U.add (.ns [])).2:=rfl;have e3:(eN [] cl (U.add (.ns [])).2).1=cl:=rfl;rw[e2]at R2 X2 A2 l2;rw[e3]at A2;generalize hq:(U.add (.ns [])).1=q at*;generalize ak3:(U.add (.ns [])).2=σ2 at*;refine bZ h λkvs hq2 h=>?_;have hq2:=kQ hq2;unfold wh at h;rw[yu]at h;have F2:=F.ext X2 R0.lt;have EN:jg W σ2.next bU scope ⟨q,q,cl,0⟩ (newEnv scope (bU q) eY gj (W.qual own++ "<lambda>" ++ ".<locals>.") (aa (Y x)) (.ref (Y cd)) af eK):=
  ⟨λid=>.inl rfl,k2,rfl,rfl,⟨rfl,l2⟩,⟨rfl,l2⟩,A2⟩
 have SD:aZ W C d (A.deeper (newEnv scope (bU q) eY gj (W.qual own++ "<lambda>" ++ ".<locals>.") (aa (Y x)) (.ref (Y cd)) af eK)) scope ⟨q,q,cl,0⟩ (newEnv scope (bU q) eY gj (W.qual own++ "<lambda>" ++ ".<locals>.") (aa (Y x)) (.ref (Y cd)) af eK) σ2 bU s2:=
  ⟨R2,EN,eu.deeper F2 R2 rfl hq2 rfl k2,λtb htb=>by rw[O.SW]at htb;exact aN htb⟩
 have TD:iF (A.deeper (newEnv scope (bU q) eY gj (W.qual own++ "<lambda>" ++ ".<locals>.") (aa (Y x)) (.ref (Y cd)) af eK)) (newEnv scope (bU q) eY gj (W.qual own++ "<lambda>" ++ ".<locals>.") (aa (Y x)) (.ref (Y cd)) af eK):=by obtain⟨_,_,_,⟨l,h4,_⟩,_⟩:=F;exact⟨l,by show A.frames.map (_:: ·)=_;rw[h4];rfl⟩
 have h3:=PR.from R0 R2 X2 h;exact N.v hb SD (PR.fold R2 h3 (λv bA gy s4 b4 R4 X4 V4 h4=>Gl (v:=af) R4 (show PR W bA.st gy s4.heap (VO W) Q E (eS v bA)from h4) V4) λx bA gy s4 R4 X4 l4 h4=>leave_back (SD.ext R4 X4) TD l4 h4)
structure uh(W:WS)(C:EC)(g:Nat->Option AV)(FL:Ev->Nat->List AV->ES->R Out):Prop where
 next:∀{d a as vs A U Y s Q E},C.spec a=aa .next->Rel W U.st Y s->eu W (d+1) A U.st Y s.heap->aO (VR W U.next Y) as vs->PR W U.st Y s.heap (VO W) Q E (CL C as U)->fj (model W.prog W.w) A (.call (.ref a) ⟨vs,[]⟩) (om Q E) s
 flat:∀{ih d a as vs A U Y s Q E},bL W C g ih->C.spec a=aa .flat->Rel W U.st Y s->eu W (d+1) A U.st Y s.heap->aO (VR W U.next Y) as vs->PR W U.st Y s.heap (VO W) Q E (FL ih d as U)->fj (model W.prog W.w) A (.call (.ref a) ⟨vs,[]⟩) (om Q E) s
theorem N7(O:o8 W C g){FL:Ev->Nat->List AV->ES->R Out}(P:uh W C g FL)(N:bL W C g ih){a:aG}{fi:FI}{as:List AV}{vs:List ay}{Q:ay->aE->Prop}(hf:C.fn a=aa fi)(R0:Rel W U.st Y s)(F:eu W d A U.st Y s.heap)(va:aO (VR W U.next Y) as vs)
  (h:PR W U.st Y s.heap (VO W) Q E (Hq C FL ih d (.adr a) as U)):fj (model W.prog W.w) A (.call (.ref a) ⟨vs,[]⟩) (om Q E) s:=by
 cases d with
 |zero=>exact h.elim
 |succ d=>
  refine oS (P:=PR W U.st Y s.heap (VO W) Q E) (show PR W U.st Y s.heap (VO W) Q E ((C.fn a).elim _ _)from h) (λfi' hf' h=>?_) λhf' _=>by rw[hf]at hf';exact lV hf'
  rw[hf]at hf';rw[<-aX hf']at h;refine oS (P:=PR W U.st Y s.heap (VO W) Q E) h (λsp hs h=>?_) λhs h=>aiH O.toOki N (O.fn a fi hf hs) R0 F va h;cases sp with
  |next=>exact P.next hs R0 F va h
  |flat=>exact P.flat N hs R0 F va h
theorem acf(O:o8 W C g){FL:Ev->Nat->List AV->ES->R Out}(P:uh W C g FL)(N:bL W C g ih){fv:AV}{v:ay}{as:List AV}{vs:List ay}{Q:ay->aE->Prop}(R0:Rel W U.st Y s)(F:eu W d A U.st Y s.heap)(vf:VR W U.next Y fv v)(va:aO (VR W U.next Y) as vs)
  (h:PR W U.st Y s.heap (VO W) Q E (Hq C FL ih d fv as U)):aC (model W.prog W.w) A (call v vs) Q E s:=by
 cases d with
 |zero=>exact h.elim
 |succ d=>
  have hh:=F.hh (vD _);have bi:∀{fv:AV} {v:ay},VR W U.next Y fv v->PR W U.st Y s.heap (VO W) Q E (bz (nj C fv as U) dH)->aC (model W.prog W.w) A (call v vs) Q E s:=λvf h=>XI O.toOkb R0 hh vf va (λhK hx h4 h5=>ai9 O hK R0 hx h4 h5) h
  refine oS (P:=PR W U.st Y s.heap (VO W) Q E) (show PR W U.st Y s.heap (VO W) Q E ((lu fv).elim _ _)from h) (λa ha h1=>ru ha vf (yt ?_)) λ_ h1=>oS (P:=PR W U.st Y s.heap (VO W) Q E) h1 (λx hx h1=>?_) λ_ h1=>bi vf h1
  ·refine oB hx vf (bZ h1 λq hq h1=>oE hq λob hob e=>bZ h1 λown ho h1=>oE ho λoc hoc e2=>jA h1 λb h1=>?_);rw[aa2 e]at hob;rw[ZD e2]at hoc;rw[bJ]at b;rw[<-cG b.2]at hoc;rw[List.isEmpty_iff.mp b.1]at va;cases va;exact yt (ahn O N hob hoc R0 F h1)
  ·rw[vO ha]at h;refine oS (P:=PR W U.st Y s.heap (VO W) Q E) h1 (λfi hf _=>N7 O P N hf R0 F va h) λhf h1=>bZ h1 λo hi h1=>bZ h1 λinit ho h1=>bZ h1 λfi Vl h1=>?_;rw[ho]at hi;refine bS (P:=PR W U.st Y s.heap (VO W) Q E) h1 (λhK h1=>af9 O N hK hi Vl R0 F va h1) λ_ h1=>jA h1 λhq h1=>?_;rw[bJ]at hq;exact Λ O N hq.1 hi Vl (iB hq.2) R0 F va h1
theorem ab0(O:Okh W C g)(N:bL W C g ih){l:List fR}{c:List CS}{Q:gA->aE->Prop}(hc:bB (cS g f sc) l=aa c)(S:aZ W C d A sc cx env U Y s)(T:iF A env)
  (h:PR W U.st Y s.heap (VF W) Q E (OM C ih d cx c U)):aC (model W.prog W.w) A (execs l env) Q E s:=by
 cases l with
 |nil=>obtain rfl:=aX hc;exact xV (h Y s .next S.R .refl ⟨_,rfl,rfl⟩)
 |cons st rest=>
  refine fE (qR hc) λb m h1 h2 ig=>?_;subst ig;have h:PR W U.st Y s.heap (VF W) Q E (bindR (kr C ih d cx b U) λf σ1=>Qa ih d cx m f σ1):=h;refine Br (Qc O N h1 S T (PR.then S.R h λfl σ1 bF s1 b1 R1 X1 V1 k1=>?_));cases fl with
  |next=>cases V1;exact N.s h2 (S.ext R1 X1) T k1
  |cont=>cases V1;exact k1 bF s1 _ R1 .refl ⟨_,rfl,rfl⟩
  |brk=>cases V1;exact k1 bF s1 _ R1 .refl ⟨_,rfl,rfl⟩
  |ret u=>refine aV V1 λw jW V2=>?_;try clear V1;subst jW;exact k1 bF s1 (.ret w) R1 .refl ⟨_,rfl,w,rfl,V2⟩
theorem bL.step(O:o8 W C g){FL:Ev->Nat->List AV->ES->R Out}(P:uh W C g FL)(N:bL W C g ih):bL W C g (Mine.step C FL ih)where
 e:=λhc S h=>s_e O.toOkg N hc S h
 t:=λhc S h=>s_t O.toOkg N hc S h
 s:=λhc S T h=>ab0 O.toOkh N hc S T h
 dS:=λhz hb S T h=>afA N hz hb S T h
 eF:=λht hb S T hi h=>afh O.toOkg N ht hb S T hi h
 comp:=λhc hid hk ht hif S hi hacc h=>acB O.toOkc N hc hid hk ht hif S hi hacc h
 zE:=λhf R0 F va h=>N7 O P N hf R0 F va h
 call:=λR0 F vf va h=>acf O P N R0 F vf va h
end
section
variable{W:WS}{C:EC}{g:Nat->Option AV}
theorem bL.zero:bL W C g (λ_ _ _=>.stuck)where
 e:=λ_ _ h=>h.elim
 t:=λ_ _ h=>h.elim
 s:=λ_ _ _ h=>h.elim
 dS:=λ_ _ _ _ h=>h.elim
 eF:=λ_ _ _ _ _ h=>h.elim
 comp:=λ_ _ _ _ _ _ _ _ h=>h.elim
 zE:=λ_ _ _ _ h=>h.elim
 call:=λ_ _ _ _ h=>h.elim
theorem bL.all(O:o8 W C g){FL:Ev->Nat->List AV->ES->R Out}(P:uh W C g FL):∀n,bL W C g (ev C FL n)
 |0=>bL.zero
 |n+1=>bL.step O P (bL.all O P n)
end
end Mine
end
section
namespace Mine
open PySem PySem.W PySem.Calls PyProof.Rows
theorem aa0{K:ef}{h:cy}{n:Nat}(X:K.In h):Frag.In (BY n K) h:=λa o e=>X a o (by have q:Fi a (BY n K++yx n K)=_:=List.lookup_append;rw[xK,e]at q;exact q)
noncomputable def dz.all{I:Type}(f:Nat->I->Bool)(t:dz I):Bool:=match t with
 | .aj=>ah
 | .bnd l k v r=>f k v&&(dz.all f l&&dz.all f r)
theorem dz.r6{I:Type}{f:Nat->I->Bool}:∀{t:dz I} {i:Nat} {v:I},t.all f=ah->t.get i=aa v->f i v=ah
 | .aj,i,v,_,h=>by exact aN h
 | .bnd l k w r,i,v,ha,h=>by
  unfold dz.all at ha;rw[bJ,bJ]at ha;have h:@ee (λ_=>Option I) (@ee (λ_=>Option I) (r.get i) (l.get i) (cZ i k)) (aa w) (aH i k)=aa v:=h;cases e:aH i k with
  |true=>
   rw[e]at h
   (injection h with h;subst h)
   rw[cG e];exact ha.1
  |false=>
   rw[e]at h;cases e2:cZ i k with
   |true=>rw[e2]at h;exact dz.r6 ha.2.1 h
   |false=>rw[e2]at h;exact dz.r6 ha.2.2 h
noncomputable def agX:List Nat:=[2,3,40,39,62,61,82,81,140,139,181,180,228,227,889,888,550,549,570,569]++Qm
noncomputable def qm(T:BT)(n a:Nat):Option Obj:=match cZ a n with
 |true=>(match T.get a with
  |some o=>alive o
  |none=>af)
 |false=>af
theorem yU{T:BT}{n a:Nat}{life:Life}{o:Obj}(h:qm T n a=aa o):(absHeap T n life).get? a=aa o:=by
 unfold qm at h;cases e:cZ a n with
 |false=>rw[e]at h;exact aN h
 |true=>
  rw[e]at h;dsimp only at h;cases g:T.get a with
  |none=>rw[g]at h;exact aN h
  |some o'=>rw[g]at h;rw[abs_get (fH e) g];exact h
noncomputable def wj(T:BT)(n:Nat):List Nat->ef
 | []=>[]
 |a::r=>match qm T n a with
  |some o=>(a,o)::wj T n r
  |none=>wj T n r
theorem Fy{T:BT}{n:Nat}:∀{l:List Nat} {a:Nat} {o:Obj},(wj T n l).lookup a=aa o->qm T n a=aa o
 | [],a,o,h=>by exact aN h
 |b::r,a,o,h=>by
  unfold wj at h;cases e:qm T n b with
  |none=>rw[e]at h;exact Fy h
  |some ob=>
   rw[e]at h;dsimp only at h;rw[l8]at h;cases q:a==b with
   |true=>rw[q]at h;obtain rfl:=aX h;rw[eq_of_beq q];exact e
   |false=>rw[q]at h;exact Fy h
theorem aai{T:BT}{n:Nat}{life:Life}{l:List Nat}:Frag.In (wj T n l) (absHeap T n life):=λa o e=>yU (Fy e)
noncomputable def SJ:Data->Option (Array ay)
 | .seq vs _=>aa vs
 |_=>af
theorem aat{x:Data}{vs:Array ay}(h:SJ x=aa vs):∃n,x= .seq vs n:=by cases x<;>first|exact aN h|(obtain rfl:=aX h;exact⟨_,rfl⟩)
noncomputable def zI:Data->Option (Array nc)
 | .dict es _=>aa es
 |_=>af
theorem Z1{x:Data}{es:Array nc}(h:zI x=aa es):∃n,x= .dict es n:=by cases x<;>first|exact aN h|(obtain rfl:=aX h;exact⟨_,rfl⟩)
noncomputable def HZ:Data->Option yG
 | .func fd=>aa fd
 |_=>af
theorem ZC{x:Data}{fd:yG}(h:HZ x=aa fd):x= .func fd:=by cases x<;>first|exact aN h|(obtain rfl:=aX h;rfl)
noncomputable def OA:Data->Option (Array ay)
 | .fields vs=>aa vs
 |_=>af
theorem Yj{x:Data}{vs:Array ay}(h:OA x=aa vs):x= .fields vs:=by cases x<;>first|exact aN h|(obtain rfl:=aX h;rfl)
noncomputable def zU:ay->Option aG
 | .ref a=>aa a
 |_=>af
theorem Nu{x:ay}{a:aG}(h:zU x=aa a):x= .ref a:=by cases x<;>first|exact aN h|(obtain rfl:=aX h;rfl)
noncomputable def RY:ay->Option Str
 | .str q _=>aa q
 |_=>af
theorem aax{x:ay}{q:Str}(h:RY x=aa q):∃t,x= .str q t:=by cases x<;>first|exact aN h|(obtain rfl:=aX h;exact⟨_,rfl⟩)
noncomputable def aeH(T:BT)(n a:Nat):List Nat:=((qm T n a).bind λo=>HZ o.data).elim [] λfd=>(zU fd.code).toList++(zU fd.defaults).toList
noncomputable def ae2(T:BT)(n:Nat):List Nat:=agX++y9.map (·.1)++pX.map (·.1)++[950,945,940,933]++Qm.flatMap (aeH T n)
@[irreducible] noncomputable def theEnd(w:bX):jK:=match endOf w with
 |some s=>s
 |none=>D8 w
@[irreducible] noncomputable def gJ(w:bX):ef:=wj (theEnd w).tree (theEnd w).n (ae2 (theEnd w).tree (theEnd w).n)
noncomputable def cJ(w:bX):ef:=BY 108 (gJ w)
noncomputable def UJ(a:Nat):Bool:=[40,62,82,228,140,181,889].any (aH a)
noncomputable def DC(K:ef)(c a:Nat)(r:Option Nat):Bool:=match r with
 |none=>findIn K (.ref c) (nm a)==aa af&&takerIn K c (nm a)==aa af
 |some f=>findIn K (.ref c) (nm a)==aa (aa (.ref f))&&typeIn K (.ref f)==aa (.type "function")
noncomputable def H8(K:ef):Bool:=clsTree.all λc t=> !UJ c||t.all (DC K c)
noncomputable def Il:List Nat:=[40,62,82,228,140,181,889]
noncomputable def wk:List Nat:=[40,62,82,228,140,181]
noncomputable def zW(K:ef)(c:Nat):Bool:=GN K c&&plainGet K c "__class__" &&hasDictIn K c&&findIn K (.ref c) "__class__" ==aa (aa (.builtin "object.__class__"))&&mroIn K c (.type "object")==aa ah&&makesIn K c&&keepIn K (.ref c)&&
 kitOne K (.ref c) (.type "bool")==aa ak&&kitOne K (.ref c) (.type "int")==aa ak&&kitOne K (.ref c) (.type "str")==aa ak
noncomputable def Dj:List String:=["NoneType", "bool", "int", "str"]
noncomputable def CY:List String:=["bool", "int", "str"]
noncomputable def DL(K:ef):Bool:=findIn K (.ref 570) "__getattribute__" ==aa (aa (.builtin "BaseException.__getattribute__"))&&findIn K (.ref 570) "__setattr__" ==aa (aa (.builtin "object.__setattr__"))&&
 findIn K (.ref 570) "__getattr__" ==aa af&&(clsIn K 570).any (·.hasDict)&&subIn K (.ref 570) (.type "BaseException")==aa ah&&mroIn K 570 (.type "object")==aa ah&&
 (clsIn K 570).any (λcd=>cd.mro==[.ref 570,.ref 550,.type "ValueError",.type "Exception",.type "BaseException",.type "object"])&&keepIn K (.ref 570)&&typeIn K (.ref 570)==aa (.type "type")&&exmOne K (.ref 570) (.ref 570)==aa ah
noncomputable def wG(K:ef)(a:Nat)(r:Option Nat):Bool:=match r with
 |none=>findIn K (.ref 570) (nm a)==aa af&&takerIn K 570 (nm a)==aa af
 |some f=> !aH a dZ||findIn K (.ref 570) "__init__" ==aa (aa (.ref f))
noncomputable def yV(f:Option CFound)(v:ay):Bool:=match f with
 |some (.val u)=>u==v
 |_=>ak
theorem MD{f:Option CFound}{v:ay}(h:yV f v=ah):f=aa (.val v):=by
 cases f with
 |none=>exact cB h
 |some c=>cases c<;>first|exact cB h|exact congrArg (λz=>aa (CFound.val z)) (eq_of_beq h)
noncomputable def sG(K:ef)(c f:Nat):Bool:=specialIn K (.ref c) "__getattribute__" ==aa (aa (.builtin "type.__getattribute__"))&&readsIn K c (.type "type")&&yV (findCls K (.ref c) (.type "type") "__init__") (.ref f)
noncomputable def xG(a:AV)(v:ay):Bool:=match a with
 | .none=>v== .none
 | .bool b=>v== .bool b
 | .int i=>(match i with
  | .lit i=>Fe i v
  | .var _ _=>ak)
 | .str s=>qK (strOf s) v
 | .ref _=>ak
 | .adr a=>v== .ref a
 | .bi k=>v== .builtin (KJ k)
 | .ty k=>v== .type (Az k)
 | .top=>ak
theorem C1{W:WS}{a:AV}{v:ay}(h:xG a v=ah):VG W a v:=by
 cases a with
 |none=>exact eq_of_beq h
 |bool b=>exact eq_of_beq h
 |int i=>
  cases i with
  |lit i=>exact Le h
  |var _ _=>exact cB h
 |str s=>exact K8 h
 |ref _=>exact cB h
 |adr a=>exact eq_of_beq h
 |bi k=>exact eq_of_beq h
 |ty k=>exact eq_of_beq h
 |top=>exact cB h
noncomputable def uw{I H:Type}(f:I->H->Bool):List I->List H->Bool
 | [],[]=>ah
 |a::l,b::m=>f a b&&uw f l m
 |_,_=>ak
theorem NI{I H:Type}{f:I->H->Bool}{R:I->H->Prop}(hf:∀a b,f a b=ah->R a b):∀{l:List I} {m:List H},uw f l m=ah->aO R l m
 | [],[],_=>.nil
 |a::l,b::m,h=>by unfold uw at h;rw[bJ]at h;exact .cons (hf _ _ h.1) (NI hf h.2)
 | [],_::_,h=>by cases h
 |_::_,[],h=>by cases h
noncomputable def zB(K:ef)(k:Nat)(a:AV):Bool:=match nsIn K 3 (nm k)with
 |some (aa v)=>xG a v
 |some af=>(match bootBuiltins (nm k)with
  |some v=>xG a v&& !(nm k==jc "__name__")
  |none=>ak)
 |none=>ak
set_option tactic.hygienic true in
theorem Mw{K:ef}{h:cy}{N:aG}{mg:Str->Option ay}{n:Str}{v:ay}(X:K.In h)(G:h.Ns N mg)(e:nsIn K N n=aa (aa v)):mg n=aa v:=by
 obtain⟨o,es,ep,ho,hd,_,hf⟩:=G;unfold nsIn at e;split at e
 ·rename_i c d es' n' sl q
  have:=X _ _ q;rw[ho]at this;cases this;cases hd;split at e
  ·rename_i en he
   rw[<-hf];unfold nsFind findBy;rw[<-WZ,he];cases e;rfl
  ·split at e<;>cases e
 ·exact aN e
set_option tactic.hygienic true in
theorem Ξ{W:WS}{K:ef}{h:cy}{mg mb:Str->Option ay}(X:K.In h)(G:h.Ns 3 mg)(B:∀x,x≠jc "__name__" ->mb x=bootBuiltins x){k:Nat}{a:AV}(e:zB K k a=ah):
  (∃v,mg (nm k)=aa v/\VG W a v)\/(mg (nm k)=af/\∃v,mb (nm k)=aa v/\VG W a v):=by
 unfold zB at e;split at e
 ·rename_i v hv;exact .inl ⟨v,Mw X G hv,C1 e⟩
 ·rename_i hv
  split at e
  ·rename_i v hb
   rw[bJ]at e;refine .inr ⟨ns_none_of X G hv,v,?_,C1 e.1⟩;rw[B _ λq=>by rw[q]at e;exact absurd e.2 (by decide+kernel)];exact hb
  ·exact cB e
 ·exact cB e
noncomputable def zZ(F:ef)(q:Nat×List AV):Bool:=(F.lookup q.1).any λo=>o.cls== .type "tuple" &&(SJ o.data).any λvs=>uw xG q.2 vs.toList
theorem Oa{W:WS}{F:ef}{h:cy}(X:F.In h){t:Nat}{xs:List AV}(e:zZ F (t,xs)=ah):∃items,h.IsTuple t items/\aO (VG W) xs items.toList:=by obtain⟨o,q,e⟩:=er e;rw[bJ]at e;obtain⟨vs,hv,e2⟩:=er e.2;obtain⟨n,hd⟩:=aat hv;exact⟨vs,⟨o,X _ _ q,eq_of_beq e.1,n,hd⟩,NI (λ_ _=>C1) e2⟩
theorem yD{I:Type}:∀{l:List (Nat×I)} {k:Nat} {v:I},mH l k=aa v->(k,v)∈l
 | [],k,v,h=>by exact aN h
 |q::r,k,v,h=>by
  unfold mH at h;split at h
  ·rename_i e
   (injection h with h;subst h)
   rw[<-cG e];exact .head _
  ·exact .tail _ (yD h)
noncomputable def zT(F:ef)(t:Nat):List nc:=(F.lookup t).elim [] λo=>(zI o.data).elim [] (·.toList)
noncomputable def C8(F:ef)(q:Nat×List (List Nat×AV)):Bool:=(F.lookup q.1).any λo=>o.cls== .type "dict" &&o.dict.isNone&&o.slots.size==0&&decide ((q.2.map λp=>strOf p.1).Nodup)&& !aH q.1 1&&
 (zI o.data).any λes=>uw (λ(p:List Nat×AV) (e:nc)=>qK (strOf p.1) e.key&&xG p.2 e.val) q.2 es.toList
theorem MC{W:WS}:∀{kvs:List (List Nat×AV)} {es:List nc},uw (λ(p:List Nat×AV) (e:nc)=>qK (strOf p.1) e.key&&xG p.2 e.val) kvs es=ah->
  es.map (·.hash)=kvs.map (λp=>hashStr W.w (strOf p.1))->
  ∃ps,(∀e∈es,∃k,(strKind W.prog W.w).is k e.key=ah/\e.hash=(strKind W.prog W.w).hash k)/\Pairs (strKind W.prog W.w) es ps/\aO (λ(p:List Nat×AV) (q:Str×ay)=>q.1=strOf p.1/\VG W p.2 q.2) kvs ps/\ps.map (·.1)=kvs.map λp=>strOf p.1
 | [],[],_,_=>⟨[],λe he=>(nomatch he),.nil,.nil,rfl⟩
 |a::l,e::m,h,hh=>by
  unfold uw at h;rw[bJ,bJ]at h;rw[iw,iw,ER]at hh;obtain⟨ps,h1,h2,h3,h4⟩:=MC h.2 hh.2;refine⟨(strOf a.1,e.val)::ps,λx hx=>?_,.cons h.1.1 rfl h2,.cons ⟨rfl,C1 h.1.2⟩ h3,by rw[iw,iw,h4]⟩;cases hx with
  |head=>exact⟨_,h.1.1,hh.1⟩
  |tail _ hx=>exact h1 x hx
 | [],_::_,h,_=>by exact cB h
 |_::_,[],h,_=>by exact cB h
theorem aan{W:WS}{F:ef}{h:cy}(X:F.In h){t:Nat}{kvs:List (List Nat×AV)}(e:C8 F (t,kvs)=ah)(hh:(zT F t).map (·.hash)=kvs.map (λp=>hashStr W.w (strOf p.1))):
  (t==sysModules)=ak/\∃ps,h.DictOf (strKind W.prog W.w) t ps/\aO (λ(p:List Nat×AV) (q:Str×ay)=>q.1=strOf p.1/\VG W p.2 q.2) kvs ps:=by
 obtain⟨o,q,e⟩:=er e;rw[bJ,bJ,bJ,bJ,bJ]at e;obtain⟨es,hv,e2⟩:=er e.2;obtain⟨n,hd⟩:=Z1 hv;have hh:(zI o.data).elim [] (·.toList.map (·.hash))=kvs.map (λp=>hashStr W.w (strOf p.1)):=by rw[<-hh];unfold zT;rw[show F.lookup t=_ from q];show _=List.map _ ((zI o.data).elim [] (·.toList));rw[hv];rfl
 rw[hv]at hh;obtain⟨ps,h1,h2,h3,h4⟩:=MC e2 hh;refine⟨?_,ps,⟨o,es,n,X _ _ q,⟨eq_of_beq e.1.1.1.1.1,Option.isNone_iff_eq_none.mp e.1.1.1.1.2,Wm (eq_of_beq e.1.1.1.2)⟩,hd,λx hx=>h1 x (Array.mem_toList_iff.mpr hx),h2,?_⟩,h3⟩
 ·have:=e.1.2;cases hb:aH t 1 with
  |true=>rw[show aH (t,kvs).1 1=ah from hb]at this;exact cB this
  |false=>exact beq_eq_false_iff_ne.mpr λq=>by rw[show t=1 from q]at hb;exact Bb hb
 ·rw[h4];exact of_decide_eq_true e.1.1.2
theorem akJ(w:bX)(x:Str):xX w.params x=hashStr w x:=rfl
theorem FA{I:Type}:∀{l:List (Nat×I)} {k:Nat} {v:I},mH l k=aa v->l.lookup k=aa v
 | [],k,v,h=>by exact aN h
 |q::r,k,v,h=>by
  unfold mH at h;rw[l8];cases e:aH q.1 k with
  |true=>rw[e]at h;rw[show(k==q.1)=ah from beq_iff_eq.mpr (cG e).symm];exact h
  |false=>rw[e]at h;rw[show(k==q.1)=ak from beq_eq_false_iff_ne.mpr λp=>KR e p.symm];exact FA h
noncomputable def fnAt(F:ef)(a:Nat):Option yG:=(mH F a).bind λo=>HZ o.data
noncomputable def Hg(F:ef)(a:Nat):Str:=(fnAt F a).elim "" λfd=>fd.qualname++ ".<locals>."
noncomputable def IK:FuncBody->Option (List fR)
 | .stmts b=>aa b
 | .expr _=>af
theorem aay{x:FuncBody}{b:List fR}(h:IK x=aa b):x= .stmts b:=by
 cases x with
 |stmts _=>obtain rfl:=aX h;rfl
 |expr _=>exact aN h
noncomputable def compiled(F:ef)(a:Nat):Option (List CS):=(fnAt F a).bind λfd=>(IK fd.body).bind λb=>bB (cS fk 100 fd.scope) b
noncomputable def dz.map{I H:Type}(f:Nat->I->H)(t:dz I):dz H:=match t with
 | .aj=>.aj
 | .bnd l k v r=>.bnd (dz.map f l) k (f k v) (dz.map f r)
theorem dz.get_map{I H:Type}{f:Nat->I->H}:∀{t:dz I} {i:Nat} {v:I},t.get i=aa v->(t.map f).get i=aa (f i v)
 | .aj,i,v,h=>by exact aN h
 | .bnd l k w r,i,v,h=>by
  have h:@ee (λ_=>Option I) (@ee (λ_=>Option I) (r.get i) (l.get i) (cZ i k)) (aa w) (aH i k)=aa v:=h;show @ee (λ_=>Option H) (@ee (λ_=>Option H) ((r.map f).get i) ((l.map f).get i) (cZ i k)) (aa (f k w)) (aH i k)=aa (f i v);cases e:aH i k with
  |true=>
   rw[e]at h
   (injection h with h;subst h)
   rw[cG e]
  |false=>
   rw[e]at h;cases e2:cZ i k with
   |true=>rw[e2]at h;exact dz.get_map h
   |false=>rw[e2]at h;exact dz.get_map h
noncomputable def yQ:List (Nat×Nat):=[(950,948),(945,943),(940,936),(933,931)]
noncomputable def Tj(a:Nat):Option Nat:=mH [(934,931),(941,936),(946,943),(951,948)] a
noncomputable def Ek(F:ef)(a:Nat)(fi:FI):Bool:=(fnAt F a).any λfd=>fd.scope.kind== .function&& !fd.scope.isCoroutine&& !fd.scope.isGenerator&&fd.closure.isEmpty&&aH fd.globals 3&&aH fd.builtins 0&&
  ((zU fd.code).any λc=>(mH F c).any λo=>(OA o.data).any λvs=>(vs[1]?:Option ay).any λv=>(RY v).any λq=>q==fd.qualname)&&
  fd.params.posonlyargs.isEmpty&&fd.params.vararg.isNone&&fd.params.kwonlyargs.isEmpty&&fd.params.kwarg.isNone&&decide ((fd.params.args.map (·.arg)).Nodup)&&
  (bB codeN (fd.params.args.map (·.arg))==aa fi.params)&&(bB codeN (zc fd.scope)==aa fi.cells)&&
  ((fd.params.args.map (·.arg)).all λn=>(codeN n).all λk=>fd.scope.names.lookup n==aa (cond (fi.cells.any (aH k)) .cell .local))&&
  ((fd.defaults== .none&&fi.dflt.isEmpty)||(zU fd.defaults).any λt=>zZ F (t,fi.dflt))&&fB fi.dflt.length (fd.params.args.map (·.arg)).length&&
  ((Tj a).all λtb=>yQ.any λq=>aH q.2 tb&&fd.code== .ref q.1)
theorem isEmpty_nil{I:Type}{l:List I}(h:l.isEmpty=ah):l=[]:=List.isEmpty_iff.mp h
theorem aeK{W:WS}{C:EC}{F:ef}{a:Nat}{fi:FI}(X:F.In W.h0_)(hq:W.qual a=Hg F a)(ht:C.tabOf a=Tj a)(htb:W.tabs=yQ.map (·.2))(hc:∀q∈yQ,CodeHd W.h0_ q.1 q.2)
  (h:Ek F a fi=ah) (hb:compiled F a=aa fi.body):wM W C fk a fi:=by
 obtain⟨fd,e,h⟩:=er h;unfold compiled at hb;unfold Hg at hq;rw[e]at hb hq;refine oE (show(IK fd.body).bind (λb=>bB (cS fk 100 fd.scope) b)=aa fi.body from hb) λbody hbody hb=>oE e λo hl e=>?_;have hd:=ZC e;simp only[bJ,beq_iff_eq,Lh,Bc,decide_eq_true_eq,Lk]at h;obtain⟨⟨⟨⟨⟨⟨⟨⟨⟨⟨⟨⟨⟨⟨⟨⟨⟨h1,h2⟩,h3⟩,h4⟩,h5⟩,h6⟩,h7⟩,h8⟩,h9⟩,dO⟩,h11⟩,h12⟩,oN⟩,xD⟩,h15⟩,qy⟩,h17⟩,AN⟩:=h;refine⟨o,fd,body,100,fd.params.args.map (·.arg),X _ _ (FA hl),hd,aay hbody,hb,h1,h2,h3,h4,cG h5,cG h6,?_,⟨h8,rfl,h9,dO,h11,h12⟩,oN,xD,?_,?_,fH h17,hq,?_⟩
 ·obtain⟨c,k1,h7⟩:=er h7;obtain⟨o2,k2,h7⟩:=er h7;obtain⟨vs,k3,h7⟩:=er h7;obtain⟨v,k4,h7⟩:=er h7;obtain⟨q,k5,h7⟩:=er h7;obtain⟨t,k6⟩:=aax k5;subst k6;rw[<-eq_of_beq h7];exact⟨c,o2,vs,t,Nu k1,X _ _ (FA k2),Yj k3,k4⟩
 ·intro n k hn hk;have:=List.all_eq_true.mp h15 n hn;rw[hk]at this;exact eq_of_beq this
 ·rw[Bool.or_eq_true]at qy;rcases qy with qy|qy
  ·rw[bJ]at qy;exact .inl ⟨eq_of_beq qy.1,isEmpty_nil qy.2⟩
  ·obtain⟨t,k1,qy⟩:=er qy;obtain⟨items,i1,i2⟩:=Oa (W:=W) X qy;exact .inr ⟨t,items,Nu k1,i1,i2⟩
 ·intro tb htb';rw[ht]at htb';rw[htb']at AN;obtain⟨q,hq1,hq2⟩:=List.any_eq_true.mp AN;rw[bJ]at hq2;have e1:=cG hq2.1;refine⟨by rw[htb,<-e1];exact List.mem_map.mpr ⟨q,hq1,rfl⟩,q.1,eq_of_beq hq2.2,?_⟩;rw[<-e1];exact hc q hq1
noncomputable def nms:List Str:=(pr.main.body.take 89).flatMap bindsAtTop
noncomputable abbrev QE:List Str:=importedModules pr.main.body
noncomputable def oA(F:ef)(a:Nat):Obj:=(F.lookup a).getD default
noncomputable def rO(F:ef)(a:Nat):ClassData:=match(oA F a).data with
 | .cls c=>c
 |_=>default
noncomputable def AF(F:ef)(a i:Nat):Option ay:=((oA F a).slots[i]?).getD af
noncomputable def adA(F:ef):Obj:=excClassObj (rO F 570).name (rO F 570).qualname 570 (rO F 570).ns (rO F 570).bases [.ref 550,.type "ValueError",.type "Exception",.type "BaseException",.type "object"]
 (rO F 570).hasDict (rO F 570).slotNames (rO F 570).subclasses (rO F 570).abstract (rO F 570).collection (oA F 570).dict (AF F 570 0) (AF F 570 1) (AF F 570 2) (AF F 570 3) (AF F 570 5) "ValueError.__new__"
noncomputable def Ah(K:ef):Bool:=H8 K&&Il.all (zW K)&&
 (specialIn K (.builtin "object.__class__") "__get__" ==aa (aa (.builtin "getset_descriptor.__get__"))&&takesIn K (.builtin "object.__class__")==aa ah)&&
 (yX.all λq=>wk.all λb=>kitOne K (.ref q.1) (.ref b)==aa (q.2.any (aH b)))&&
 (wk.all λc=>kitOne K (.type "NoneType") (.ref c)==aa ak&&kitOne K (.type "bool") (.ref c)==aa ak&&kitOne K (.type "int") (.ref c)==aa ak&&kitOne K (.type "str") (.ref c)==aa ak)&&
 (Dj.all λt=>CY.all λu=>kitOne K (.type t) (.type u)==aa (t==u||(t== "bool" &&u== "int")))&&
 (jN.all λa _=>keepIn K (.ref a)&&typeIn K (.ref a)==aa (.type "function"))&&DL K&&yR.all (wG K)&&sG K 40 37&&sG K 550 547&&
 yV (findCls K (.type "ValueError") (.type "type") "__init__") (.builtin "ValueError.__init__")&&De.all (zB K)
noncomputable def Qv:List (Nat×Nat):=[(950,948),(945,943),(940,936),(933,931)]
noncomputable def Sq(F:ef):Bool:=y9.all (zZ F)&&pX.all (C8 F)&&jN.all (Ek F)&&(Qv.all λq=>codeHdIn F q.1 q.2)&&nsIn F 3 (jc "law")==aa (aa (.ref 958))&&noTabs F
noncomputable def PE(s:jK):List (Option Obj):=[qm s.tree s.n 948,qm s.tree s.n 943,qm s.tree s.n 936,qm s.tree s.n 931]
noncomputable def Ic(F:ef):List (List Int):=pX.map λq=>(zT F q.1).map (·.hash)
noncomputable def HY(p:Params):List (List Int):=pX.map λq=>q.2.map λx=>xX p (strOf x.1)
structure JJ(w:bX):Prop where
 ends:endOf w=aa (theEnd w)
 st:(staticsOk QE (iV w.params) (theEnd w).abs.heap&&namesBound pr (theEnd w).abs.heap&&gensDone (theEnd w).abs&&laidKept (iV w.params) (theEnd w).abs.heap)=ah
 seen:openSeen q0 nms QE (λ_=>ah) ah (theEnd w).abs=openGood q0 nms
 tabs:PE (theEnd w)=[aa (tabObj #[]),aa (tabObj #[]),aa (tabObj #[]),aa (tabObj #[])]
 hash:Ic (gJ w)=HY w.params
 exc:(cJ w).lookup 570=aa (adA (cJ w))
structure JL(w:bX):Prop where
 f:Sq (gJ w)=ah
 bodies:(jN.map λa _=>compiled (gJ w) a)=jN.map λ_ fi=>aa fi.body
theorem agU(w:bX):JJ (w.withFollow "special-get-raises" ak):=
 ⟨by kernel_rfl,by kernel_rfl,by kernel_rfl,by kernel_rfl,by kernel_rfl,by kernel_rfl⟩
theorem afC(w:bX):JJ (w.withFollow "special-get-raises" ah):=
 ⟨by kernel_rfl,by kernel_rfl,by kernel_rfl,by kernel_rfl,by kernel_rfl,by kernel_rfl⟩
theorem aeN(w:bX):JL (w.withFollow "special-get-raises" ak):=⟨by kernel_rfl,by kernel_rfl⟩
theorem afj(w:bX):JL (w.withFollow "special-get-raises" ah):=⟨by kernel_rfl,by kernel_rfl⟩
theorem k_f(w:bX):Ah (cJ (w.withFollow "special-get-raises" ak))=ah:=by kernel_rfl
theorem k_t(w:bX):Ah (cJ (w.withFollow "special-get-raises" ah))=ah:=by kernel_rfl
theorem xy(w:bX):JJ w:=byRow2 "special-get-raises" agU afC w
theorem Uv(w:bX):JL w:=byRow2 "special-get-raises" aeN afj w
theorem lkK(w:bX):Ah (cJ w)=ah:=byRow2 "special-get-raises" (P:=λw=>Ah (cJ w)=ah) k_f k_t w
theorem mD(w:bX):(H8 (cJ w)=ah/\Il.all (zW (cJ w))=ah/\
 (specialIn (cJ w) (.builtin "object.__class__") "__get__" ==aa (aa (.builtin "getset_descriptor.__get__"))&&takesIn (cJ w) (.builtin "object.__class__")==aa ah)=ah/\
 (yX.all λq=>wk.all λb=>kitOne (cJ w) (.ref q.1) (.ref b)==aa (q.2.any (aH b)))=ah/\
 (wk.all λc=>kitOne (cJ w) (.type "NoneType") (.ref c)==aa ak&&kitOne (cJ w) (.type "bool") (.ref c)==aa ak&&kitOne (cJ w) (.type "int") (.ref c)==aa ak&&kitOne (cJ w) (.type "str") (.ref c)==aa ak)=ah/\
 (Dj.all λt=>CY.all λu=>kitOne (cJ w) (.type t) (.type u)==aa (t==u||(t== "bool" &&u== "int")))=ah/\
 (jN.all λa _=>keepIn (cJ w) (.ref a)&&typeIn (cJ w) (.ref a)==aa (.type "function"))=ah)/\(DL (cJ w)=ah/\yR.all (wG (cJ w))=ah/\sG (cJ w) 40 37=ah/\sG (cJ w) 550 547=ah/\
 yV (findCls (cJ w) (.type "ValueError") (.type "type") "__init__") (.builtin "ValueError.__init__")=ah/\De.all (zB (cJ w))=ah):=by
 have h:=lkK w;unfold Ah at h;obtain⟨h,oN⟩:=Bool.and_eq_true_iff.mp h;obtain⟨h,h12⟩:=Bool.and_eq_true_iff.mp h;obtain⟨h,h11⟩:=Bool.and_eq_true_iff.mp h;obtain⟨h,dO⟩:=Bool.and_eq_true_iff.mp h;obtain⟨h,h9⟩:=Bool.and_eq_true_iff.mp h;obtain⟨h,h8⟩:=Bool.and_eq_true_iff.mp h;obtain⟨h,h7⟩:=Bool.and_eq_true_iff.mp h;obtain⟨h,h6⟩:=Bool.and_eq_true_iff.mp h;obtain⟨h,h5⟩:=Bool.and_eq_true_iff.mp h;obtain⟨h,h4⟩:=Bool.and_eq_true_iff.mp h;obtain⟨h,h3⟩:=Bool.and_eq_true_iff.mp h;obtain⟨h1,h2⟩:=Bool.and_eq_true_iff.mp h;exact⟨⟨h1,h2,h3,h4,h5,h6,h7⟩,h8,h9,dO,h11,h12,oN⟩
theorem aaz(w:bX):H8 (cJ w)=ah:=(mD w).1.1
theorem acG(w:bX):Il.all (zW (cJ w))=ah:=(mD w).1.2.1
theorem ZP(w:bX):(specialIn (cJ w) (.builtin "object.__class__") "__get__" ==aa (aa (.builtin "getset_descriptor.__get__"))&&takesIn (cJ w) (.builtin "object.__class__")==aa ah)=ah:=(mD w).1.2.2.1
theorem abG(w:bX):(yX.all λq=>wk.all λb=>kitOne (cJ w) (.ref q.1) (.ref b)==aa (q.2.any (aH b)))=ah:=(mD w).1.2.2.2.1
theorem abN(w:bX):(wk.all λc=>kitOne (cJ w) (.type "NoneType") (.ref c)==aa ak&&kitOne (cJ w) (.type "bool") (.ref c)==aa ak&&kitOne (cJ w) (.type "int") (.ref c)==aa ak&&kitOne (cJ w) (.type "str") (.ref c)==aa ak)=ah:=(mD w).1.2.2.2.2.1
theorem ab1(w:bX):(Dj.all λt=>CY.all λu=>kitOne (cJ w) (.type t) (.type u)==aa (t==u||(t== "bool" &&u== "int")))=ah:=(mD w).1.2.2.2.2.2.1
theorem acF(w:bX):(jN.all λa _=>keepIn (cJ w) (.ref a)&&typeIn (cJ w) (.ref a)==aa (.type "function"))=ah:=(mD w).1.2.2.2.2.2.2
theorem adj(w:bX):DL (cJ w)=ah:=(mD w).2.1
theorem aaf(w:bX):yR.all (wG (cJ w))=ah:=(mD w).2.2.1
theorem ag7(w:bX):sG (cJ w) 40 37=ah:=(mD w).2.2.2.1
theorem adu(w:bX):sG (cJ w) 550 547=ah:=(mD w).2.2.2.2.1
theorem aaa(w:bX):yV (findCls (cJ w) (.type "ValueError") (.type "type") "__init__") (.builtin "ValueError.__init__")=ah:=(mD w).2.2.2.2.2.1
theorem aby(w:bX):De.all (zB (cJ w))=ah:=(mD w).2.2.2.2.2.2
theorem abV(w:bX):IQ (λi=>(cJ w).lookup i) 570:=.mk _ _ _ _ _ _ _ _ _ _ _ _ _ _ _ (xy w).exc
theorem vR(w:bX):y9.all (zZ (gJ w))=ah/\pX.all (C8 (gJ w))=ah/\jN.all (Ek (gJ w))=ah/\(Qv.all λq=>codeHdIn (gJ w) q.1 q.2)=ah/\(nsIn (gJ w) 3 (jc "law")==aa (aa (.ref 958)))=ah/\noTabs (gJ w)=ah:=by have h:=(Uv w).f;unfold Sq at h;obtain⟨h,h6⟩:=Bool.and_eq_true_iff.mp h;obtain⟨h,h5⟩:=Bool.and_eq_true_iff.mp h;obtain⟨h,h4⟩:=Bool.and_eq_true_iff.mp h;obtain⟨h,h3⟩:=Bool.and_eq_true_iff.mp h;obtain⟨h1,h2⟩:=Bool.and_eq_true_iff.mp h;exact⟨h1,h2,h3,h4,h5,h6⟩
theorem abP(w:bX):y9.all (zZ (gJ w))=ah:=(vR w).1
theorem aaH(w:bX):pX.all (C8 (gJ w))=ah:=(vR w).2.1
theorem aez(w:bX):jN.all (Ek (gJ w))=ah:=(vR w).2.2.1
theorem aah(w:bX):nsIn (gJ w) 3 (jc "law")=aa (aa (.ref 958)):=eq_of_beq (vR w).2.2.2.2.1
theorem ZO(w:bX):(jN.map λa _=>compiled (gJ w) a)=jN.map λ_ fi=>aa fi.body:=(Uv w).bodies
theorem Pk{I H:Type}{f g:I->H}:∀(l:List I),l.map f=l.map g->∀x,x∈l->f x=g x
 | [],_,_,m=>(nomatch m)
 |y::l,h,x,m=>by
  rw[iw,iw,ER]at h;cases m with
  |head=>exact h.1
  |tail _ m=>exact Pk l h.2 x m
theorem abX{F:ef}{p:Params}(h:Ic F=HY p){q:Nat×List (List Nat×AV)}(m:q∈pX):(zT F q.1).map (·.hash)=q.2.map (λx=>xX p (strOf x.1)):=by unfold Ic HY at h;generalize pX=l at h m;exact Pk l h q m
theorem Zo{w:bX}{q:Nat×List (List Nat×AV)}(h:q∈pX):(zT (gJ w) q.1).map (·.hash)=q.2.map (λx=>xX w.params (strOf x.1)):=abX (xy w).hash h
end Mine
end
section
namespace Mine
open PySem
theorem Tr.FG(o:AO):∀(t:Tr) (i j:Nat),j≠i->(Tr.upd o t i).get j=t.get j
 | .nil,_,_,_=>rfl
 | .node v l r,0,j,h=>by
  rw[Tr.Nl];cases j with
  |zero=>exact absurd rfl h
  |succ j=>rw[Tr.eU,Tr.eU]
 | .node v l r,i+1,j,h=>by
  rw[Tr.Nv]
  by_cases hi:i % 2=0
  ·rw[if_pos hi];cases j with
   |zero=>rw[Tr.pV,Tr.pV]
   |succ j=>
    rw[Tr.eU,Tr.eU]
    by_cases hj:j % 2=0
    ·rw[if_pos hj,if_pos hj];exact Tr.FG o l (i / 2) (j / 2) (by exact I3 hi h hj)
    ·rw[if_neg hj,if_neg hj]
  ·rw[if_neg hi];cases j with
   |zero=>rw[Tr.pV,Tr.pV]
   |succ j=>
    rw[Tr.eU,Tr.eU]
    by_cases hj:j % 2=0
    ·rw[if_pos hj,if_pos hj]
    ·rw[if_neg hj,if_neg hj];exact Tr.FG o r (i / 2) (j / 2) (by exact IG hi h hj)
theorem Tr.yh(o:AO):∀(n:Nat) (t:Tr) (i:Nat),i+1<2 ^ n->(Tr.put n t i o).get i=aa o
 |0,t,i,h=>by simp at h
 |n+1,.nil,0,_=>by rw[Tr.L7,Tr.pV]
 |n+1,.node v l r,0,_=>by rw[Tr.LI,Tr.pV]
 |n+1,.nil,i+1,h=>by
  have h2:i / 2+1<2 ^ n:=by rw[LZ]at h;exact TQ h
  rw[Tr.Ma]
  by_cases hi:i % 2=0
  ·rw[if_pos hi,Tr.eU,if_pos hi];exact Tr.yh o n .nil _ h2
  ·rw[if_neg hi,Tr.eU,if_neg hi];exact Tr.yh o n .nil _ h2
 |n+1,.node v l r,i+1,h=>by
  have h2:i / 2+1<2 ^ n:=by rw[LZ]at h;exact TQ h
  rw[Tr.LK]
  by_cases hi:i % 2=0
  ·rw[if_pos hi,Tr.eU,if_pos hi];exact Tr.yh o n l _ h2
  ·rw[if_neg hi,Tr.eU,if_neg hi];exact Tr.yh o n r _ h2
noncomputable abbrev room:Nat:=1000000000
structure Upd(x:Nat)(o:AO)(U σ':ES):Prop where
 nx:σ'.next=U.next
 self:σ'.get x=aa o
 fr:∀y,y≠x->σ'.get y=U.get y
structure cV(x:Nat)(o:AO)(U σ':ES):Prop where
 nm:x=U.next
 nx:σ'.next=U.next+1
 self:σ'.get x=aa o
 fr:∀y,y≠x->σ'.get y=U.get y
theorem Upd.of{U:ES}{x:Nat}{o p:AO}(h:U.get x=aa p):Upd x o U (U.put x o):=
 ⟨rfl,by show(Tr.upd o U.t x).get x=aa o;rw[Tr.Cz o U.t x p h];simp,λy hy=>Tr.FG o U.t x y hy⟩
theorem cV.of{U:ES}{o:AO}(h:U.next<room):cV (U.add o).1 o U (U.add o).2:=by
 rw[ES.add_eq];refine⟨rfl,rfl,Tr.yh o 40 U.t U.next ?_,λy hy=>(Tr.r7 o 40 U.t U.next y).1 hy⟩;have:(1000000000:Nat)+1<2 ^ 40:=by decide
 show U.next+1<2 ^ 40
 have:U.next<1000000000:=h
 exact afU this
theorem Upd.get{x y:Nat}{o p:AO}{U σ':ES}(u:Upd x o U σ')(ne:y≠x)(h:U.get y=aa p):σ'.get y=aa p:=(u.fr y ne).trans h
theorem cV.get{x y:Nat}{o p:AO}{U σ':ES}(u:cV x o U σ')(ne:y≠x)(h:U.get y=aa p):σ'.get y=aa p:=(u.fr y ne).trans h
inductive VA(x m:Nat)(P:AV->ES->Prop)(vs:List AV)(σ2:ES):Prop
 |mk (ys:List AV) (r:AV) (σ3:ES) (g:σ2.get x=aa (.list ys)) (e:qd x (.list ys) m vs σ2=aa (r,σ3)) (p:P r σ3):VA x m P vs σ2
inductive U6(x m:Nat)(P:AV->ES->Prop)(vs:List AV)(σ2:ES):Prop
 |mk (ys:List (AK×AV)) (r:AV) (σ3:ES) (g:σ2.get x=aa (.dict ys)) (e:qd x (.dict ys) m vs σ2=aa (r,σ3)) (p:P r σ3):U6 x m P vs σ2
inductive Sm{γ:Type}(o:Option γ)(P:γ->Prop):Prop
 |mk (r:γ) (e:o=aa r) (p:P r):Sm o P
inductive Ed{γ δ:Type}(o:Option (γ×δ))(P:γ->δ->Prop):Prop
 |mk (r:γ) (s:δ) (e:o=aa (r,s)) (p:P r s):Ed o P
noncomputable def RW{I:Type}(r:R I)(P:I->ES->Prop):Prop:=@R.rec I (λ_=>Prop) P (λ_ _=>False) (λ_ _ a b=>a/\b) False r
section
variable{I H:Type}{P Q:I->ES->Prop}{r:R I}
theorem RW.mono(h:RW r P)(f:∀a U,P a U->Q a U):RW r Q:=by
 induction r with
 |ok a U=>exact f _ _ h
 |exc x U=>exact h
 |alt a b dh dj=>exact⟨dh h.1,dj h.2⟩
 |stuck=>exact h
theorem qW{f:I->ES->R H}{g:Nat->ES->R H}{P:H->ES->Prop}(h:RW r λa U=>RW (f a U) P):RW (gr f g r) P:=by
 induction r with
 |ok a U=>exact h
 |exc x U=>exact h.elim
 |alt a b dh dj=>exact⟨dh h.1,dj h.2⟩
 |stuck=>exact h
theorem jd{k:I->ES->R H}{P:H->ES->Prop}(h:RW r λa U=>RW (k a U) P):RW (bindR r k) P:=qW h
theorem qa{P:I->ES->Prop}(h:RW r P):RW (gP r) P:=qW h
theorem Ph{r:R Out}{P:AV->ES->Prop}(h:RW r λo U=>∃a,o= .v a/\P a U):RW (cA r) P:=qW (h.mono λo U ⟨a,e,p⟩=>by rw[e];exact p)
theorem fP{k:I->ES->R Out}{P:AV->ES->Prop}(h:RW r λa U=>RW (cA (k a U)) P):RW (cA (bindR r k)) P:=by
 induction r with
 |ok a U=>exact h
 |exc x U=>exact h.elim
 |alt a b dh dj=>exact⟨dh h.1,dj h.2⟩
 |stuck=>exact h
theorem tQ{k:I->ES->R Out}{P:Bool->ES->Prop}(h:RW r λa U=>RW (sJ (k a U)) P):RW (sJ (bindR r k)) P:=by
 induction r with
 |ok a U=>exact h
 |exc x U=>exact h.elim
 |alt a b dh dj=>exact⟨dh h.1,dj h.2⟩
 |stuck=>exact h
theorem Mn{k:I->ES->R Out}{P:Flow->ES->Prop}(h:RW r λa U=>RW (jk (k a U)) P):RW (jk (bindR r k)) P:=by
 induction r with
 |ok a U=>exact h
 |exc x U=>exact h.elim
 |alt a b dh dj=>exact⟨dh h.1,dj h.2⟩
 |stuck=>exact h
theorem Ms{k:I->ES->R Out}{P:Unit->ES->Prop}(h:RW r λa U=>RW (jz (k a U)) P):RW (jz (bindR r k)) P:=by
 induction r with
 |ok a U=>exact h
 |exc x U=>exact h.elim
 |alt a b dh dj=>exact⟨dh h.1,dj h.2⟩
 |stuck=>exact h
end
theorem bP{I γ:Type}{o:Option γ}{k:γ->R I}{a:γ}{P:I->ES->Prop}(e:o=aa a)(h:RW (k a) P):RW (bz o k) P:=by rw[e];exact h
theorem bQ{I:Type}{b:Bool}{r:R I}{P:I->ES->Prop}(e:b=ah)(h:RW r P):RW (cond b r .stuck) P:=by rw[e];exact h
theorem ue{cx:CX}{k:Nat}{v:AV}{U:ES}{kvs:List (Nat×AV)}(h:U.get cx.loc=aa (.ns kvs)):gH cx k ak v U=aa (U.put cx.loc (.ns (putN kvs k v))):=by show(U.gN cx.loc).map _=_;rw[qi h];rfl
theorem JP{γ:Type}{o:Option γ}{k:γ->R Out}{a:γ}{P:Unit->ES->Prop}(e:o=aa a)(h:RW (jz (k a)) P):RW (jz (bz o k)) P:=by rw[e];exact h
theorem bQU{b:Bool}{r:R Out}{P:Unit->ES->Prop}(e:b=ah)(h:RW (jz r) P):RW (jz (cond b r .stuck)) P:=by rw[e];exact h
theorem eO{γ:Type}{o:Option γ}{k:γ->R Out}{r:R Out}{a:γ}{P:AV->ES->Prop}(e:o=aa a)(h:RW (cA (k a)) P):RW (cA (o.elim r k)) P:=by rw[e];exact h
theorem Jt{γ:Type}{o:Option γ}{k:γ->R Out}{r:R Out}{P:AV->ES->Prop}(e:o=af)(h:RW (cA r) P):RW (cA (o.elim r k)) P:=by rw[e];exact h
theorem bO{γ:Type}{o:Option γ}{k:γ->R Out}{a:γ}{P:AV->ES->Prop}(e:o=aa a)(h:RW (cA (k a)) P):RW (cA (bz o k)) P:=by rw[e];exact h
theorem bC{b:Bool}{r:R Out}{P:AV->ES->Prop}(e:b=ah)(h:RW (cA r) P):RW (cA (cond b r .stuck)) P:=by rw[e];exact h
section
variable{C:EC}{FL:Ev->Nat->List AV->ES->R Out}{n d:Nat}{cx:CX}{U:ES}{P:AV->ES->Prop}
theorem qY(h:P .none U):RW (bw (ev C FL (n+1)) d cx .none U) P:=h
theorem Iw{b:Bool}(h:P (.bool b) U):RW (bw (ev C FL (n+1)) d cx (.tt b) U) P:=h
theorem cM{i:Int}(h:P (.int (.lit i)) U):RW (bw (ev C FL (n+1)) d cx (.int i) U) P:=h
theorem ahd{s:List Nat}(h:P (.str s) U):RW (bw (ev C FL (n+1)) d cx (.str s) U) P:=h
theorem cI{a:AV}(h:P a U):RW (bw (ev C FL (n+1)) d cx (.az a) U) P:=h
theorem aP{k:Nat}{kvs:List (Nat×AV)}{a:AV}(h1:U.get cx.loc=aa (.ns kvs))(h2:bN kvs k=aa a)(h:P a U):RW (bw (ev C FL (n+1)) d cx (.loc k) U) P:=
 show RW (cA (HB cx k U)) P from bO (qi h1) (bO h2 h)
theorem wB{k c:Nat}{a:AV}(h1:ri cx.cells k=aa c)(h2:U.get c=aa (.cell (aa a)))(h:P a U):RW (bw (ev C FL (n+1)) d cx (.bh k) U) P:=
 show RW (cA (Ik cx k U)) P from bO h1 (bO (RB h2) (bO rfl h))
theorem acW{o:CE}{a:Nat}(h:RW (bw (ev C FL n) d cx o U) λov σ1=>Sm (rY C ov a σ1) λv=>P v σ1):RW (bw (ev C FL (n+1)) d cx (.attr o a) U) P:=
 fP (h.mono λov σ1 ⟨v,e,p⟩=>by(try dsimp only);rw[e];exact p)
theorem zl{e:CE}(h:RW (bw (ev C FL n) d cx e U) λv σ1=>Sm (SV v) λr=>P r σ1):RW (bw (ev C FL (n+1)) d cx (.neg e) U) P:=
 fP (h.mono λov σ1 ⟨v,e,p⟩=>by(try dsimp only);rw[e];exact p)
theorem aeT{e:CE}(h:RW (bw (ev C FL n) d cx e U) λv σ1=>Sm (mE v) λt=>P (.bool (!t)) σ1):RW (bw (ev C FL (n+1)) d cx (.dU e) U) P:=
 fP (h.mono λov σ1 ⟨v,e,p⟩=>by(try dsimp only);rw[e];exact p)
theorem jt{o:jI}{a b:CE}(h:RW (bw (ev C FL n) d cx a U) λv σ1=>RW (bw (ev C FL n) d cx b σ1) λw σ2=>Ed (rD o v w σ2) P):RW (bw (ev C FL (n+1)) d cx (.bin o a b) U) P:=
 fP (h.mono λv σ1 q=>fP (q.mono λw σ2 ⟨r,σ3,e,p⟩=>by(try dsimp only);rw[e];exact p))
theorem gf{o:lO}{a b:CE}(h:RW (bw (ev C FL n) d cx a U) λv σ1=>RW (bw (ev C FL n) d cx b σ1) λw σ2=>Sm (jv C o v w σ2) λr=>P (.bool r) σ2):RW (bw (ev C FL (n+1)) d cx (.cmp a o b) U) P:=
 fP (h.mono λv σ1 q=>fP (q.mono λw σ2 ⟨r,e,p⟩=>by(try dsimp only);rw[e];exact p))
theorem kD{o i:CE}(h:RW (bw (ev C FL n) d cx o U) λv σ1=>RW (bw (ev C FL n) d cx i σ1) λw σ2=>Ed (rX C v w σ2) P):RW (bw (ev C FL (n+1)) d cx (.sub o i) U) P:=
 fP (h.mono λv σ1 q=>fP (q.mono λw σ2 ⟨r,σ3,e,p⟩=>by(try dsimp only);rw[e];exact p))
theorem zD{z a b:CE}(h:RW (fK (ev C FL n) d cx z U) λt σ1=>RW (bw (ev C FL n) d cx (cond t a b) σ1) P):RW (bw (ev C FL (n+1)) d cx (.ite z a b) U) P:=
 fP h
theorem HH{a b:CE}(h:RW (bw (ev C FL n) d cx a U) λv σ1=>∃t,mE v=aa t/\(t=ah->RW (bw (ev C FL n) d cx b σ1) P)/\(t=ak->P v σ1)):RW (bw (ev C FL (n+1)) d cx (.gu a b) U) P:=
 fP (h.mono λv σ1 ⟨t,e,p,q⟩=>by
  (try dsimp only)
  rw[e];cases t with
  |true=>exact p rfl
  |false=>exact q rfl)
theorem bG{P:List AV->ES->Prop}(h:P [] U):RW (ia (ev C FL n) d cx [] U) P:=h
theorem aW{c:CE}{l:List CE}{P:List AV->ES->Prop}(h:RW (bw (ev C FL n) d cx c U) λv σ1=>RW (ia (ev C FL n) d cx l σ1) λvs σ2=>P (v::vs) σ2):RW (ia (ev C FL n) d cx (c::l) U) P:=
 jd (h.mono λv σ1 q=>jd (q.mono λvs σ2 p=>p))
theorem iC{es:List CE}(h:RW (ia (ev C FL n) d cx es U) λvs σ1=>fits vs.length=ah/\σ1.next<room/\∀x σ',cV x (.list vs) σ1 σ'->P (.ref x) σ'):RW (bw (ev C FL (n+1)) d cx (.list es) U) P:=
 fP (h.mono λvs σ1 ⟨h1,h2,h3⟩=>by
  try dsimp only
  unfold ze;rw[h1];exact h3 _ _ (cV.of h2))
theorem zC{es:List CE}(h:RW (ia (ev C FL n) d cx es U) λvs σ1=>fits vs.length=ah/\σ1.next<room/\∀x σ',cV x (.tup vs) σ1 σ'->P (.ref x) σ'):RW (bw (ev C FL (n+1)) d cx (.tup es) U) P:=
 fP (h.mono λvs σ1 ⟨h1,h2,h3⟩=>by
  try dsimp only
  unfold ze;rw[h1];exact h3 _ _ (cV.of h2))
theorem abB(h1:U.next<room)(h:∀x σ',cV x (.dict []) U σ'->P (.ref x) σ'):RW (bw (ev C FL (n+1)) d cx (.dict []) U) P:=h _ _ (cV.of h1)
theorem acs{k v:CE}(h1:U.next<room)(h:∀x σ',cV x (.dict []) U σ'->RW (bw (ev C FL n) d cx k σ') λkv σ1=>RW (bw (ev C FL n) d cx v σ1) λvv σ2=>∃q,keyOf kv=aa q/\σ2.get x=aa (.dict [])/\∀σ3,Upd x (.dict [(q,vv)]) σ2 σ3->P (.ref x) σ3):
  RW (bw (ev C FL (n+1)) d cx (.dict [(k,v)]) U) P:=by
 show RW (cA (bindR (gP (bw (ev C FL n) d cx k (U.add (.dict [])).2)) λkv σ1=>bindR (gP (bw (ev C FL n) d cx v σ1)) λvv σ2=>bz (keyOf kv) λq=>Oc (U.add (.dict [])).1 q vv σ2)) P;refine fP (qa ((h _ _ (cV.of h1)).mono λkv σ1 q=>fP (qa (q.mono λvv σ2 ⟨q,e,g,p⟩=>?_))));exact bO e (bO (Di g) (bC rfl (p _ (Upd.of g))))
theorem aaZ(h1:U.next<room)(h:∀x σ',cV x (.slice .none .none) U σ'->P (.ref x) σ'):RW (bw (ev C FL (n+1)) d cx (.slice af af) U) P:=h _ _ (cV.of h1)
theorem dc{f:CE}{as:List CE}(h:RW (bw (ev C FL n) d cx f U) λfv σ1=>RW (ia (ev C FL n) d cx as σ1) λvs σ2=>iE C fv σ2=ah/\RW (dW (ev C FL n) d fv vs σ2) P):RW (bw (ev C FL (n+1)) d cx (.call f as) U) P:=
 fP (h.mono λfv σ1 q=>fP (q.mono λvs σ2 ⟨h1,h2⟩=>bC h1 h2))
theorem kR{o:CE}{m:Nat}{as:List CE}(h:RW (bw (ev C FL n) d cx o U) λov σ1=>RW (cA (vV C (ev C FL n) d cx m as ov σ1)) P):RW (bw (ev C FL (n+1)) d cx (.aY o m as) U) P:=fP h
theorem ug{x K dd m f:Nat}{as:List CE}{kvs:List (Nat×AV)}(h1:U.get x=aa (.inst K dd))(h2:C.fC K=ah)(h3:C.cls K m=aa (aa f))(h4:U.get dd=aa (.ns kvs))(h5:bN kvs m=af)(h6:C.may f=ah)
  (h:RW (ia (ev C FL n) d cx as U) λvs σ2=>RW (dW (ev C FL n) d (.adr f) (.ref x::vs) σ2) P):RW (cA (vV C (ev C FL n) d cx m as (.ref x) U)) P:=
 show RW (cA (CB C (ev C FL n) d cx x m as U)) P from bO h1 (bO h3 (bO rfl (bO (qi h4) (bC (by rw[h2,h5];rfl) (fP (h.mono λvs σ2 q=>bC h6 q))))))
theorem Zl{x m:Nat}{vs:List AV}{ys:List AV}{r:AV×ES}{σ2:ES}(g:σ2.get x=aa (.list ys))(e:qd x (.list ys) m vs σ2=aa r):Dh ah x m vs σ2=aa r:=by show(σ2.get x).bind _=_;rw[g];exact e
theorem Za{x m:Nat}{vs:List AV}{ys:List (AK×AV)}{r:AV×ES}{σ2:ES}(g:σ2.get x=aa (.dict ys))(e:qd x (.dict ys) m vs σ2=aa r):Dh ak x m vs σ2=aa r:=by show(σ2.gD x).bind _=_;rw[Di g];exact e
theorem zh{x m:Nat}{as:List CE}{xs:List AV}(h1:U.get x=aa (.list xs))(h2:(aH m fL||aH m iR||aH m f9)=ah)
  (h:RW (ia (ev C FL n) d cx as U) (VA x m P)):RW (cA (vV C (ev C FL n) d cx m as (.ref x) U)) P:=
 show RW (cA (CB C (ev C FL n) d cx x m as U)) P from bO h1 (bC h2 (fP (h.mono λvs σ2 q=>by obtain⟨ys,r,σ3,g,e,p⟩:=q;exact bO (Zl g e) p)))
theorem PJ{x m:Nat}{as:List CE}{kvs:List (AK×AV)}(h1:U.get x=aa (.dict kvs))(h2:(aH m jJ||aH m f9)=ah)
  (h:RW (ia (ev C FL n) d cx as U) (U6 x m P)):RW (cA (vV C (ev C FL n) d cx m as (.ref x) U)) P:=
 show RW (cA (CB C (ev C FL n) d cx x m as U)) P from bO h1 (bC h2 (fP (h.mono λvs σ2 q=>by obtain⟨ys,r,σ3,g,e,p⟩:=q;exact bO (Za g e) p)))
theorem adM{t m f:Nat}{as:List CE}(h1:C.oj t=af)(h2:C.rB t m=aa f)(h6:C.may f=ah)
  (h:RW (ia (ev C FL n) d cx as U) λvs σ2=>RW (dW (ev C FL n) d (.adr f) vs σ2) P):RW (cA (vV C (ev C FL n) d cx m as (.adr t) U)) P:=by
 show RW (cA ((C.oj t).elim _ _)) P;rw[h1];exact bO h2 (fP (h.mono λvs σ2 q=>bC h6 q))
variable{Pb:Bool->ES->Prop}
theorem uA{e:CE}(h:RW (fK (ev C FL n) d cx e U) λt σ1=>Pb (!t) σ1):RW (fK (ev C FL (n+1)) d cx (.dU e) U) Pb:=tQ h
theorem RG{a b:CE}(h:RW (fK (ev C FL n) d cx a U) λt σ1=>(t=ah->RW (fK (ev C FL n) d cx b σ1) Pb)/\(t=ak->Pb ak σ1)):RW (fK (ev C FL (n+1)) d cx (.gu a b) U) Pb:=
 tQ (h.mono λt σ1 ⟨p,q⟩=>by
  cases t with
  |true=>exact p rfl
  |false=>exact q rfl)
theorem zP{a b:CE}(h:RW (fK (ev C FL n) d cx a U) λt σ1=>(t=ah->Pb ah σ1)/\(t=ak->RW (fK (ev C FL n) d cx b σ1) Pb)):RW (fK (ev C FL (n+1)) d cx (.iZ a b) U) Pb:=
 tQ (h.mono λt σ1 ⟨p,q⟩=>by
  cases t with
  |true=>exact p rfl
  |false=>exact q rfl)
theorem Hi{a b c:CE}{o o':lO}(h:RW (bw (ev C FL n) d cx a U) λv σ1=>RW (bw (ev C FL n) d cx b σ1) λw σ2=>∃t,jv C o v w σ2=aa t/\(t=ak->Pb ak σ2)/\
  (t=ah->RW (bw (ev C FL n) d cx c σ2) λu σ3=>∃r,jv C o' w u σ3=aa r/\Pb r σ3)):RW (fK (ev C FL (n+1)) d cx (.k8 a o b o' c) U) Pb:=
 tQ (h.mono λv σ1 q=>tQ (q.mono λw σ2 ⟨t,e,p,q⟩=>by
  try dsimp only
  rw[e];cases t with
  |false=>exact p rfl
  |true=>exact tQ ((q rfl).mono λu σ3 ⟨r,e,p⟩=>by(try dsimp only);rw[e];exact p)))
theorem eV{c:CE}(hc:∀C ih d cx U,ud C ih d cx c U=yZ ih d cx c U)(h:RW (bw (ev C FL n) d cx c U) λv σ1=>Sm (mE v) λt=>Pb t σ1):RW (fK (ev C FL (n+1)) d cx c U) Pb:=by show RW (sJ (ud C (ev C FL n) d cx c U)) Pb;rw[hc];exact tQ (h.mono λv σ1 ⟨t,e,p⟩=>by(try dsimp only);rw[e];exact p)
end
section
variable{C:EC}{FL:Ev->Nat->List AV->ES->R Out}{n d:Nat}{cx:CX}{U:ES}
variable{Pu:Unit->ES->Prop}
theorem qo{k:Nat}{v:AV}{kvs:List (Nat×AV)}(h1:U.get cx.loc=aa (.ns kvs))(h:∀σ',Upd cx.loc (.ns (putN kvs k v)) U σ'->Pu () σ'):RW (nE C (ev C FL n) d cx (.nm k ak) v U) Pu:=by show RW (bz (gH cx k ak v U) λσ1=>.ok () σ1) Pu;exact bP (ue h1) (h _ (Upd.of h1))
theorem akE{o:CE}{a:Nat}{v:AV}(h:RW (bw (ev C FL n) d cx o U) λov σ1=>Sm (rW C ov a v σ1) (Pu ())):RW (nE C (ev C FL n) d cx (.at o a) v U) Pu:=
 jd (qa (h.mono λov σ1 ⟨σ2,e,p⟩=>by(try dsimp only);rw[e];exact p))
theorem Ds{o i:CE}{v:AV}(h:RW (bw (ev C FL n) d cx o U) λov σ1=>RW (bw (ev C FL n) d cx i σ1) λiv σ2=>Sm (tW ov iv v σ2) (Pu ())):RW (nE C (ev C FL n) d cx (.sb o i) v U) Pu:=
 jd (qa (h.mono λov σ1 q=>jd (qa (q.mono λiv σ2 ⟨σ3,e,p⟩=>by(try dsimp only);rw[e];exact p))))
theorem IL{ts:List CT}{v:AV}{vs:List AV}(h1:sj C v U=aa vs)(h2:aH ts.length vs.length=ah)(h:RW (r8 C (ev C FL n) (d+1) cx ts vs U) Pu):RW (nE C (ev C FL n) (d+1) cx (.tp ts) v U) Pu:=by exact bP h1 (bQ h2 h)
theorem Hr(h:Pu () U):RW (r8 C (ev C FL n) d cx [] [] U) Pu:=h
theorem sr{k:Nat}{v:AV}{ts:List CT}{vs:List AV}{kvs:List (Nat×AV)}(h1:U.get cx.loc=aa (.ns kvs))(h:∀σ',Upd cx.loc (.ns (putN kvs k v)) U σ'->RW (r8 C (ev C FL n) d cx ts vs σ') Pu):
  RW (r8 C (ev C FL n) d cx (.nm k ak::ts) (v::vs) U) Pu:=
 jd (qo (n:=n) (C:=C) (FL:=FL) (d:=d) h1 λσ' u=>h σ' u)
variable{P:Flow->ES->Prop}
theorem r4{e:CE}(h:RW (bw (ev C FL n) d cx e U) λ_ σ1=>P .next σ1):RW (kr C (ev C FL n) d cx (.expr e) U) P:=jd h
theorem kU{e:CE}(h:RW (bw (ev C FL n) d cx e U) λv σ1=>P (.ret v) σ1):RW (kr C (ev C FL n) d cx (.ret e) U) P:=jd h
theorem gV{t:CT}{e:CE}(h:RW (bw (ev C FL n) d cx e U) λv σ1=>RW (nE C (ev C FL n) d cx t v σ1) λ_ σ2=>P .next σ2):RW (kr C (ev C FL n) d cx (.asg t e) U) P:=
 jd (h.mono λv σ1 q=>jd q)
noncomputable def putAll(kvs:List (Nat×AV)):List (Nat×AV)->List (Nat×AV)
 | []=>kvs
 |p::l=>putAll (putN kvs p.1 p.2) l
structure ak0(x:Nat)(o:AO)(U σ':ES):Prop where
 nx:σ'.next=U.next
 self:σ'.get x=aa o
 fr:∀y,y≠x->σ'.get y=U.get y
theorem Upd.refl{x:Nat}{o:AO}(h:U.get x=aa o):Upd x o U U:=⟨rfl,h,λ_ _=>rfl⟩
theorem Mp:∀{l:List (Nat×AV)} {U:ES} {kvs:List (Nat×AV)},U.get cx.loc=aa (.ns kvs)->∃σ',storeAll cx l U=aa σ'/\Upd cx.loc (.ns (putAll kvs l)) U σ'
 | [],U,kvs,h=>⟨U,rfl,.refl h⟩
 |p::l,U,kvs,h=>by have u:=Upd.of (o:=.ns (putN kvs p.1 p.2)) h;refine aV (Mp (l:=l) u.self) λσ' e u'=>?_;refine⟨σ',?_,u'.nx.trans u.nx,u'.self,λy hy=>(u'.fr y hy).trans (u.fr y hy)⟩;show(gH cx p.1 ak p.2 U).bind _=_;rw[ue h];exact e
inductive QW(C:EC)(cx:CX)(ks:List Nat)(P:Flow->ES->Prop)(v:AV)(σ1:ES):Prop
 |mk (vs:List AV) (kvs:List (Nat×AV)) (e:sj C v σ1=aa vs) (h2:aH ks.length vs.length=ah) (g:σ1.get cx.loc=aa (.ns kvs)) (p:∀σ2,Upd cx.loc (.ns (putAll kvs (ks.zip vs).reverse)) σ1 σ2->P .next σ2):QW C cx ks P v σ1
theorem Cu{ks:List Nat}{e:CE}(h:RW (bw (ev C FL n) (d+1) cx e U) (QW C cx ks P)):
  RW (kr C (ev C FL n) (d+1) cx (.iO ks e) U) P:=
 jd (h.mono λv σ1 z=>by obtain⟨vs,kvs,e,h2,g,p⟩:=z;exact bP e (bQ h2 (aV (Mp (cx:=cx) (l:=(ks.zip vs).reverse) g) λσ' e' u=>bP e' (p _ u))))
theorem acC{o:CE}{a:Nat}{op:jI}{e:CE}(h:RW (bw (ev C FL n) d cx o U) λov σ1=>∃old,rY C ov a σ1=aa old/\RW (bw (ev C FL n) d cx e σ1) λv σ2=>∃r bA,DG op old v=aa r/\rW C ov a r σ2=aa bA/\P .next bA):
  RW (kr C (ev C FL n) d cx (.aug o a op e) U) P:=
 jd (qa (h.mono λov σ1 ⟨old,e1,q⟩=>bP e1 (jd (qa (q.mono λv σ2 ⟨r,bA,e2,e3,p⟩=>bP e2 (bP e3 p))))))
theorem ku{z:CE}{a b:List CS}(h:RW (fK (ev C FL n) d cx z U) λt σ1=>RW (cH (ev C FL n) d (.s cx (cond t a b)) σ1) P):RW (kr C (ev C FL n) d cx (.iff z a b) U) P:=jd h
theorem abQ(h:P .cont U):RW (kr C (ev C FL n) d cx .cont U) P:=h
theorem aeF{z:CE}{b:List CS}(h:RW (cH (ev C FL n) d (.dS cx z b) U) P):RW (kr C (ev C FL n) d cx (.dS z b) U) P:=qW (h.mono λf U p=>p)
theorem Gx{t:CT}{e:CE}{b:List CS}(h:RW (bw (ev C FL n) d cx e U) λv σ1=>Ed (uD C v σ1) λit σ2=>RW (cH (ev C FL n) d (.eF cx t it b) σ2) P):RW (kr C (ev C FL n) d cx (.eF t e b) U) P:=
 jd (h.mono λv σ1 ⟨it,σ2,e,q⟩=>by
  try dsimp only
  rw[e];exact qW (q.mono λf U p=>p))
theorem qh(h:P .next U):RW (cH (ev C FL (n+1)) d (.s cx []) U) P:=h
noncomputable def Cont(C:EC)(FL:Ev->Nat->List AV->ES->R Out)(n d:Nat)(cx:CX)(l:List CS)(P:Flow->ES->Prop)(f:Flow)(U:ES):Prop:=match f with
 | .next=>RW (cH (ev C FL n) d (.s cx l) U) P
 |f=>P f U
theorem bW{s:CS}{l:List CS}(h:RW (kr C (ev C FL n) d cx s U) (Cont C FL n d cx l P)):RW (cH (ev C FL (n+1)) d (.s cx (s::l)) U) P:=
 Mn (h.mono λf σ1 q=>by
  cases f with
  |next=>exact q
  |cont=>exact q
  |brk=>exact q
  |ret v=>exact q)
theorem Hz{z:CE}{b:List CS}(h:RW (fK (ev C FL n) d cx z U) λt σ1=>(t=ak->P .next σ1)/\(t=ah->RW (cH (ev C FL n) d (.s cx b) σ1) λf σ2=>match f with
  | .ret v=>P (.ret v) σ2
  | .brk=>P .next σ2
  |_=>RW (cH (ev C FL n) d (.dS cx z b) σ2) P)):RW (cH (ev C FL (n+1)) d (.dS cx z b) U) P:=by
 refine Mn (qW (jd (h.mono λt σ1 ⟨p,q⟩=>?_)));cases t with
 |false=>exact p rfl
 |true=>exact jd ((q rfl).mono λf σ2 z=>by cases f<;>exact z)
theorem HQ{k:Nat}{it:Nat}{b:List CS}{v:AV}{σ1:ES}{kvs:List (Nat×AV)}(h1:iW C it U=aa (aa v,σ1))(h2:σ1.get cx.loc=aa (.ns kvs))(h:∀σ2,Upd cx.loc (.ns (putN kvs k v)) σ1 σ2->RW (cH (ev C FL n) (d+1) (.s cx b) σ2) λf σ3=>match f with
  | .ret v=>P (.ret v) σ3
  | .brk=>P .next σ3
  |_=>RW (cH (ev C FL n) (d+1) (.eF cx (.nm k ak) it b) σ3) P):RW (cH (ev C FL (n+1)) (d+1) (.eF cx (.nm k ak) it b) U) P:=by
 refine qW ?_;show RW (bz (iW C it U) λp=>IJ (ev C FL n) (d+1) cx (.nm k ak) it b p) _;refine bP h1 (bP (ue h2) ?_);refine jd (qW (jd ((h _ (Upd.of h2)).mono λf σ3 z=>?_)));cases f with
 |next=>exact(OJ z)
 |cont=>exact(OJ z)
 |brk=>exact z
 |ret v=>exact z
where
 OJ {r:R Out} {P:Flow->ES->Prop} (h:RW (jk r) P):RW r λo U=>RW (outF o U) P:=by
  induction r with
  |ok a U=>exact h
  |exc x U=>exact h.elim
  |alt a b dh dj=>exact⟨dh h.1,dj h.2⟩
  |stuck=>exact h
theorem Hp{k:Nat}{it:Nat}{b:List CS}{σ1:ES}(h1:iW C it U=aa (af,σ1))(h:P .next σ1):RW (cH (ev C FL (n+1)) (d+1) (.eF cx (.nm k ak) it b) U) P:=by refine qW ?_;show RW (bz (iW C it U) λp=>IJ (ev C FL n) (d+1) cx (.nm k ak) it b p) _;rw[h1];exact h
variable{Pv:AV->ES->Prop}
inductive Wa(q:Nat)(P:ES->Prop)(bT:ES):Prop
 |mk (kvs:List (Nat×AV)) (g:bT.get q=aa (.ns kvs)) (p:∀fz,Upd q .iD bT fz->P fz):Wa q P bT
inductive Rf(C:EC)(FL:Ev->Nat->List AV->ES->R Out)(n d:Nat)(cx:CX)(elt:CE)(tgt:Nat)(test:Option CE)(cl:List (Nat×Nat))(Pv:AV->ES->Prop)(sv:AV)(σ1:ES):Prop
 |mk (it:Nat) (σ2:ES) (e1:uD C sv σ1=aa (it,σ2)) (e3:σ2.next+1<room)
  (q:∀acc q σ3 bA,cV acc (.list []) σ2 σ3->cV q (.ns []) σ3 bA->GQ (bA.get it)=ah/\RW (jz (ev C FL n d (.comp ⟨q,cx.fr,cl,cx.code⟩ elt tgt ak it test acc) bA)) λ_ bT=>Wa q (Pv (.ref acc)) bT):Rf C FL n d cx elt tgt test cl Pv sv σ1
theorem G3{elt src:CE}{tgt:Nat}{test:Option CE}{free:List Nat}{cl:List (Nat×Nat)}(e2:wc cx free=aa cl)(h:RW (bw (ev C FL n) d cx src U) (Rf C FL n d cx elt tgt test cl Pv)):
  RW (bw (ev C FL (n+1)) d cx (.comp elt tgt ak src test free) U) Pv:=by
 refine bO e2 (fP (h.mono λsv σ1 z=>?_));obtain⟨it,σ2,e1,e3,q⟩:=z;refine bO e1 ?_;have N1:=cV.of (o:=.list []) (show σ2.next<room by exact aA (bD e3) rfl);show RW (cA (Og (ev C FL n) d cx elt tgt ak test cl it (σ2.add (.list [])))) Pv;rcases hp:σ2.add (.list [])with⟨acc,σ3⟩;rw[hp]at N1;have N2:=cV.of (U:=σ3) (o:=.ns []) (by rw[N1.nx];exact e3);show RW (cA (Ou (ev C FL n) d cx elt tgt ak test cl it acc (σ3.add (.ns [])))) Pv;rcases hp2:σ3.add (.ns [])with⟨qq,bA⟩;rw[hp2]at N2;obtain⟨z1,z2⟩:=q _ _ _ _ N1 N2;refine bC z1 (fP (z2.mono λ_ bT z=>?_));obtain⟨kvs,g,p⟩:=z;exact bO (qi g) (p _ (Upd.of g))
theorem HD{elt:CE}{tgt it acc:Nat}{test:Option CE}{σ1:ES}(h1:iW C it U=aa (af,σ1))(h:Pu () σ1):RW (jz (ev C FL (n+1) (d+1) (.comp cx elt tgt ak it test acc) U)) Pu:=by show RW (jz (bz (iW C it U) λp=>HX (ev C FL n) (d+1) cx elt tgt ak it test acc p)) Pu;rw[h1];exact h
inductive Ss(acc:Nat)(P:ES->Prop)(w:AV)(bA:ES):Prop
 |mk (xs:List AV) (g:bA.get acc=aa (.list xs)) (e:fits xs.length=ah) (p:∀bT,Upd acc (.list (xs++[w])) bA bT->P bT):Ss acc P w bA
theorem GZ{elt:CE}{tgt it acc:Nat}{test:Option CE}{v:AV}{kvs:List (Nat×AV)}{σ1:ES}(h1:iW C it U=aa (aa v,σ1))(h2:σ1.get cx.loc=aa (.ns kvs))
  (h:∀σ2,Upd cx.loc (.ns (putN kvs tgt v)) σ1 σ2->RW (Ri (ev C FL n) (d+1) cx test σ2) λt σ3=>(t=ak->RW (jz (ev C FL n (d+1) (.comp cx elt tgt ak it test acc) σ3)) Pu)/\
   (t=ah->RW (bw (ev C FL n) (d+1) cx elt σ3) (Ss acc λbT=>RW (jz (ev C FL n (d+1) (.comp cx elt tgt ak it test acc) bT)) Pu))):
  RW (jz (ev C FL (n+1) (d+1) (.comp cx elt tgt ak it test acc) U)) Pu:=by
 show RW (jz (bz (iW C it U) λp=>HX (ev C FL n) (d+1) cx elt tgt ak it test acc p)) Pu;refine JP h1 (JP (ue h2) ?_);refine Ms ((h _ (Upd.of h2)).mono λt σ3 ⟨p,q⟩=>?_);cases t with
 |false=>exact p rfl
 |true=>refine Ms (qa ((q rfl).mono λw bA zz=>?_));obtain⟨xs,g,e,z⟩:=zz;exact JP (lP g) (bQU e (z _ (Upd.of g)))
theorem jw{a:Nat}{fi:FI}{as vs:List AV}{kvs:List (Nat×AV)}(h1:C.fn a=aa fi)(h2:C.spec a=af)(h3:fi.cells=[])(h4:zw fi.params fi.dflt as=vs)(h5:aH fi.params.length vs.length=ah)(h6:putAll [] (fi.params.zip vs)=kvs)(h7:U.next<room)
  (h:∀q σ1,cV q (.ns kvs) U σ1->RW (cH (ev C FL n) d (.s ⟨q,q,[],a⟩ fi.body) σ1) λf σ2=>RW (cA (rC f σ2)) Pv):RW (dW (ev C FL (n+1)) (d+1) (.adr a) as U) Pv:=by
 show RW (cA (C7 C FL (ev C FL n) d a as U)) Pv;refine eO h1 (Jt h2 ?_);show RW (cA (ux (ev C FL n) d fi as ⟨_,_,(eN fi.cells [] (U.add (.ns [])).2).1,a⟩ (eN fi.cells [] (U.add (.ns [])).2).2)) Pv;rw[h3];show RW (cA (ux (ev C FL n) d fi as ⟨(U.add (.ns [])).1,(U.add (.ns [])).1,[],a⟩ (U.add (.ns [])).2)) Pv;have N1:=cV.of (o:=.ns []) h7;generalize (U.add (.ns [])).1=q at*;generalize (U.add (.ns [])).2=bH at*;unfold ux;rw[h3,h4];have key:∀(ps:List Nat) (vs:List AV) (bH:ES) (k0:List (Nat×AV)),aH ps.length vs.length=ah->bH.get q=aa (.ns k0)->∃σ',bindAll ⟨q,q,[],a⟩ [] ps vs bH=aa σ'/\Upd q (.ns (putAll k0 (ps.zip vs))) bH σ':=by
  intro ps;induction ps with
  |nil=>
   intro vs bH k0 hl hg;cases vs with
   |nil=>exact⟨bH,rfl,.refl hg⟩
   |cons _ _=>exact cB hl
  |cons p ps ih=>
   intro vs bH k0 hl hg;cases vs with
   |nil=>exact cB hl
   |cons v vs=>have u:=Upd.of (o:=.ns (putN k0 p v)) hg;refine aV (ih vs _ _ hl u.self) λσ' e u'=>?_;refine⟨σ',?_,u'.nx.trans u.nx,u'.self,λy hy=>(u'.fr y hy).trans (u.fr y hy)⟩;show(gH ⟨q,q,[],a⟩ p ak v bH).bind _=_;rw[ue hg];exact e
 refine aV (key fi.params vs bH [] h5 N1.self) λσ' e u=>?_;rw[e];rw[h6]at u;have N2:cV q (.ns kvs) U σ':=⟨N1.nm,u.nx.trans N1.nx,u.self,λy hy=>(u.fr y hy).trans (N1.fr y hy)⟩;show RW (cA (wh q (RL (ev C FL n) d fi ⟨q,q,[],a⟩ σ'))) Pv;exact MV (bO (qi u.self) (Ml (h q σ' N2)))
where
 MV {F:Nat} {r:R Out} {P:AV->ES->Prop} (h:RW (cA r) P):RW (cA (wh F r)) P:=by
  induction r with
  |ok a U=>exact h
  |exc x U=>exact h.elim
  |alt a b dh dj=>exact⟨dh h.1,dj h.2⟩
  |stuck=>exact h
 Ml {r:R Flow} {P:AV->ES->Prop} (h:RW r λf σ2=>RW (cA (rC f σ2)) P):RW (cA (bindR r rC)) P:=fP h
theorem kZ{k:Nat}{as:List AV}{v:AV}{σ1:ES}(e:nj C (.bi k) as U=aa (v,σ1))(h:Pv v σ1):RW (dW (ev C FL (n+1)) (d+1) (.bi k) as U) Pv:=by show RW (cA (bz (nj C (.bi k) as U) dH)) Pv;rw[e];exact h
theorem sA{k:Nat}{as:List AV}{v:AV}{σ1:ES}(e:nj C (.ty k) as U=aa (v,σ1))(h:Pv v σ1):RW (dW (ev C FL (n+1)) (d+1) (.ty k) as U) Pv:=by show RW (cA (bz (nj C (.ty k) as U) dH)) Pv;rw[e];exact h
theorem ahl{a init:Nat}{fi:FI}{as:List AV}(h0:C.fn a=af)(h1:C.cls a dZ=aa (aa init))(h2:C.fC a=ah)(h3:C.fn init=aa fi)(h4:U.next+1<room)
  (h:∀dd x σ1 σ2,cV dd (.ns []) U σ1->cV x (.inst a dd) σ1 σ2->RW (dW (ev C FL n) d (.adr init) (.ref x::as) σ2) λv σ3=>v= .none/\Pv (.ref x) σ3):RW (dW (ev C FL (n+1)) (d+1) (.adr a) as U) Pv:=by
 show RW (cA (C7 C FL (ev C FL n) d a as U)) Pv;refine Jt h0 (bO h1 (bO rfl (bO h3 ?_)));rw[h2];have N1:=cV.of (o:=.ns []) (show U.next<room by exact aA (bD h4) rfl);have N2:=cV.of (U:=(U.add (.ns [])).2) (o:=.inst a (U.add (.ns [])).1) (by rw[N1.nx];exact h4);show RW (cA (bindR (dW (ev C FL n) d (.adr init) (.ref ((U.add (.ns [])).2.add (.inst a (U.add (.ns [])).1)).1::as) ((U.add (.ns [])).2.add (.inst a (U.add (.ns [])).1)).2) λv σ2=>newEnd _ v σ2)) Pv;refine fP ((h _ _ _ _ N1 N2).mono λv σ3 ⟨e,p⟩=>?_);rw[e];exact p
end
section
variable{C:EC}{FL:Ev->Nat->List AV->ES->R Out}{n d:Nat}{cx:CX}{U:ES}
inductive Tu(C:EC)(a:Nat)(P:AV->ES->Prop)(ov:AV)(σ1:ES):Prop
 |mk (x K dd:Nat) (kvs:List (Nat×AV)) (v:AV) (e:ov= .ref x) (h1:σ1.get x=aa (.inst K dd)) (h2:C.fC K=ah) (h3:C.cls K a=aa af) (h4:σ1.get dd=aa (.ns kvs)) (h5:bN kvs a=aa v) (h6:v.handed=ah) (p:P v σ1):Tu C a P ov σ1
theorem iL{o:CE}{a:Nat}{P:AV->ES->Prop}(h:RW (bw (ev C FL n) d cx o U) (Tu C a P)):
  RW (bw (ev C FL (n+1)) d cx (.attr o a) U) P:=
 acW (h.mono λov σ1 q=>by
  cases q with
  |mk x K dd kvs v e h1 h2 h3 h4 h5 h6 p=>exact⟨v,by rw[e];exact Nb h1 h2 h3 h4 h5 h6,p⟩)
inductive RX(C:EC)(a:Nat)(v:AV)(P:Unit->ES->Prop)(ov:AV)(σ1:ES):Prop
 |mk (x K dd:Nat) (kvs:List (Nat×AV)) (e:ov= .ref x) (h1:σ1.get x=aa (.inst K dd)) (h2:C.fC K=ah) (h3:C.cls K a=aa af) (h4:σ1.get dd=aa (.ns kvs)) (h5:fB kvs.length 999=ah) (p:∀σ2,Upd dd (.ns (putN kvs a v)) σ1 σ2->P () σ2):RX C a v P ov σ1
theorem um{o:CE}{a:Nat}{v:AV}{Pu:Unit->ES->Prop}(h:RW (bw (ev C FL n) d cx o U) (RX C a v Pu)):RW (nE C (ev C FL n) d cx (.at o a) v U) Pu:=
 akE (h.mono λov σ1 q=>by
  cases q with
  |mk x K dd kvs e h1 h2 h3 h4 h5 p=>exact⟨_,by rw[e];exact OG h1 h2 h3 h4 h5,p _ (Upd.of h4)⟩)
end
section
variable{sym:Nat->Nat->Option (List Nat)}
theorem aiB:(br sym).fn 37=aa QM:=by kernel_rfl
theorem Sp:(br sym).fn 79=aa Rg:=by kernel_rfl
theorem ahH:(br sym).fn 649=aa Pj:=by kernel_rfl
theorem agq:(br sym).fn 670=aa PI:=by kernel_rfl
theorem ahq:(br sym).fn 739=aa OQ:=by kernel_rfl
theorem ahB:(br sym).fn 802=aa Pr:=by kernel_rfl
theorem fM:(br sym).fC 82=ah:=by kernel_rfl
theorem ou:(br sym).fC 889=ah:=by kernel_rfl
theorem tU:(br sym).cls 82 bR=aa af:=by kernel_rfl
theorem MW:(br sym).cls 82 eg=aa af:=by kernel_rfl
theorem Zk:(br sym).cls 82 mh=aa af:=by kernel_rfl
theorem ab7:(br sym).cls 82 mC=aa af:=by kernel_rfl
theorem Mv:(br sym).cls 82 kN=aa af:=by kernel_rfl
theorem Z4:(br sym).cls 82 j0=aa af:=by kernel_rfl
theorem ng:(br sym).cls 82 bf=aa af:=by kernel_rfl
theorem Ω:(br sym).cls 82 dZ=aa (aa 79):=by kernel_rfl
theorem F9:(br sym).cls 889 kM=aa af:=by kernel_rfl
theorem Z9:(br sym).cls 889 cY=aa af:=by kernel_rfl
theorem YA:(br sym).cls 889 bR=aa (aa 649):=by kernel_rfl
theorem Xw:(br sym).cls 889 fN=aa (aa 670):=by kernel_rfl
theorem BN:(br sym).cls 889 d8=aa (aa 739):=by kernel_rfl
theorem Xm:(br sym).cls 889 iI=aa (aa 802):=by kernel_rfl
variable{FL:Ev->Nat->List AV->ES->R Out}{n d:Nat}{cx:CX}{U:ES}
theorem bx{x y:Nat}{o p:AO}(h1:U.get x=aa o)(h2:U.get y=aa p)(h:o≠p):x≠y:=λe=>by rw[e,h2]at h1;exact h (aX h1).symm
theorem kE{C:EC}{P:Flow->ES->Prop}(h:P .next U):Cont C FL (n+1) d cx [] P .next U:=h
theorem Ot{C:EC}{l:List CS}{P:Flow->ES->Prop}(h:RW (cH (ev C FL n) d (.s cx l) U) P):Cont C FL n d cx l P .next U:=h
theorem lQ{C:EC}{l:List CS}{v:AV}{P:Flow->ES->Prop}(h:P (.ret v) U):Cont C FL n d cx l P (.ret v) U:=h
theorem Cs{P:AV->ES->Prop}(h:P .none U):RW (cA (rC .next U)) P:=h
theorem kP{v:AV}{P:AV->ES->Prop}(h:P v U):RW (cA (rC (.ret v) U)) P:=h
structure eE(b:Nat)(U σ':ES)(M:Nat->Prop):Prop where
 le:U.next<=σ'.next
 ge:σ'.next<=U.next+b
 fr:∀y,y<U.next->¬M y->σ'.get y=U.get y
noncomputable abbrev Ct(num own:AV)(fd:Nat):List (Nat×AV):=[(bR,num),(eg,own),(mh,.ref fd),(mC,.none),(kN,.bool ak),(j0,.none)]
theorem aep{x dd:Nat}{num own:AV}(hx:U.get x=aa (.inst 82 dd))(hd:U.get dd=aa (.ns []))(lx:x<U.next)(ld:dd<U.next)(hr:U.next+2<room):
  RW (dW (ev (br sym) FL (n+12)) (d+1) (.adr 37) [.ref x,num,own] U) λv σ'=>v= .none/\∃fd,σ'.get dd=aa (.ns (Ct num own fd))/\eE 2 U σ' (· =dd):=by
 have sY:x≠dd:=bx hx hd nofun
 refine jw aiB rfl rfl rfl rfl rfl (aA (bD hr) rfl) λq σ1 u1=>?_;have hq:=u1.nm;have x1:=u1.get (aB (aT (aq lx) (ao hq)) rfl) hx;have d1:=u1.get (aB (aT (aq ld) (ao hq)) rfl) hd;have q1:=u1.self;have AE:q≠dd:=by exact bI (aT (aq ld) (ao hq)) rfl
 refine bW (gV (aP q1 rfl (um (aP q1 rfl ⟨x,82,dd,_,rfl,x1,fM,tU,d1,rfl,λσ2 u2=>?_⟩))));have x2:=u2.get sY x1;have q2:=u2.get AE q1;have d2:=u2.self;refine bW (gV (aP q2 rfl (um (aP q2 rfl ⟨x,82,dd,_,rfl,x2,fM,MW,d2,rfl,λσ3 u3=>?_⟩))));have x3:=u3.get sY x2;have q3:=u3.get AE q2;have d3:=u3.self;have e1:=u1.nx;have e2:=u2.nx;have e3:=u3.nx;refine bW (gV (abB (aA (aT (aD e3) (aT (aD e2) (aT (aL e1) (bD hr)))) rfl) λf bA u4=>?_));have hf:=u4.nm;have bg:=aT (au e1) (aT (ao e2) (aT (ao e3) (ao hf)));have e4:=u4.nx;have x4:=u4.get (aB (aT (aq lx) bg) rfl) x3;have d4:=u4.get (aB (aT (aq ld) bg) rfl) d3;have q4:=u4.get (aB (aT (aD hq) bg) rfl) q3;refine um (aP q4 rfl ⟨x,82,dd,_,rfl,x4,fM,Zk,d4,rfl,λbT u5=>?_⟩);have x5:=u5.get sY x4;have q5:=u5.get AE q4;have d5:=u5.self;refine bW (gV (qY (um (aP q5 rfl ⟨x,82,dd,_,rfl,x5,fM,ab7,d5,rfl,λfz u6=>?_⟩))));have x6:=u6.get sY x5;have q6:=u6.get AE q5;have d6:=u6.self;refine bW (gV (Iw (um (aP q6 rfl ⟨x,82,dd,_,rfl,x6,fM,Mv,d6,rfl,λdP u7=>?_⟩))));have x7:=u7.get sY x6;have q7:=u7.get AE q6;have d7:=u7.self;refine bW (gV (qY (um (aP q7 rfl ⟨x,82,dd,_,rfl,x7,fM,Z4,d7,rfl,λdR u8=>?_⟩))));refine kE (Cs ?_);have e5:=u5.nx;have e6:=u6.nx;have e7:=u7.nx;have e8:=u8.nx;refine⟨rfl,f,u8.self,by exact aR (aT (au e1) (aT (ao e2) (aT (ao e3) (aT (au e4) (aT (ao e5) (aT (ao e6) (aT (ao e7) (ao e8)))))))) rfl,by exact jn (aT (aD e8) (aT (aD e7) (aT (aD e6) (aT (aD e5) (aT (aL e4) (aT (aD e3) (aT (aD e2) (aL e1)))))))) rfl,λy hy ny=>?_⟩;rw[u8.fr y ny,u7.fr y ny,u6.fr y ny,u5.fr y ny,u4.fr y (aB (aT (aq hy) bg) rfl),u3.fr y ny,u2.fr y ny,u1.fr y (aB (aT (aq hy) (ao hq)) rfl)]
end
section
variable{C:EC}{FL:Ev->Nat->List AV->ES->R Out}{n d:Nat}{cx:CX}{U:ES}{sym:Nat->Nat->Option (List Nat)}
theorem dJ{k k':Nat}{v:AV}(h:aH k k'=ak):∀(kvs:List (Nat×AV)),bN (putN kvs k v) k'=bN kvs k'
 | []=>by rw[ND,pS];dsimp only;rw[h]
 |p::l=>by
  rw[yC];cases hp:aH p.1 k with
  |true=>dsimp only;rw[pS,pS];dsimp only;rw[cG hp,h]
  |false=>dsimp only;rw[pS,pS,dJ h l]
theorem Mm{k:Nat}{v:AV}:∀{kvs:List (Nat×AV)} {w:AV},bN kvs k=aa w->(putN kvs k v).length=kvs.length
 | [],w,h=>by cases h
 |p::l,w,h=>by
  rw[pS]at h;rw[yC];cases hp:aH p.1 k with
  |true=>rfl
  |false=>rw[hp]at h;dsimp only at h ⊢;rw[lH,lH,Mm h]
theorem ZG{x K dd a:Nat}{kvs:List (Nat×AV)}{v:AV}(h1:U.get x=aa (.inst K dd))(h2:C.fC K=ah)(h3:C.cls K a=aa af)(h4:U.get dd=aa (.ns kvs))(h5:kvs.length<=999):
  ∃σ2,rW C (.ref x) a v U=aa σ2/\Upd dd (.ns (putN kvs a v)) U σ2:=by
 exact⟨_,OG h1 h2 h3 h4 (Nat.ble_eq.mpr h5),Upd.of h4⟩
theorem aaC{x:Nat}{mk:List (AK×AV)}{k v:AV}(h:findD k mk=aa (aa v)):qd x (.dict mk) jJ [k] U=aa (v,U):=by show(findD k mk).map _=_;rw[h];rfl
noncomputable def mL(c:AI):List (Nat×AV):=[(l6,.ref 1004),(lG,.ref 1008),(m9,.none),(iU,.int (.lit 20000)),(pM,.int (.lit 0)),(kM,.int c),(mY,.int (.lit 8)),(lZ,.ref 1009),(cY,.ref 1010),
 (pI,.int (.lit 0)),(pB,.int (.lit 0)),(pJ,.ref 1011),(nZ,.ref 1012),(fZ,.none),(m5,.bool ah),(pR,.ref 1105)]
structure WX(U:ES)(w wn md ac:Nat)(c:Int)(kvs:List (Nat×AV))(mk:List (AK×AV)):Prop where
 a1:U.get w=aa (.inst 889 wn)
 a2:U.get wn=aa (.ns kvs)
 a3:bN kvs kM=aa (.int (.lit c))
 a4:bN kvs cY=aa (.ref md)
 a5:kvs.length<=999
 a6:bN kvs bR=af
 a7:bN kvs fN=af
 a8:bN kvs d8=af
 a9:bN kvs iI=af
 kI:U.get md=aa (.dict mk)
 D3:findD (.str [65,114,114,97,121]) mk=aa (aa (.ref ac))/\kvs=mL (.lit c)
structure di(U:ES)(w wn md ac:Nat)(c:Int):Prop where
 ex:∃kvs mk,WX U w wn md ac c kvs mk
 lt:w<U.next/\wn<U.next/\md<U.next
theorem di.keep{U σ':ES}{w wn md ac:Nat}{c:Int}(h:di U w wn md ac c)(le:U.next<=σ'.next)(hw:σ'.get w=U.get w)(hn:σ'.get wn=U.get wn)(hm:σ'.get md=U.get md):di σ' w wn md ac c:=
 ⟨by refine jB h.ex λkvs mk X=>?_;exact⟨kvs,mk,hw.trans X.a1,hn.trans X.a2,X.a3,X.a4,X.a5,X.a6,X.a7,X.a8,X.a9,hm.trans X.kI,X.D3⟩,by have:=h.lt;exact⟨aA (aT (aq this.1) (aM le)) rfl,aA (aT (aq this.2.1) (aM le)) rfl,aA (aT (aq this.2.2) (aM le)) rfl⟩⟩
theorem di.new{U σ':ES}{w wn md ac x:Nat}{o:AO}{c:Int}(h:di U w wn md ac c)(u:cV x o U σ'):di σ' w wn md ac c:=by have:=h.lt;have e:=u.nm;exact h.keep (by have:=u.nx;exact aR (au this) rfl) (u.fr _ (aB (aT (aq this.1) (ao e)) rfl)) (u.fr _ (aB (aT (aq this.2.1) (ao e)) rfl)) (u.fr _ (aB (aT (aq this.2.2) (ao e)) rfl))
theorem di.upd{U σ':ES}{w wn md ac x:Nat}{o:AO}{c:Int}(h:di U w wn md ac c)(u:Upd x o U σ')(hx:x≠w/\x≠wn/\x≠md):di σ' w wn md ac c:=
 h.keep (by have:=u.nx;exact aR (ao this) rfl) (u.fr _ hx.1.symm) (u.fr _ hx.2.1.symm) (u.fr _ hx.2.2.symm)
theorem di.grow{U σ':ES}{w wn md ac b:Nat}{c:Int}{M:Nat->Prop}(h:di U w wn md ac c)(g:eE b U σ' M)(h1:¬M w)(h2:¬M wn)(h3:¬M md):di σ' w wn md ac c:=
 h.keep g.le (g.fr _ h.lt.1 h1) (g.fr _ h.lt.2.1 h2) (g.fr _ h.lt.2.2 h3)
theorem adz:(br sym).may 649=ah:=by kernel_rfl
theorem acJ:(br sym).may 670=ah:=by kernel_rfl
theorem CU:(br sym).may 739=ah:=by kernel_rfl
theorem acZ:(br sym).may 802=ah:=by kernel_rfl
theorem QZ:(br sym).may 82=ah:=by kernel_rfl
theorem ahL:(br sym).may 37=ah:=by kernel_rfl
theorem ai8:(br sym).rB 40 dZ=aa 37:=by kernel_rfl
theorem aky:(br sym).oj 40=af:=by kernel_rfl
theorem ahR:(br sym).fn 82=af:=by kernel_rfl
theorem ZX{w wn md ac:Nat}{c:Int}(W:di U w wn md ac c)(hr:U.next+1<room):
  RW (dW (ev (br sym) FL (n+8)) (d+1) (.adr 649) [.ref w] U) λv σ'=>v= .int (.lit (c+1))/\di σ' w wn md ac (c+1)/\eE 1 U σ' (· =wn):=by
 refine jB W.ex λkvs mk pA=>?_;have h1:=pA.a1;have h2:=pA.a2;have h3:=pA.a3;have h4:=pA.a4;have h5:=pA.a5;have h6:=pA.a6;have h7:=pA.a7;have h8:=pA.a8;have h9:=pA.a9;have dO:=pA.kI;have h11:=pA.D3;refine cU W.lt λl1 l2 l3=>?_;have nwn:w≠wn:=bx h1 h2 nofun
 have nmn:md≠wn:=bx dO h2 nofun
 refine jw ahH rfl rfl rfl rfl rfl (aA (bD hr) rfl) λq σ1 u1=>?_;have hq:=u1.nm;have w1:=u1.get (aB (aT (aq l1) (ao hq)) rfl) h1;have n1:=u1.get (aB (aT (aq l2) (ao hq)) rfl) h2;have q1:=u1.self;have e1:=u1.nx;refine aV (ZG (C:=br sym) (v:=.int (.lit (c+1))) w1 ou F9 n1 h5) λσ2 s2 u2=>?_;refine bW (acC (aP q1 rfl ⟨_,Nb w1 ou F9 n1 h3 rfl,cM ⟨.int (.lit (c+1)),σ2,?_,s2,?_⟩⟩))
 ·show(uo (.lit c) (.lit 1)).map AV.int=_;show aa (AV.int (AI.lit (fq (c+1))))=_;rw[iK]
 have w2:=u2.get nwn w1;have n2:=u2.self;have q2:=u2.get (bI (aT (aq l2) (ao hq)) rfl) q1;have e2:=u2.nx;refine bW (kU (iL (aP q2 rfl ⟨w,889,wn,_,_,rfl,w2,ou,F9,n2,gF _ _ _,rfl,?_⟩)));refine lQ (kP ⟨rfl,⟨⟨_,mk,w2,n2,gF _ _ _,?_,?_,?_,?_,?_,?_,u2.get nmn (u1.get (aB (aT (aq l3) (ao hq)) rfl) dO),h11.1,by rw[h11.2];rfl⟩,by exact⟨aA (aT (aq l1) (aT (au e1) (ao e2))) rfl,aA (aT (aq l2) (aT (au e1) (ao e2))) rfl,aA (aT (aq l3) (aT (au e1) (ao e2))) rfl⟩⟩,by exact aR (aT (au e1) (ao e2)) rfl,by exact jn (aT (aD e2) (aL e1)) rfl,λy hy ny=>?_⟩)
 ·rw[dJ rfl];exact h4
 ·rw[Mm h3];exact h5
 ·rw[dJ rfl];exact h6
 ·rw[dJ rfl];exact h7
 ·rw[dJ rfl];exact h8
 ·rw[dJ rfl];exact h9
 ·rw[u2.fr y ny,u1.fr y (aB (aT (aq hy) (ao hq)) rfl)]
theorem YI{w wn md ac:Nat}{c:Int}(W:di U w wn md ac c)(hr:U.next+1<room):
  RW (dW (ev (br sym) FL (n+9)) (d+1) (.adr 670) [.ref w,.str [65,114,114,97,121]] U) λv σ'=>v= .ref ac/\di σ' w wn md ac c/\eE 1 U σ' (λ_=>False):=by
 refine jB W.ex λkvs mk zV=>?_;have h1:=zV.a1;have h2:=zV.a2;have h4:=zV.a4;have dO:=zV.kI;have h11:=zV.D3;refine cU W.lt λl1 l2 l3=>?_;refine jw agq rfl rfl rfl rfl rfl (aA (bD hr) rfl) λq σ1 u1=>?_;have hq:=u1.nm;have w1:=u1.get (aB (aT (aq l1) (ao hq)) rfl) h1;have n1:=u1.get (aB (aT (aq l2) (ao hq)) rfl) h2;have m1:=u1.get (aB (aT (aq l3) (ao hq)) rfl) dO;have q1:=u1.self;have e1:=u1.nx;refine bW (gV (kR (iL (aP q1 rfl ⟨w,889,wn,_,_,rfl,w1,ou,Z9,n1,h4,rfl,PJ m1 rfl (aW (aP q1 rfl (bG ⟨_,_,_,m1,aaC h11.1,qo q1 λσ2 u2=>?_⟩)))⟩))));have e2:=u2.nx;refine bW (kU (zD (eV (λ_ _ _ _ _=>rfl) (gf (aP u2.self rfl (qY ⟨ak,rfl,ak,rfl,aP u2.self rfl ?_⟩))))));have W2:=(W.new u1).upd u2 (by show q≠w/\q≠wn/\q≠md;exact⟨bI (aT (aq l1) (ao hq)) rfl,bI (aT (aq l2) (ao hq)) rfl,bI (aT (aq l3) (ao hq)) rfl⟩);exact lQ (kP ⟨rfl,W2,by exact aR (aT (au e1) (ao e2)) rfl,by exact jn (aT (aD e2) (aL e1)) rfl,λy hy _=>by rw[u2.fr y (by show y≠q;exact aB (aT (aq hy) (ao hq)) rfl),u1.fr y (aB (aT (aq hy) (ao hq)) rfl)]⟩)
structure IsT(U:ES)(x dd:Nat)(num own:AV)(fd l:Nat):Prop where
 x:U.get x=aa (.inst 82 dd)
 d:U.get dd=aa (.ns (Ct num own fd++[(bf,.ref l)]))
theorem ady{x dd l:Nat}{num own:AV}(hx:U.get x=aa (.inst 82 dd))(hd:U.get dd=aa (.ns []))(lx:x<U.next)(ld:dd<U.next)(hr:U.next+3<room):
  RW (dW (ev (br sym) FL (n+16)) (d+2) (.adr 79) [.ref x,num,own,.ref l] U) λv σ'=>v= .none/\∃fd,IsT σ' x dd num own fd l/\eE 3 U σ' (· =dd):=by
 have sY:x≠dd:=bx hx hd nofun
 refine jw Sp rfl rfl rfl rfl rfl (aA (bD hr) rfl) λq σ1 u1=>?_;have hq:=u1.nm;have x1:=u1.get (aB (aT (aq lx) (ao hq)) rfl) hx;have d1:=u1.get (aB (aT (aq ld) (ao hq)) rfl) hd;have q1:=u1.self;have e1:=u1.nx;refine bW (r4 (kR (cI (adM aky ai8 ahL (aW (aP q1 rfl (aW (aP q1 rfl (aW (aP q1 rfl (bG ((aep x1 d1 (aA (aT (aq lx) (au e1)) rfl) (aA (aT (aq ld) (au e1)) rfl) (cX (aT (aL e1) (bD hr)) rfl)).mono λv σ2 z=>?_))))))))))));refine iY z λdQ fd d2 g=>?_;try clear z;subst dQ
 have x2:=(g.fr x (aA (aT (aq lx) (au e1)) rfl) sY).trans x1;have q2:=(g.fr q (aA (aT (aD hq) (au e1)) rfl) (bI (aT (aq ld) (ao hq)) rfl)).trans q1;refine bW (gV (zD (eV (λ_ _ _ _ _=>rfl) (gf (aP q2 rfl (qY ⟨ak,rfl,ak,rfl,aP q2 rfl (um (aP q2 rfl ⟨x,82,dd,_,rfl,x2,fM,ng,d2,rfl,λσ3 u3=>?_⟩))⟩))))));have e3:=u3.nx;have g1:=g.le;have g2:=g.ge;refine kE (Cs ⟨rfl,fd,⟨u3.get sY x2,u3.self⟩,by exact aR (aT (au e1) (aT (aM g1) (ao e3))) rfl,by exact jn (aT (aD e3) (aT (dX g2) (aL e1))) rfl,λy hy ny=>?_⟩);rw[u3.fr y ny,g.fr y (aA (aT (aq hy) (au e1)) rfl) ny,u1.fr y (aB (aT (aq hy) (ao hq)) rfl)]
theorem Rz{l:Nat}{num own:AV}(hr:U.next+5<room):
  RW (dW (ev (br sym) FL (n+17)) (d+3) (.adr 82) [num,own,.ref l] U) λv σ'=>∃x dd fd,v= .ref x/\IsT σ' x dd num own fd l/\U.next<=x/\U.next<=dd/\x<σ'.next/\dd<σ'.next/\eE 5 U σ' (λ_=>False):=by
 refine ahl ahR Ω fM Sp (cX (bD hr) rfl) λdd x σ1 σ2 u1 u2=>?_;have h1:=u1.nm;have h2:=u2.nm;have e1:=u1.nx;have e2:=u2.nx;refine(ady u2.self (u2.get (aB (aT (aD h1) (aT (au e1) (ao h2))) rfl) u1.self) (aA (aT (aD h2) (au e2)) rfl) (aA (aT (aD h1) (aT (au e1) (au e2))) rfl) (cX (aT (aL e2) (aT (aL e1) (bD hr))) rfl)).mono λv σ3 z=>?_;refine iY z λig fd t g=>?_;try clear z;subst ig
 have g1:=g.le;have g2:=g.ge;refine⟨rfl,x,dd,fd,rfl,t,by exact aR (aT (au e1) (ao h2)) rfl,by exact aR (ao h1) rfl,by exact aA (aT (aD h2) (aT (au e2) (aM g1))) rfl,by exact aA (aT (aD h1) (aT (au e1) (aT (au e2) (aM g1)))) rfl,by exact aR (aT (au e1) (aT (au e2) (aM g1))) rfl,by exact jn (aT (dX g2) (aT (aL e2) (aL e1))) rfl,λy hy _=>?_⟩;rw[g.fr y (aA (aT (aq hy) (aT (au e1) (au e2))) rfl) (aB (aT (aq hy) (ao h1)) rfl),u2.fr y (aB (aT (aq hy) (aT (au e1) (ao h2))) rfl),u1.fr y (aB (aT (aq hy) (ao h1)) rfl)]
inductive LF(ys:List AV)(N w wn md ac:Nat)(c:Int)(U:ES)(v:AV)(σ':ES):Prop
 |mk (x dd fd l:Nat) (e:v= .ref x) (t:IsT σ' x dd (.int (.lit (c+1))) (.ref ac) fd l) (y1:σ'.get l=aa (.list ys)) (W:di σ' w wn md ac (c+1)) (z1:U.next<=x) (z2:U.next<=dd) (z3:U.next<=l) (z4:x<σ'.next) (z5:dd<σ'.next) (z6:l<σ'.next) (g:eE N U σ' (· =wn)):LF ys N w wn md ac c U v σ'
theorem BV{w wn md ac l0:Nat}{c:Int}{xs:List AV}(W:di U w wn md ac c)(hl:U.get l0=aa (.list xs))(ll:l0<U.next)(hf:fits xs.length=ah)(hr:U.next+9<room):
  RW (dW (ev (br sym) FL (n+22)) (d+4) (.adr 739) [.ref w,.ref l0] U) (LF xs 9 w wn md ac c U):=by
 refine jB (id W.ex) λkvs mk I1=>?_;have h1:=I1.a1;have h2:=I1.a2;have h6:=I1.a6;refine cU W.lt λl1 l2 l3=>?_;have nln:l0≠wn:=bx hl h2 nofun
 refine jw ahq rfl rfl rfl rfl rfl (aA (bD hr) rfl) λq σ1 u1=>?_;have hq:=u1.nm;have q1:=u1.self;have e1:=u1.nx;refine bW (kU (dc (cI (aW (kR (aP q1 rfl (ug (u1.get (aB (aT (aq l1) (ao hq)) rfl) h1) ou YA (u1.get (aB (aT (aq l2) (ao hq)) rfl) h2) h6 adz (bG ((ZX (W.new u1) (cX (aT (aL e1) (bD hr)) rfl)).mono λv σ2 z=>?_)))))))));refine cU z λjW W2 g2=>?_;try clear z;subst jW
 have a2:=g2.le;have b2:=g2.ge;have q2:=(g2.fr q (aA (aT (aD hq) (au e1)) rfl) (bI (aT (aq l2) (ao hq)) rfl)).trans q1;refine jB (id W2.ex) λakA mk2 I7=>?_;have k1:=I7.a1;have k2:=I7.a2;have k7:=I7.a7;refine aW (kR (aP q2 rfl (ug k1 ou Xw k2 k7 acJ (aW (ahd (bG ((YI W2 (cX (aT (dX b2) (aT (aL e1) (bD hr))) rfl)).mono λv σ3 z=>?_)))))));refine cU z λuS W3 g3=>?_;try clear z;subst uS
 have a3:=g3.le;have bg:=aT (au e1) (aT (aM a2) (aM a3));have b3:=g3.ge;have q3:=(g3.fr q (aA (aT (aD hq) (aT (au e1) (aM a2))) rfl) nofun).trans q2;have l3':σ3.get l0=aa (.list xs):=by rw[g3.fr l0 (aA (aT (aq ll) (aT (au e1) (aM a2))) rfl) nofun,g2.fr l0 (aA (aT (aq ll) (au e1)) rfl) nln,u1.fr l0 (aB (aT (aq ll) (ao hq)) rfl)];exact hl
 have N4:=cV.of (U:=σ3) (o:=.list xs) (aA (aT (dX b3) (aT (dX b2) (aT (aL e1) (bD hr)))) rfl);refine aW (dc (cI (aW (aP q3 rfl (bG ⟨rfl,sA (v:=.ref (σ3.add (.list xs)).1) (σ1:=(σ3.add (.list xs)).2) ?_ ?_⟩)))))
 ·show G4 [.ref l0] σ3=_;show(σ3.gL l0).elim _ _=_;rw[lP l3'];show cond (fits xs.length) _ af=_;rw[hf];rfl
 generalize (σ3.add (.list xs)).1=l at*;generalize (σ3.add (.list xs)).2=bA at*;have DU:=N4.nm;have e4:=N4.nx;refine bG ⟨QZ,(Rz (cX (aT (aL e4) (aT (dX b3) (aT (dX b2) (aT (aL e1) (bD hr))))) rfl)).mono λv bT z=>?_⟩;refine Mx z λx dd fd Aj t z1 z2 z3 z4 g5=>?_;try clear z;subst Aj
 have a5:=g5.le;have b5:=g5.ge;refine lQ (kP ⟨x,dd,fd,l,rfl,t,(g5.fr l (aA (aT (aD DU) (au e4)) rfl) nofun).trans N4.self,(W3.new N4).grow g5 nofun nofun nofun,by exact aR (aT bg (aT (au e4) (aM z1))) rfl,by exact aR (aT bg (aT (au e4) (aM z2))) rfl,by exact aR (aT bg (ao DU)) rfl,by exact z3,by exact z4,by exact aA (aT (aD DU) (aT (au e4) (aM a5))) rfl,by exact aR (aT bg (aT (au e4) (aM a5))) rfl,by exact jn (aT (dX b5) (aT (aL e4) (aT (dX b3) (aT (dX b2) (aL e1))))) rfl,λy hy ny=>?_⟩);rw[g5.fr y (aA (aT (aq hy) (aT bg (au e4))) rfl) nofun,N4.fr y (aB (aT (aq hy) (aT bg (ao DU))) rfl),g3.fr y (aA (aT (aq hy) (aT (au e1) (aM a2))) rfl) nofun,g2.fr y (aA (aT (aq hy) (au e1)) rfl) ny,u1.fr y (aB (aT (aq hy) (ao hq)) rfl)]
theorem XO{w:Nat}{m:Int}(hm:m<=20000)(hr:U.next+1<room):
  RW (dW (ev (br sym) FL (n+6)) (d+1) (.adr 802) [.ref w,.int (.lit m)] U) λv σ'=>v= .none/\eE 1 U σ' (λ_=>False):=by
 refine jw ahB rfl rfl rfl rfl rfl (aA (bD hr) rfl) λq σ1 u1=>?_;have hq:=u1.nm;have e1:=u1.nx;refine bW (ku (eV (λ_ _ _ _ _=>rfl) (gf (aP u1.self rfl (cI ⟨ak,?_,ak,rfl,qh (kE (Cs ⟨rfl,by exact aR (au e1) rfl,by exact jn (aL e1) rfl,λy hy _=>u1.fr y (aB (aT (aq hy) (ao hq)) rfl)⟩))⟩)))));show uM (.lit 20000) (.lit m)=aa ak;show aa (ltI 20000 m)=aa ak;rw[gG,decide_eq_false (Int.not_lt_of_ge hm)]
end
section
variable{C:EC}{FL:Ev->Nat->List AV->ES->R Out}{n d:Nat}{cx:CX}{U:ES}{sym:Nat->Nat->Option (List Nat)}
theorem Fd{x:Nat}{ws:List AV}{a:AV}(h:U.get x=aa (.list (ws++[a]))):rX C (.ref x) (.int (.lit (-1))) U=aa (a,U):=by
 show(U.gL x).bind _=_;rw[lP h];have e:uF (ws++[a]).length (-1)=aa ws.length:=by show(match cZ 0 (ws++[a]).length with|true=>aa ((ws++[a]).length-(0+1))|false=>af)=_;rw[fX,jC,kY,decide_eq_true (IP)];rfl
 show(uF (ws++[a]).length (-1)).bind _=_;rw[e];show cond (ltI (-9000000000000000000) (-1)&&ltI (-1) 9000000000000000000) (jH (λv=>(v,U)) (ws++[a])[ws.length]?) af=_;rw[show(ltI (-9000000000000000000) (-1)&&ltI (-1) 9000000000000000000)=ah from by decide+kernel];show jH _ _=_;rw[Wr (cN _),L2];rfl
theorem pT{x:Nat}{xs:List AV}{i:Nat}{a:AV}(h:U.get x=aa (.list xs))(hi:xs[i]?=aa a)(hz:i<1000000000):rX C (.ref x) (.int (.lit (.ofNat i))) U=aa (a,U):=by
 have hl:i<xs.length:=by
  rcases Nat.lt_or_ge i xs.length with q|q
  ·exact q
  ·rw[Ex q]at hi;exact aN hi
 show(U.gL x).bind _=_;rw[lP h];have e:uF xs.length (.ofNat i)=aa i:=by show(match cZ i xs.length with|true=>aa i|false=>af)=_;rw[kY,decide_eq_true hl]
 show(uF xs.length (.ofNat i)).bind _=_;rw[e];show cond (ltI (-9000000000000000000) (.ofNat i)&&ltI (.ofNat i) 9000000000000000000) (jH (λv=>(v,U)) xs[i]?) af=_;rw[show(ltI (-9000000000000000000) (.ofNat i)&&ltI (.ofNat i) 9000000000000000000)=ah from by rw[gG,gG,bJ];exact⟨decide_eq_true (by show(-9000000000000000000:Int)<(i:Int);exact aiO),decide_eq_true (by show(i:Int)<9000000000000000000;exact aif hz)⟩]
 show jH _ _=_;rw[hi];rfl
theorem Nz{x y:Nat}{ws:List AV}{a:AV}(hx:U.get x=aa (.list (ws++[a])))(hy:U.get y=aa (.list [])):jv C .NotEq (.ref x) (.ref y) U=aa ah:=by show(fG U 8 (.ref x) (.ref y)).map (!·)=_;rw[we hx hy,fT,decide_eq_false (by rw[fX,jC,List.length_nil];exact ah0)];rfl
theorem Ng{x y:Nat}(hx:U.get x=aa (.list []))(hy:U.get y=aa (.list [])):jv C .NotEq (.ref x) (.ref y) U=aa ak:=by show(fG U 8 (.ref x) (.ref y)).map (!·)=_;rw[we hx hy];rfl
theorem zb{x:Nat}{xs:List AV}(h:U.get x=aa (.list xs))(hf:xs.length<=1000000):nj C (.bi 2) [.ref x] U=aa (.int (.lit (.ofNat xs.length)),U):=by show jH _ ((U.gL x).elim _ _)=_;rw[lP h];show jH _ (cond (fits xs.length) (aa xs.length) af)=_;rw[show fits xs.length=ah from Nat.ble_eq.mpr hf];show aa (AV.int (.lit (fq xs.length)),U)=_;rw[iK];rfl
theorem Dd{i j:Nat}:jv C .Eq (.int (.lit (.ofNat i))) (.int (.lit (.ofNat j))) U=aa (decide (i=j)):=by
 show aa (iP (.ofNat i) (.ofNat j))=_;rw[kq]
 congr 1
 exact decide_eq_decide.mpr ⟨λh=>LA h,λh=>by rw[h]⟩
theorem YD{x:Nat}{ws:List AV}{a:AV}(hf:ws.length<1000000):qd x (.list (ws++[a])) f9 [] U=aa (a,U.put x (.list ws)):=by show cond (fits (ws++[a]).length) (((ws++[a])[(ws++[a]).length- 1]?).map λv=>(v,U.put x (.list ((ws++[a]).eraseIdx ((ws++[a]).length- 1))))) af=_;rw[fX,jC,Nat.add_sub_cancel];rw[show fits (ws.length+1)=ah from Nat.ble_eq.mpr (qp (eX hf) rfl)];rw[Wr (cN _),L2];show aa (a,U.put x (.list ((ws++[a]).eraseIdx ws.length)))=_;rw[List.eraseIdx_append_of_length_le (cN _),L2];simp
theorem F4{x:Nat}{ws:List AV}{a:AV}(hf:ws.length<=1000000):qd x (.list ws) fL [a] U=aa (.none,U.put x (.list (ws++[a]))):=by show cond (fits ws.length) (aa (AV.none,U.put x (.list (ws++[a])))) af=_;rw[show fits ws.length=ah from Nat.ble_eq.mpr hf];rfl
noncomputable def dictOf(st:List Int):List (AK×AV):=st.reverse.map λi=>(.int (.lit i),.bool ah)
theorem Fo(i:Int)(st:List Int):dictOf (i::st)=dictOf st++[(.int (.lit i),.bool ah)]:=by unfold dictOf;rw[rQ,qJ];rfl
theorem LD(st:List Int):(dictOf st).length=st.length:=by unfold dictOf;rw[tN,xN]
theorem yP(i j:Int):ja (.int (.lit i)) (.int (.lit j))=aa (decide (i=j)):=by show aa (iP i j)=_;rw[kq]
theorem F6{i:Int}:∀{l:List Int} {r:List (AK×AV)},i ∉ l->qe (ja (.int (.lit i))) ((l.map λi=>(AK.int (.lit i),AV.bool ah))++r)=qe (ja (.int (.lit i))) r
 | [],r,_=>rfl
 |j::l,r,h=>by
  rw[iw,tK];show(match ja (.int (.lit i)) (.int (.lit j))with
   |some ah=>aa (aa (AV.bool ah))
   |some ak=>qe (ja (.int (.lit i))) (l.map (λi=>(AK.int (.lit i),AV.bool ah))++r)
   |none=>af)=_
  rw[yP,decide_eq_false (λq=>h (by rw[q];exact .head _))];exact F6 λq=>h (.tail _ q)
theorem Nt{i:Int}{v:AV}:∀{l:List Int},i ∉ l->putD (ja (.int (.lit i))) (.int (.lit i)) v (l.map λi=>(AK.int (.lit i),AV.bool ah))=aa ((l.map λi=>(AK.int (.lit i),AV.bool ah))++[(.int (.lit i),v)])
 | [],_=>rfl
 |j::l,h=>by rw[iw];unfold putD;dsimp only;rw[yP,decide_eq_false (λq=>h (by rw[q];exact .head _))];dsimp only;rw[Nt λq=>h (.tail _ q)];rfl
theorem Ni{i:Int}{v:AV}:∀{l:List Int},i ∉ l->delD (ja (.int (.lit i))) ((l.map λi=>(AK.int (.lit i),AV.bool ah))++[(.int (.lit i),v)])=aa (l.map λi=>(AK.int (.lit i),AV.bool ah))
 | [],_=>by show delD (ja (.int (.lit i))) [(.int (.lit i),v)]=_;unfold delD;dsimp only;rw[yP,decide_eq_true rfl];rfl
 |j::l,h=>by rw[iw,tK];unfold delD;dsimp only;rw[yP,decide_eq_false (λq=>h (by rw[q];exact .head _))];dsimp only;rw[Ni λq=>h (.tail _ q)];rfl
theorem aaj{i:Int}{st:List Int}(h:i ∉ st):findD (.int (.lit i)) (dictOf st)=aa af:=by show qe (ja (.int (.lit i))) (dictOf st)=_;have:=F6 (r:=[]) (l:=st.reverse) (i:=i) (by simpa using h);rw[lJ]at this;exact this
theorem χ{i:Int}{st:List Int}(h:i ∉ st):findD (.int (.lit i)) (dictOf (i::st))=aa (aa (.bool ah)):=by show qe (ja (.int (.lit i))) (dictOf (i::st))=_;rw[Fo];have:=F6 (r:=[(AK.int (.lit i),AV.bool ah)]) (l:=st.reverse) (i:=i) (by simpa using h);refine this.trans ?_;unfold qe;dsimp only;rw[yP,decide_eq_true rfl]
theorem ach{x:Nat}{i:Int}{st:List Int}(h:i ∉ st)(hf:st.length<1000000):qd x (.dict (dictOf (i::st))) f9 [.int (.lit i),.none] U=aa (.bool ah,U.put x (.dict (dictOf st))):=by show(findD (.int (.lit i)) (dictOf (i::st))).bind _=_;rw[χ h];show cond (fits (dictOf (i::st)).length) ((delD (ja (.int (.lit i))) (dictOf (i::st))).map _) af=_;rw[LD,show fits (i::st).length=ah from Nat.ble_eq.mpr (by rw[lH];exact qp (eX hf) rfl)];rw[Fo,show dictOf st=st.reverse.map (λi=>(AK.int (.lit i),AV.bool ah))from rfl,Ni (by simpa using h)];rfl
theorem abO{x:Nat}{i:Int}{st:List Int}(hx:U.get x=aa (.dict (dictOf st)))(h:i ∉ st)(hf:st.length<=1000000):tW (.ref x) (.int (.lit i)) (.bool ah) U=aa (U.put x (.dict (dictOf (i::st)))):=by show(U.gL x).elim _ _=_;rw[show U.gL x=af from by unfold ES.gL;rw[hx];rfl];show(U.gD x).bind _=_;rw[Di hx];show cond (fits (dictOf st).length) (jH _ _) af=_;rw[LD,show fits st.length=ah from Nat.ble_eq.mpr hf];show jH _ _=_;rw[show dictOf st=st.reverse.map (λi=>(AK.int (.lit i),AV.bool ah))from rfl,Nt (by simpa using h)];show aa (U.put x (.dict _))=_;rw[Fo];rfl
theorem aeP{x:Nat}{i:Int}{st:List Int}(hx:U.get x=aa (.dict (dictOf st)))(h:i ∉ st):jv C .In (.int (.lit i)) (.ref x) U=aa ak:=by show(U.gD x).bind _=_;rw[Di hx];show(findD _ _).map _=_;rw[aaj h];rfl
theorem Ny{x:Nat}{a b v:AV}(hx:U.get x=aa (.list [a,b])):tW (.ref x) (.int (.lit 1)) v U=aa (U.put x (.list [a,v])):=by show(U.gL x).elim _ _=_;rw[lP hx];rfl
theorem aco:(br sym).sub 82 82=aa ah:=by kernel_rfl
theorem ab9:(br sym).zA 82=ah:=by kernel_rfl
theorem E6{t dd:Nat}{kvs:List (Nat×AV)}(h1:U.get t=aa (.inst 82 dd))(h2:U.get dd=aa (.ns kvs)):nj (br sym) (.bi 1) [.ref t,.adr 82] U=aa (.bool ah,U):=by show jH _ (yk (yk (U.gI t) _) _)=_;rw[zq h1];show jH _ (yk (yk (U.gN dd) _) _)=_;rw[qi h2];show jH _ (yk (cond ((br sym).fC 82) (aa 82) af) _)=_;rw[fM];show jH _ ((br sym).sub 82 82)=_;rw[aco];rfl
noncomputable def nv:AV->Prop
 | .none=>True
 | .bool _=>True
 | .int _=>True
 | .str _=>True
 |_=>False
theorem L5{a:AV}(h:nv a):nj (br sym) (.bi 1) [a,.adr 82] U=aa (.bool ak,U):=by cases a<;>first|exact h.elim|(show jH (λb=>(AV.bool b,U)) (cond ((br sym).zA 82) (aa ak) af)=_;rw[ab9];rfl)
end
noncomputable def nB:CE:=(CE.cmp (CE.loc iS) (CmpOp.NotEq) (CE.list []))
noncomputable def nC:List CS:=[CS.asg (CT.tp [CT.nm fZ ak,CT.nm eG ak]) (CE.sub (CE.loc iS) (CE.neg (CE.int 1))),
  CS.iff
   (CE.cmp (CE.loc eG) (CmpOp.Eq) (CE.call (CE.az (AV.bi 2)) [CE.attr (CE.loc fZ) bf]))
   [CS.expr (CE.aY (CE.loc iS) f9 []),
   CS.expr (CE.aY (CE.loc nS) f9 [CE.attr (CE.loc fZ) bR,CE.none]),
   CS.cont]
   [],
  CS.asg (CT.sb (CE.sub (CE.loc iS) (CE.neg (CE.int 1))) (CE.int 1)) (CE.bin (L4) (CE.loc eG) (CE.int 1)),
  CS.iO
   [eZ,jG]
   (CE.tup [CE.sub (CE.attr (CE.loc fZ) bf) (CE.loc eG),CE.bin (L4) (CE.loc jG) (CE.int 1)]),
  CS.expr (CE.aY (CE.loc aJ) iI [CE.loc jG]),
  CS.iff
   (CE.iZ
    (CE.dU (CE.call (CE.az (AV.bi 1)) [CE.loc eZ,CE.az (AV.adr 82)]))
    (CE.k8 (CE.int 0) (CmpOp.LtE) (CE.loc pL) (Gd) (CE.call (CE.az (AV.bi 2)) [CE.loc iS])))
   [CS.expr (CE.aY (CE.loc dF) fL [CE.loc eZ])]
   [CS.iff
    (CE.gu (CE.cmp (CE.loc pL) (Gd) (CE.int 0)) (CE.cmp (CE.attr (CE.loc eZ) bR) (CmpOp.In) (CE.loc nS)))
    [CS.expr
      (CE.aY
       (CE.loc aJ)
       fY
       [CE.str [65,114,103,117,109,101,110,116,69,114,114,111,114],
       CE.str [116,114,105,101,100,32,116,111,32,102,108,97,116,116,101,110,32,114,101,99,117,114,115,105,118,101,32,97,114,114,97,121]])]
    [CS.expr (CE.aY (CE.loc iS) fL [CE.list [CE.loc eZ,CE.int 0]]),
     CS.asg (CT.sb (CE.loc nS) (CE.attr (CE.loc eZ) bR)) (CE.tt ah)]]]
noncomputable def ahb:List CS:=[
  CS.iff
   (CE.iZ
    (CE.dU (CE.call (CE.az (AV.bi 1)) [CE.loc eZ,CE.az (AV.adr 82)]))
    (CE.k8 (CE.int 0) (CmpOp.LtE) (CE.loc pL) (Gd) (CE.call (CE.az (AV.bi 2)) [CE.loc iS])))
   [CS.expr (CE.aY (CE.loc dF) fL [CE.loc eZ])]
   [CS.iff
    (CE.gu (CE.cmp (CE.loc pL) (Gd) (CE.int 0)) (CE.cmp (CE.attr (CE.loc eZ) bR) (CmpOp.In) (CE.loc nS)))
    [CS.expr
      (CE.aY
       (CE.loc aJ)
       fY
       [CE.str [65,114,103,117,109,101,110,116,69,114,114,111,114],
       CE.str [116,114,105,101,100,32,116,111,32,102,108,97,116,116,101,110,32,114,101,99,117,114,115,105,118,101,32,97,114,114,97,121]])]
    [CS.expr (CE.aY (CE.loc iS) fL [CE.list [CE.loc eZ,CE.int 0]]),
     CS.asg (CT.sb (CE.loc nS) (CE.attr (CE.loc eZ) bR)) (CE.tt ah)]]]
noncomputable def afX(sym:Nat->Nat->Option (List Nat))(FL:Ev->Nat->List AV->ES->R Out)(m d L:Nat)(P:Flow->ES->Prop)(f:Flow)(U:ES):Prop:=match f with
 | .ret v=>P (.ret v) U
 | .brk=>P .next U
 |_=>RW (cH (ev (br sym) FL (m+40)) (d+2) (.dS ⟨L,L,[],491⟩ nB nC) U) P
section
structure Cn(N0 L F WL AD:Nat):Prop where
 lF:L≠F
 lW:L≠WL
 lA:L≠AD
 fW:F≠WL
 fA:F≠AD
 wA:WL≠AD
 ge:N0<=L/\N0<=F/\N0<=WL/\N0<=AD
structure KV(kvs:List (Nat×AV))(w F WL AD many:Nat)(dep:Int):Prop where
 world:bN kvs aJ=aa (.ref w)
 found:bN kvs dF=aa (.ref F)
 ways:bN kvs iS=aa (.ref WL)
 around:bN kvs nS=aa (.ref AD)
 many:bN kvs jG=aa (.int (.lit (.ofNat many)))
 depth:bN kvs pL=aa (.int (.lit dep))
theorem KV.put{kvs:List (Nat×AV)}{w F WL AD many k:Nat}{dep:Int}{v:AV}(h:KV kvs w F WL AD many dep)(h1:aH k aJ=ak)(h2:aH k dF=ak)(h3:aH k iS=ak)(h4:aH k nS=ak)(h5:aH k jG=ak)(h6:aH k pL=ak):
  KV (putN kvs k v) w F WL AD many dep:=
 ⟨by rw[dJ h1];exact h.world,by rw[dJ h2];exact h.found,by rw[dJ h3];exact h.ways,by rw[dJ h4];exact h.around,by rw[dJ h5];exact h.many,by rw[dJ h6];exact h.depth⟩
theorem KV.more{kvs:List (Nat×AV)}{w F WL AD many qf:Nat}{dep:Int}(h:KV kvs w F WL AD many dep):KV (putN kvs jG (.int (.lit (.ofNat qf)))) w F WL AD qf dep:=
 ⟨by rw[dJ rfl];exact h.world,by rw[dJ rfl];exact h.found,by rw[dJ rfl];exact h.ways,by rw[dJ rfl];exact h.around,gF _ _ _,by rw[dJ rfl];exact h.depth⟩
structure FS(N0:Nat)(bH:ES)(L F WL AD:Nat)(U:ES)(kvs:List (Nat×AV))(found ws:List AV)(st:List Int):Prop where
 l:U.get L=aa (.ns kvs)
 f:U.get F=aa (.list found)
 wl:U.get WL=aa (.list ws)
 ad:U.get AD=aa (.dict (dictOf st))
 old:∀y,y<N0->U.get y=bH.get y
 lt:L<U.next/\F<U.next/\WL<U.next/\AD<U.next/\N0<=U.next
structure TP(N0 L F WL AD:Nat)(U:ES)(T t place:Nat):Prop where
 t:U.get T=aa (.list [.ref t,.int (.lit (.ofNat place))])
 ne:T≠L/\T≠F/\T≠WL/\T≠AD
 lt:N0<=T/\T<U.next
variable{N0 L F WL AD w many:Nat}{bH U σ':ES}{kvs kvs':List (Nat×AV)}{found ws:List AV}{st:List Int}{dep:Int}{T t place x:Nat}{o:AO}
theorem FS.new(h:FS N0 bH L F WL AD U kvs found ws st)(u:cV x o U σ'):FS N0 bH L F WL AD σ' kvs found ws st:=by have e:=u.nm;have e2:=u.nx;have l:=h.lt;exact⟨u.get (aB (aT (aq l.1) (ao e)) rfl) h.l,u.get (aB (aT (aq l.2.1) (ao e)) rfl) h.f,u.get (aB (aT (aq l.2.2.1) (ao e)) rfl) h.wl,u.get (aB (aT (aq l.2.2.2.1) (ao e)) rfl) h.ad,λy hy=>(u.fr y (aB (aT (aq hy) (aT (aM l.2.2.2.2) (ao e))) rfl)).trans (h.old y hy),by exact⟨aA (aT (aq l.1) (au e2)) rfl,aA (aT (aq l.2.1) (au e2)) rfl,aA (aT (aq l.2.2.1) (au e2)) rfl,aA (aT (aq l.2.2.2.1) (au e2)) rfl,aR (aT (aM l.2.2.2.2) (au e2)) rfl⟩⟩
theorem FS.grow{b:Nat}(h:FS N0 bH L F WL AD U kvs found ws st)(g:eE b U σ' (λ_=>False)):FS N0 bH L F WL AD σ' kvs found ws st:=by have e:=g.le;have l:=h.lt;exact⟨(g.fr _ l.1 nofun).trans h.l,(g.fr _ l.2.1 nofun).trans h.f,(g.fr _ l.2.2.1 nofun).trans h.wl,(g.fr _ l.2.2.2.1 nofun).trans h.ad,λy hy=>(g.fr y (aA (aT (aq hy) (aM l.2.2.2.2)) rfl) nofun).trans (h.old y hy),by exact⟨aA (aT (aq l.1) (aM e)) rfl,aA (aT (aq l.2.1) (aM e)) rfl,aA (aT (aq l.2.2.1) (aM e)) rfl,aA (aT (aq l.2.2.2.1) (aM e)) rfl,aR (aT (aM l.2.2.2.2) (aM e)) rfl⟩⟩
theorem FS.loc(c:Cn N0 L F WL AD)(h:FS N0 bH L F WL AD U kvs found ws st)(u:Upd L (.ns kvs') U σ'):FS N0 bH L F WL AD σ' kvs' found ws st:=by have g:=c.ge;refine⟨u.self,u.get c.lF.symm h.f,u.get c.lW.symm h.wl,u.get c.lA.symm h.ad,λy hy=>(u.fr y (aB (aT (aq hy) (aM g.1)) rfl)).trans (h.old y hy),by rw[u.nx];exact h.lt⟩
theorem FS.VY{found':List AV}(c:Cn N0 L F WL AD)(h:FS N0 bH L F WL AD U kvs found ws st)(u:Upd F (.list found') U σ'):FS N0 bH L F WL AD σ' kvs found' ws st:=by have g:=c.ge;refine⟨u.get c.lF h.l,u.self,u.get c.fW.symm h.wl,u.get c.fA.symm h.ad,λy hy=>(u.fr y (aB (aT (aq hy) (aM g.2.1)) rfl)).trans (h.old y hy),by rw[u.nx];exact h.lt⟩
theorem FS.way{Us:List AV}(c:Cn N0 L F WL AD)(h:FS N0 bH L F WL AD U kvs found ws st)(u:Upd WL (.list Us) U σ'):FS N0 bH L F WL AD σ' kvs found Us st:=by have g:=c.ge;refine⟨u.get c.lW h.l,u.get c.fW h.f,u.self,u.get c.wA.symm h.ad,λy hy=>(u.fr y (aB (aT (aq hy) (aM g.2.2.1)) rfl)).trans (h.old y hy),by rw[u.nx];exact h.lt⟩
theorem FS.U4{st':List Int}(c:Cn N0 L F WL AD)(h:FS N0 bH L F WL AD U kvs found ws st)(u:Upd AD (.dict (dictOf st')) U σ'):FS N0 bH L F WL AD σ' kvs found ws st':=by have g:=c.ge;refine⟨u.get c.lA h.l,u.get c.fA h.f,u.get c.wA h.wl,u.self,λy hy=>(u.fr y (aB (aT (aq hy) (aM g.2.2.2)) rfl)).trans (h.old y hy),by rw[u.nx];exact h.lt⟩
theorem FS.top(h:FS N0 bH L F WL AD U kvs found ws st)(p:TP N0 L F WL AD U T t place)(u:Upd T o U σ'):FS N0 bH L F WL AD σ' kvs found ws st:=by have g:=p.ne;have l:=p.lt;refine⟨u.get g.1.symm h.l,u.get g.2.1.symm h.f,u.get g.2.2.1.symm h.wl,u.get g.2.2.2.symm h.ad,λy hy=>(u.fr y (aB (aT (aq hy) (aM l.1)) rfl)).trans (h.old y hy),by rw[u.nx];exact h.lt⟩
theorem TP.new(p:TP N0 L F WL AD U T t place)(u:cV x o U σ'):TP N0 L F WL AD σ' T t place:=by have l:=p.lt;have e:=u.nm;have e2:=u.nx;exact⟨u.get (aB (aT (aq l.2) (ao e)) rfl) p.t,p.ne,by exact⟨aR (aM l.1) rfl,aA (aT (aq l.2) (au e2)) rfl⟩⟩
theorem TP.grow{b:Nat}(p:TP N0 L F WL AD U T t place)(g:eE b U σ' (λ_=>False)):TP N0 L F WL AD σ' T t place:=by have l:=p.lt;have e:=g.le;exact⟨(g.fr _ l.2 nofun).trans p.t,p.ne,by exact⟨aR (aM l.1) rfl,aA (aT (aq l.2) (aM e)) rfl⟩⟩
theorem TP.upd(p:TP N0 L F WL AD U T t place)(u:Upd x o U σ')(h:T≠x):TP N0 L F WL AD σ' T t place:=⟨u.get h p.t,p.ne,by rw[u.nx];exact p.lt⟩
structure TH(N0:Nat)(bH:ES)(t:Nat)(num:Int)(items:List AV):Prop where
 ex:∃dd own fd l,IsT bH t dd (.int (.lit num)) own fd l/\bH.get l=aa (.list items)/\t<N0/\dd<N0/\l<N0
theorem TH.at{num:Int}{items:List AV}(h:TH N0 bH t num items)(s:FS N0 bH L F WL AD U kvs found ws st):∃dd own fd l,U.get t=aa (.inst 82 dd)/\U.get dd=aa (.ns (Ct (.int (.lit num)) own fd++[(bf,.ref l)]))/\U.get l=aa (.list items):=by refine yE h.ex λdd own fd l a b h1 h2 h3=>?_;exact⟨dd,own,fd,l,(s.old t h1).trans a.x,(s.old dd h2).trans a.d,(s.old l h3).trans b⟩
structure WN(N0:Nat)(bH:ES)(w:Nat):Prop where
 ex:∃wn kvs,bH.get w=aa (.inst 889 wn)/\bH.get wn=aa (.ns kvs)/\bN kvs iI=af/\w<N0/\wn<N0
theorem WN.at(h:WN N0 bH w)(s:FS N0 bH L F WL AD U kvs found ws st):∃wn kvs,U.get w=aa (.inst 889 wn)/\U.get wn=aa (.ns kvs)/\bN kvs iI=af:=by refine GJ h.ex λwn kvs a b c h1 h2=>?_;exact⟨wn,kvs,(s.old w h1).trans a,(s.old wn h2).trans b,c⟩
variable{sym:Nat->Nat->Option (List Nat)}{FL:Ev->Nat->List AV->ES->R Out}{m d:Nat}{P:Flow->ES->Prop}{num:Int}{items:List AV}
noncomputable abbrev kX(L F WL AD T:Nat)(y:Nat):Prop:=y=L\/y=F\/y=WL\/y=AD\/y=T
theorem NP(hd:num ∉ st)(c:Cn N0 L F WL AD)(K:KV kvs w F WL AD many dep)(S:FS N0 bH L F WL AD U kvs found (ws++[.ref T]) (num::st))(TT:TP N0 L F WL AD U T t place)(fJ:TH N0 bH t num items)(hz:items.length<=1000000)(hws:ws.length+st.length<100000)(hr:U.next+10<room)(hp:place=items.length)
  (k:∀σ' kvs',KV kvs' w F WL AD many dep->FS N0 bH L F WL AD σ' kvs' found ws st->eE 1 U σ' (kX L F WL AD T)->RW (cH (ev (br sym) FL (m+40)) (d+2) (.dS ⟨L,L,[],491⟩ nB nC) σ') P):
  RW (cH (ev (br sym) FL (m+41)) (d+2) (.dS ⟨L,L,[],491⟩ nB nC) U) P:=by
 have uY:=S.lt;have cg:=c.ge;refine Hz (eV (λ_ _ _ _ _=>rfl) (gf (aP S.l K.ways (iC (bG ⟨rfl,by exact aA (bD hr) rfl,λx1 σ1 u1=>?_⟩)))));have S1:=S.new u1;have T1:=TT.new u1;have e1:=u1.nx;refine⟨ah,Nz S1.wl u1.self,ah,rfl,nofun,λ_=>?_⟩;refine bW (gV (kD (aP S1.l K.ways (zl (cM ⟨_,rfl,_,_,Fd S1.wl,IL (vs:=[.ref t,.int (.lit (.ofNat place))]) (OF T1.t) rfl (sr S1.l λσ2 u2=>?_)⟩)))));have S2:=S1.loc c u2;have T2:=T1.upd u2 T1.ne.1;have K2:=K.put (k:=fZ) (v:=.ref t) rfl rfl rfl rfl rfl rfl;have e2:=u2.nx;refine sr S2.l λσ3 u3=>Hr ?_;have S3:=S2.loc c u3;have T3:=T2.upd u3 T2.ne.1;have K3:=K2.put (k:=eG) (v:=.int (.lit (.ofNat place))) rfl rfl rfl rfl rfl rfl;have H3:bN (putN (putN kvs fZ (.ref t)) eG (.int (.lit (.ofNat place)))) fZ=aa (.ref t):=by rw[dJ rfl,gF]
 have e3:=u3.nx;obtain⟨dd,own,fd,l,x3,d3,l3⟩:=fJ.at S3;refine bW (ku (eV (λ_ _ _ _ _=>rfl) (gf (aP S3.l (gF _ _ _) (dc (cI (aW (iL (aP S3.l H3 ⟨t,82,dd,_,_,rfl,x3,fM,ng,d3,rfl,rfl,bG ⟨rfl,kZ (zb l3 hz) ⟨_,Dd,_,rfl,?_⟩⟩⟩)))))))));rw[decide_eq_true hp];refine bW (r4 (kR (aP S3.l K3.ways (zh S3.wl rfl (bG ⟨_,_,_,S3.wl,YD (kH (aT aU (eX hws)) rfl),?_⟩)))));have u4:Upd WL (.list ws) σ3 (σ3.put WL (.list ws)):=Upd.of S3.wl;generalize σ3.put WL (.list ws)=bA at*;have S4:=S3.way c u4;have e4:=u4.nx;obtain⟨xH,ah1,Jp,l4,x4,d4,i4⟩:=fJ.at S4;refine bW (r4 (kR (aP S4.l K3.around (PJ S4.ad rfl (aW (iL (aP S4.l H3 ⟨t,82,xH,_,_,rfl,x4,fM,tU,d4,rfl,rfl,aW (qY (bG ⟨_,_,_,S4.ad,ach hd (ahZ hws),?_⟩))⟩)))))));have u5:Upd AD (.dict (dictOf st)) bA (bA.put AD (.dict (dictOf st))):=Upd.of S4.ad;generalize bA.put AD (.dict (dictOf st))=bT at*;have S5:=S4.U4 c u5;have e5:=u5.nx;have sM:=u1.nm;refine Ot (bW (abQ ?_));refine k bT _ K3 S5 ⟨by exact aR (aT (au e1) (aT (ao e2) (aT (ao e3) (aT (ao e4) (ao e5))))) rfl,by exact jn (aT (aD e5) (aT (aD e4) (aT (aD e3) (aT (aD e2) (aL e1))))) rfl,λy hy ny=>?_⟩;unfold kX at ny;rw[u5.fr y (λe=>ny (.inr (.inr (.inr (.inl e))))),u4.fr y (λe=>ny (.inr (.inr (.inl e)))),u3.fr y (by show y≠L;exact λe=>ny (.inl e)),u2.fr y (by show y≠L;exact λe=>ny (.inl e)),u1.fr y (aB (aT (aq hy) (ao sM)) rfl)]
theorem Gh{xv:AV}(c:Cn N0 L F WL AD)(K:KV kvs w F WL AD many dep)(S:FS N0 bH L F WL AD U kvs found (ws++[.ref T]) st)(TT:TP N0 L F WL AD U T t place)(fJ:TH N0 bH t num items)(W:WN N0 bH w)(hz:items.length<=1000000)(hm:many<20000)(hr:U.next+10<room)
  (hi:items[place]?=aa xv) (hne:¬place=items.length) (hpl:place<=1000000)
  (k:∀σ' kvs',KV kvs' w F WL AD (many+1) dep->bN kvs' eZ=aa xv->FS N0 bH L F WL AD σ' kvs' found (ws++[.ref T]) st->TP N0 L F WL AD σ' T t (place+1)->eE 3 U σ' (kX L F WL AD T)->Cont (br sym) FL (m+35) (d+2) ⟨L,L,[],491⟩ ahb (afX sym FL m d L P) .next σ'):
  RW (cH (ev (br sym) FL (m+41)) (d+2) (.dS ⟨L,L,[],491⟩ nB nC) U) P:=by
 have uY:=S.lt;have cg:=c.ge;refine Hz (eV (λ_ _ _ _ _=>rfl) (gf (aP S.l K.ways (iC (bG ⟨rfl,by exact aA (bD hr) rfl,λx1 σ1 u1=>?_⟩)))));have S1:=S.new u1;have T1:=TT.new u1;have e1:=u1.nx;refine⟨ah,Nz S1.wl u1.self,ah,rfl,nofun,λ_=>?_⟩;refine bW (gV (kD (aP S1.l K.ways (zl (cM ⟨_,rfl,_,_,Fd S1.wl,IL (vs:=[.ref t,.int (.lit (.ofNat place))]) (OF T1.t) rfl (sr S1.l λσ2 u2=>?_)⟩)))));have S2:=S1.loc c u2;have T2:=T1.upd u2 T1.ne.1;have K2:=K.put (k:=fZ) (v:=.ref t) rfl rfl rfl rfl rfl rfl;have e2:=u2.nx;refine sr S2.l λσ3 u3=>Hr ?_;have S3:=S2.loc c u3;have T3:=T2.upd u3 T2.ne.1;have K3:=K2.put (k:=eG) (v:=.int (.lit (.ofNat place))) rfl rfl rfl rfl rfl rfl;have H3:bN (putN (putN kvs fZ (.ref t)) eG (.int (.lit (.ofNat place)))) fZ=aa (.ref t):=by rw[dJ rfl,gF]
 have e3:=u3.nx;obtain⟨dd,own,fd,l,x3,d3,l3⟩:=fJ.at S3;refine bW (ku (eV (λ_ _ _ _ _=>rfl) (gf (aP S3.l (gF _ _ _) (dc (cI (aW (iL (aP S3.l H3 ⟨t,82,dd,_,_,rfl,x3,fM,ng,d3,rfl,rfl,bG ⟨rfl,kZ (zb l3 hz) ⟨_,Dd,_,rfl,?_⟩⟩⟩)))))))));rw[decide_eq_false hne];refine qh ?_;refine bW (gV (jt (aP S3.l (gF _ _ _) (cM ⟨.int (.lit (.ofNat (place+1))),_,by show(uo (.lit (.ofNat place)) (.lit 1)).map (λk=>(AV.int k,σ3))=_;show aa (AV.int (.lit (fq (gU place+1))),σ3)=_;rw[iK];rfl,Ds (kD (aP S3.l K3.ways (zl (cM ⟨_,rfl,_,_,Fd S3.wl,cM ⟨_,Ny T3.t,?_⟩⟩))))⟩))));have u4:Upd T (.list [.ref t,.int (.lit (.ofNat (place+1)))]) σ3 (σ3.put T (.list [.ref t,.int (.lit (.ofNat (place+1)))])):=Upd.of T3.t;generalize σ3.put T (.list [.ref t,.int (.lit (.ofNat (place+1)))])=bA at*;have S4:=S3.top T3 u4;have T4:TP N0 L F WL AD bA T t (place+1):=⟨u4.self,T3.ne,by rw[u4.nx];exact T3.lt⟩;have e4:=u4.nx;have bY:=aT (au e1) (aT (ao e2) (aT (ao e3) (ao e4)));have bg:=aT (aD e4) (aT (aD e3) (aT (aD e2) (aL e1)));obtain⟨xH,ah1,Jp,l4,x4,d4,i4⟩:=fJ.at S4;refine bW (Cu (zC (aW (kD (iL (aP S4.l H3 ⟨t,82,xH,_,_,rfl,x4,fM,ng,d4,rfl,rfl,aP S4.l (gF _ _ _) ⟨_,_,pT i4 hi (kH (cC hpl) rfl),aW (jt (aP S4.l K3.many (cM ⟨.int (.lit (.ofNat (many+1))),_,by show(uo (.lit (.ofNat many)) (.lit 1)).map (λk=>(AV.int k,bA))=_;show aa (AV.int (.lit (fq (gU many+1))),bA)=_;rw[iK];rfl,bG ⟨rfl,by exact aA (aT bg (bD hr)) rfl,λx5 bT u5=>?_⟩⟩)))⟩⟩))))));have S5:=S4.new u5;have T5:=T4.new u5;have e5:=u5.nx;refine⟨_,_,yS u5.self,rfl,S5.l,λfz u6=>?_⟩;have S6:=S5.loc c u6;have T6:=T5.upd u6 T5.ne.1;have e6:=u6.nx;have K6:KV (putAll (putN (putN kvs fZ (.ref t)) eG (.int (.lit (.ofNat place)))) ([eZ,jG].zip [xv,.int (.lit (.ofNat (many+1)))]).reverse) w F WL AD (many+1) dep:=(K3.more (qf:=many+1)).put (k:=eZ) (v:=xv) rfl rfl rfl rfl rfl rfl;have I6:bN (putAll (putN (putN kvs fZ (.ref t)) eG (.int (.lit (.ofNat place)))) ([eZ,jG].zip [xv,.int (.lit (.ofNat (many+1)))]).reverse) eZ=aa xv:=gF _ _ _;refine fE (W.at S6) λwn6 wk6 w6 n6 z6=>?_;refine bW (r4 (kR (aP S6.l K6.world (ug w6 ou Xm n6 z6 acZ (aW (aP S6.l K6.many (bG ((XO (by show((many+1:Nat):Int)<=20000;exact Int.ofNat_le.mpr hm) (cX (aT (aD e6) (aT (aL e5) (aT bg (bD hr)))) rfl)).mono λv dP z=>?_))))))));obtain⟨rfl,g7⟩:=z;have S7:=S6.grow g7;have T7:=T6.grow g7;have a7:=g7.le;have b7:=g7.ge;have sM:=u1.nm;have hx5:=u5.nm;refine k dP _ K6 I6 S7 T7 ⟨by exact aR (aT bY (aT (au e5) (aT (ao e6) (aM a7)))) rfl,by exact jn (aT (dX b7) (aT (aD e6) (aT (aL e5) bg))) rfl,λy hy ny=>?_⟩;unfold kX at ny;rw[g7.fr y (aA (aT (aq hy) (aT bY (aT (au e5) (ao e6)))) rfl) nofun,u6.fr y (by show y≠L;exact λe=>ny (.inl e)),u5.fr y (aB (aT (aq hy) (aT bY (ao hx5))) rfl),u4.fr y (λe=>ny (.inr (.inr (.inr (.inr (e)))))),u3.fr y (by show y≠L;exact λe=>ny (.inl e)),u2.fr y (by show y≠L;exact λe=>ny (.inl e)),u1.fr y (aB (aT (aq hy) (ao sM)) rfl)]
theorem YL{xv:AV}(hx:nv xv)(c:Cn N0 L F WL AD)(K:KV kvs w F WL AD many dep)(S:FS N0 bH L F WL AD U kvs found (ws++[.ref T]) st)(TT:TP N0 L F WL AD U T t place)(fJ:TH N0 bH t num items)(W:WN N0 bH w)(hz:items.length<=1000000)(hf:found.length<=1000000)(hm:many<20000)(hr:U.next+10<room)
  (hi:items[place]?=aa xv) (hne:¬place=items.length) (hpl:place<=1000000)
  (k:∀σ' kvs',KV kvs' w F WL AD (many+1) dep->FS N0 bH L F WL AD σ' kvs' (found++[xv]) (ws++[.ref T]) st->TP N0 L F WL AD σ' T t (place+1)->eE 6 U σ' (kX L F WL AD T)->RW (cH (ev (br sym) FL (m+40)) (d+2) (.dS ⟨L,L,[],491⟩ nB nC) σ') P):
  RW (cH (ev (br sym) FL (m+41)) (d+2) (.dS ⟨L,L,[],491⟩ nB nC) U) P:=by
 refine Gh c K S TT fJ W hz hm hr hi hne hpl λdP DN K6 I6 S7 T7 G=>?_;refine bW (ku (zP (uA (eV (λ_ _ _ _ _=>rfl) (dc (cI (aW (aP S7.l I6 (aW (cI (bG ⟨rfl,kZ (L5 hx) ⟨ak,rfl,λ_=>?_,nofun⟩⟩)))))))))));refine bW (r4 (kR (aP S7.l K6.found (zh S7.f rfl (aW (aP S7.l I6 (bG ⟨_,_,_,S7.f,F4 hf,?_⟩)))))));have u8:Upd F (.list (found++[xv])) dP (dP.put F (.list (found++[xv]))):=Upd.of S7.f;generalize dP.put F (.list (found++[xv]))=dR at*;have S8:=S7.VY c u8;have T8:=T7.upd u8 T7.ne.2.1;have e8:=u8.nx;refine kE (kE (k dR _ K6 S8 T8 ⟨by rw[e8];exact G.le,by rw[e8];exact eo G.ge (vA (by decide) _),λy hy ny=>by rw[u8.fr y (λe=>ny (.inr (.inl e))),G.fr y hy ny]⟩))
theorem GC{C:EC}{i:Int}{U:ES}:jv C .LtE (.int (.lit 0)) (.int (.lit i)) U=aa (!decide (i<0)):=by show(uM (.lit i) (.lit 0)).map (!·)=_;show aa (!ltI i 0)=_;rw[gG]
theorem Hl{C:EC}{i j:Int}{U:ES}:jv C .Lt (.int (.lit i)) (.int (.lit j)) U=aa (decide (i<j)):=by show aa (ltI i j)=_;rw[gG]
theorem ZH{t2:Nat}{qn:Int}{items2:List AV}(qA:TH N0 bH t2 qn items2)(h0:0<=dep)(h1:dep<ws.length+1)(c:Cn N0 L F WL AD)(K:KV kvs w F WL AD many dep)(S:FS N0 bH L F WL AD U kvs found (ws++[.ref T]) st)(TT:TP N0 L F WL AD U T t place)(fJ:TH N0 bH t num items)(W:WN N0 bH w)(hz:items.length<=1000000)(hf:found.length<=1000000)(hws:ws.length<100000)(hm:many<20000)(hr:U.next+10<room)
  (hi:items[place]?=aa (.ref t2)) (hne:¬place=items.length) (hpl:place<=1000000)
  (k:∀σ' kvs',KV kvs' w F WL AD (many+1) dep->FS N0 bH L F WL AD σ' kvs' (found++[.ref t2]) (ws++[.ref T]) st->TP N0 L F WL AD σ' T t (place+1)->eE 6 U σ' (kX L F WL AD T)->RW (cH (ev (br sym) FL (m+40)) (d+2) (.dS ⟨L,L,[],491⟩ nB nC) σ') P):
  RW (cH (ev (br sym) FL (m+41)) (d+2) (.dS ⟨L,L,[],491⟩ nB nC) U) P:=by
 refine Gh c K S TT fJ W hz hm hr hi hne hpl λdP DN K6 I6 S7 T7 G=>?_;obtain⟨Em,ajg,U3,l7,x7,d7,i7⟩:=qA.at S7;refine bW (ku (zP (uA (eV (λ_ _ _ _ _=>rfl) (dc (cI (aW (aP S7.l I6 (aW (cI (bG ⟨rfl,kZ (E6 x7 d7) ⟨ah,rfl,nofun,λ_=>?_⟩⟩)))))))))));refine Hi (cM (aP S7.l K6.depth ⟨ah,by rw[GC,decide_eq_false (Int.not_lt_of_ge h0)];rfl,nofun,λ_=>dc (cI (aW (aP S7.l K6.ways (bG ⟨rfl,kZ (zb S7.wl (by rw[fX,jC];exact akH hws)) ⟨ah,?_,?_⟩⟩))))⟩))
 ·rw[Hl,decide_eq_true (by rw[fX,jC];show dep<((ws.length+1:Nat):Int);exact K5 h1)]
 refine bW (r4 (kR (aP S7.l K6.found (zh S7.f rfl (aW (aP S7.l I6 (bG ⟨_,_,_,S7.f,F4 hf,?_⟩)))))));have u8:Upd F (.list (found++[.ref t2])) dP (dP.put F (.list (found++[.ref t2]))):=Upd.of S7.f;generalize dP.put F (.list (found++[.ref t2]))=dR at*;have S8:=S7.VY c u8;have T8:=T7.upd u8 T7.ne.2.1;have e8:=u8.nx;refine kE (kE (k dR _ K6 S8 T8 ⟨by rw[e8];exact G.le,by rw[e8];exact eo G.ge (vA (by decide) _),λy hy ny=>by rw[u8.fr y (λe=>ny (.inr (.inl e))),G.fr y hy ny]⟩))
theorem υ{t2:Nat}{qn:Int}{items2:List AV}(qA:TH N0 bH t2 qn items2)(h0:dep<0\/(ws.length:Int)+1<=dep)(hn2:qn ∉ st)(c:Cn N0 L F WL AD)(K:KV kvs w F WL AD many dep)(S:FS N0 bH L F WL AD U kvs found (ws++[.ref T]) st)(TT:TP N0 L F WL AD U T t place)(fJ:TH N0 bH t num items)(W:WN N0 bH w)(hz:items.length<=1000000)(hws:ws.length+st.length<100000)(hm:many<20000)(hr:U.next+10<room)
  (hi:items[place]?=aa (.ref t2)) (hne:¬place=items.length) (hpl:place<=1000000)
  (k:∀σ' kvs' T2,KV kvs' w F WL AD (many+1) dep->FS N0 bH L F WL AD σ' kvs' found (ws++[.ref T]++[.ref T2]) (qn::st)->TP N0 L F WL AD σ' T t (place+1)->TP N0 L F WL AD σ' T2 t2 0->U.next<=T2->eE 7 U σ' (kX L F WL AD T)->RW (cH (ev (br sym) FL (m+40)) (d+2) (.dS ⟨L,L,[],491⟩ nB nC) σ') P):
  RW (cH (ev (br sym) FL (m+41)) (d+2) (.dS ⟨L,L,[],491⟩ nB nC) U) P:=by
 refine Gh c K S TT fJ W hz hm hr hi hne hpl λdP DN K6 I6 S7 T7 G=>?_;have K0:=aM G.le;have uY:=S.lt;obtain⟨Em,ajg,U3,l7,x7,d7,i7⟩:=qA.at S7;refine bW (ku (zP (uA (eV (λ_ _ _ _ _=>rfl) (dc (cI (aW (aP S7.l I6 (aW (cI (bG ⟨rfl,kZ (E6 x7 d7) ⟨ah,rfl,nofun,λ_=>?_⟩⟩)))))))))));have aft:∀{Pb:Bool->ES->Prop},Pb ak dP->RW (fK (ev (br sym) FL (m+33)) (d+2) ⟨L,L,[],491⟩ (.k8 (.int 0) .LtE (.loc pL) .Lt (.call (.az (.bi 2)) [.loc iS])) dP) Pb:=λ{Pb} hp=>by
  by_cases hd:dep<0
  ·exact Hi (cM (aP S7.l K6.depth ⟨ak,by rw[GC,decide_eq_true hd];rfl,λ_=>hp,nofun⟩))
  ·refine Hi (cM (aP S7.l K6.depth ⟨ah,by rw[GC,decide_eq_false hd];rfl,nofun,λ_=>dc (cI (aW (aP S7.l K6.ways (bG ⟨rfl,kZ (zb S7.wl (by rw[fX,jC];exact qp (aT aU (eX hws)) rfl)) ⟨ak,?_,hp⟩⟩))))⟩));rw[Hl,decide_eq_false (by rw[fX,jC];show¬dep<((ws.length+1:Nat):Int);exact zz2 h0 hd)]
 refine aft ?_;have afK:∀{Pb:Bool->ES->Prop},Pb ak dP->RW (fK (ev (br sym) FL (m+33)) (d+2) ⟨L,L,[],491⟩ (.gu (.cmp (.loc pL) .Lt (.int 0)) (.cmp (.attr (.loc eZ) bR) .In (.loc nS))) dP) Pb:=λ{Pb} hp=>by refine RG (eV (λ_ _ _ _ _=>rfl) (gf (aP S7.l K6.depth (cM ⟨_,Hl,_,rfl,λ_=>?_,λ_=>hp⟩))));exact eV (λ_ _ _ _ _=>rfl) (gf (iL (aP S7.l I6 ⟨t2,82,Em,_,_,rfl,x7,fM,tU,d7,rfl,rfl,aP S7.l K6.around ⟨ak,aeP S7.ad hn2,_,rfl,hp⟩⟩)))
 refine bW (ku (afK ?_));refine bW (r4 (kR (aP S7.l K6.ways (zh S7.wl rfl (aW (iC (aW (aP S7.l I6 (aW (cM (bG ⟨rfl,by exact aA (aT (dX G.ge) (bD hr)) rfl,λx8 dR u8=>?_⟩)))))))))));have S8:=S7.new u8;have T8:=T7.new u8;have e8:=u8.nx;have tw:=u8.nm;have lt8:=S8.lt;have P8:TP N0 L F WL AD dR x8 t2 0:=⟨u8.self,by exact⟨bI (aT (aq uY.1) (aT K0 (ao tw))) rfl,bI (aT (aq uY.2.1) (aT K0 (ao tw))) rfl,bI (aT (aq uY.2.2.1) (aT K0 (ao tw))) rfl,bI (aT (aq uY.2.2.2.1) (aT K0 (ao tw))) rfl⟩,by exact⟨aR (aT (aM uY.2.2.2.2) (aT K0 (ao tw))) rfl,aA (aT (aD tw) (au e8)) rfl⟩⟩;refine bG ⟨_,_,_,S8.wl,F4 (by rw[fX,jC];exact qp (aT aU (eX hws)) rfl),?_⟩;have u9:Upd WL (.list (ws++[.ref T]++[.ref x8])) dR (dR.put WL (.list (ws++[.ref T]++[.ref x8]))):=Upd.of S8.wl;generalize dR.put WL (.list (ws++[.ref T]++[.ref x8]))=i0 at*;have S9:=S8.way c u9;have T9:=T8.upd u9 T8.ne.2.2.1;have P9:=P8.upd u9 P8.ne.2.2.1;have e9:=u9.nx;obtain⟨dd9,akS,fd9,l9,x9,d9,i9⟩:=qA.at S9;refine bW (gV (Iw (Ds (aP S9.l K6.around (iL (aP S9.l I6 ⟨t2,82,dd9,_,_,rfl,x9,fM,tU,d9,rfl,rfl,_,abO S9.ad hn2 (ajx hws),?_⟩))))));have dM:Upd AD (.dict (dictOf (qn::st))) i0 (i0.put AD (.dict (dictOf (qn::st)))):=Upd.of S9.ad;generalize i0.put AD (.dict (dictOf (qn::st)))=cz at*;have S10:=S9.U4 c dM;have T10:=T9.upd dM T9.ne.2.2.2;have P10:=P9.upd dM P9.ne.2.2.2;have qz:=dM.nx;have ge10:cz.next=dP.next+1:=by rw[qz,e9,e8]
 refine kE (kE (kE (k cz _ x8 K6 S10 T10 P10 (by rw[tw];exact G.le) ⟨by rw[ge10];exact Ld G.le,by rw[ge10];exact eo (Lj G.ge) (vA (n:=4) (by decide) _),λy hy ny=>by rw[dM.fr y (λe=>ny (.inr (.inr (.inr (.inl e))))),u9.fr y (λe=>ny (.inr (.inr (.inl e)))),u8.fr y (aB (aT (aq hy) (aT K0 (ao tw))) rfl),G.fr y hy ny]⟩)))
end
section
inductive dN(N0:Nat)(bH:ES)(dep:Int):Nat->List Int->List AV->List AV->Nat->Prop where
 |nil {h:Nat} {st:List Int}:dN N0 bH dep h st [] [] 0
 |plain {h k:Nat} {st:List Int} {x:AV} {xs ys:List AV}:nv x->dN N0 bH dep h st xs ys k->dN N0 bH dep h st (x::xs) (x::ys) (k+1)
 |wV {h k:Nat} {st:List Int} {t:Nat} {num:Int} {items xs ys:List AV}:TH N0 bH t num items->0<=dep->dep<h->dN N0 bH dep h st xs ys k->dN N0 bH dep h st (.ref t::xs) (.ref t::ys) (k+1)
 |oU {h k k':Nat} {st:List Int} {t:Nat} {num:Int} {items xs ys zs:List AV}:TH N0 bH t num items->(dep<0\/(h:Int)<=dep)->num ∉ st->items.length<=1000000->dN N0 bH dep (h+1) (num::st) items zs k'->dN N0 bH dep h st xs ys k->dN N0 bH dep h st (.ref t::xs) (zs++ys) (k'+k+2)
theorem eE.trans{b b' b'':Nat}{U σ1 σ2:ES}{M M' Kf:Nat->Prop}(g:eE b U σ1 M)(g':eE b' σ1 σ2 M')(hb:b+b'<=b'')(h1:∀y,y<U.next->M y->Kf y)(h2:∀y,y<U.next->M' y->Kf y):eE b'' U σ2 Kf:=by exact⟨eo g.le g'.le,ajY hb g.ge g'.ge,λy hy ny=>(g'.fr y (dm hy g.le) λq=>ny (h2 y hy q)).trans (g.fr y hy λq=>ny (h1 y hy q))⟩
theorem eE.mono{b b':Nat}{U σ1:ES}{M M':Nat->Prop}(g:eE b U σ1 M)(hb:b<=b')(h1:∀y,y<U.next->M y->M' y):eE b' U σ1 M':=by exact⟨g.le,akD hb g.ge,λy hy ny=>g.fr y hy λq=>ny (h1 y hy q)⟩
variable{N0 L F WL AD w:Nat}{bH:ES}{dep:Int}{sym:Nat->Nat->Option (List Nat)}{FL:Ev->Nat->List AV->ES->R Out}{m d:Nat}{P:Flow->ES->Prop}
theorem FQ{h k:Nat}{st:List Int}{xs ys:List AV}(O:dN N0 bH dep h st xs ys k):ys.length<=k:=by
 induction O with
 |nil=>exact cN _
 |plain _ _ ih=>rw[lH];exact Ez ih 1
 |wV _ _ _ _ ih=>rw[lH];exact Ez ih 1
 |oU _ _ _ _ _ _ ih1 ih2=>rw[fX];exact aiZ ih1 ih2
set_option tactic.hygienic true in
theorem Δ(c:Cn N0 L F WL AD)(W:WN N0 bH w){h k:Nat}{st:List Int}{xs ys:List AV}(O:dN N0 bH dep h st xs ys k):
  ∀{m n:Nat} {U:ES} {kvs:List (Nat×AV)} {found ws items:List AV} {T t place many:Nat} {num:Int} {P:Flow->ES->Prop},n=m+40+k->place<=items.length->ws.length+1=h->st.length=h->TH N0 bH t num items->items.drop place=xs->items.length<=1000000->KV kvs w F WL AD many dep->
   FS N0 bH L F WL AD U kvs found (ws++[.ref T]) st->TP N0 L F WL AD U T t place->found.length+k<=100000->many+k<=20000->h+k<=40000->U.next+8*k+20<room->
   (∀σ' kvs' qf,KV kvs' w F WL AD qf dep->FS N0 bH L F WL AD σ' kvs' (found++ys) (ws++[.ref T]) st->TP N0 L F WL AD σ' T t items.length->qf<=many+k->eE (8*k) U σ' (kX L F WL AD T)->RW (cH (ev (br sym) FL (m+40)) (d+2) (.dS ⟨L,L,[],491⟩ nB nC) σ') P)->
   RW (cH (ev (br sym) FL n) (d+2) (.dS ⟨L,L,[],491⟩ nB nC) U) P:=by
 have Ho:∀{items:List AV} {place:Nat} {x:AV} {xs:List AV},items.drop place=x::xs->items[place]?=aa x/\place<items.length/\items.drop (place+1)=xs:=by
  intro items place x xs e;have hl:place<items.length:=by
   rcases Nat.lt_or_ge place items.length with q|q
   ·exact q
   ·rw[Ew q]at e;contradiction
  rw[Et hl]at e;cases e;exact⟨qF hl,hl,rfl⟩
 induction O with
 |nil=>
  intro m n U kvs found ws items T t place many num P hn zN hh hs fJ hd hz K S TT hf hm hk hr q;have hp:items.length<=place:=List.drop_eq_nil_iff.mp hd;have hp:place=items.length:=by exact cO (aR (aM zN) rfl) (aR (aM hp) rfl)
  subst hp;subst hn;exact q U kvs many K (by rw[lJ];exact S) TT (aj7) ⟨cN _,by exact akk,λ_ _ _=>rfl⟩
 |plain hx O ih=>
  intro m n U kvs found ws items T t place many num P hn zN hh hs fJ hd hz K S TT hf hm hk hr q
  rename_i h k st x xs ys
  refine cU (Ho hd) λhi hp hd'=>?_;have hn:n=(m+k)+41:=by exact air hn
  subst hn;refine YL hx c K S TT fJ W hz (Vv hf) (SM hm) (cX (aT aU (bD hr)) rfl) hi (aB (aq hp) rfl) (cL (aT (aM zN) (cC hz)) rfl) λσ' kvs' K' S' T' g=>?_;have a:=g.le;have b:=g.ge;refine ih (m:=m) (Jg) (AL (aq hp) rfl) hh hs fJ hd' hz K' S' T' (by rw[fX,jC];exact DP hf) (Rb hm) (SP hk) (TA hr b) λwL HE qf KC As JY hm' g'=>?_;rw[tF]at As;exact q wL HE qf KC As JY (Jf hm') (g.trans g' (Rp) (λ_ _ z=>z) λ_ _ z=>z)
 |wV qA h0 h1 O ih=>
  intro m n U kvs found ws items T t place many num P hn zN hh hs fJ hd hz K S TT hf hm hk hr q
  rename_i h k st t2 qn items2 xs ys
  refine cU (Ho hd) λhi hp hd'=>?_;have hn:n=(m+k)+41:=by exact Ub hn
  subst hn;refine ZH qA h0 (ajW h1 hh) c K S TT fJ W hz (Vv hf) (ai7 hh hk) (SM hm) (cX (aT aU (bD hr)) rfl) hi (aB (aq hp) rfl) (cL (aT (aq hp) (cC hz)) rfl) λσ' kvs' K' S' T' g=>?_;have a:=g.le;have b:=g.ge;refine ih (m:=m) (Jg) (AL (aq hp) rfl) hh hs fJ hd' hz K' S' T' (by rw[fX,jC];exact DP hf) (Rb hm) (SP hk) (TA hr b) λwL HE qf KC As JY hm' g'=>?_;rw[tF]at As;exact q wL HE qf KC As JY (Jf hm') (g.trans g' (Rp) (λ_ _ z=>z) λ_ _ z=>z)
 |oU qA h0 hn2 hz2 O1 O2 ih1 ih2=>
  intro m n U kvs found ws items T t place many num P hn zN hh hs fJ hd hz K S TT hf hm hk hr q
  rename_i h k k' st t2 qn items2 xs ys zs
  refine cU (Ho hd) λhi hp hd'=>?_;have hn:n=(m+(k'+k+1))+41:=by exact aic hn
  subst hn;refine υ qA (aiV h0 hh) hn2 c K S TT fJ W hz (ajz hh hs hk) (aiF hm) (cX (aT aU (bD hr)) rfl) hi (aB (aq hp) rfl) (cL (aT (aq hp) (cC hz)) rfl) λσ1 ak1 T2 K1 S1 T1 P1 hT2 g1=>?_;have a1:=g1.le;have b1:=g1.ge;have l1:=T1.lt;have n1:=T1.ne;have lt:=TT.lt;have lp:=P1.lt;have np:=P1.ne;refine ih1 (m:=m+k+1) (aj4) (BO _) (by rw[fX,jC];exact Nat.add_left_inj.mpr hh) (by rw[lH];exact cO (Eh (aD hs) rfl) (Eh (ao hs) rfl)) qA rfl hz2 K1 S1 P1 (akv hf) (ajO hm) (aiL hk) (ai2 hr b1) λσ2 akA akN K2 S2 P2 hm2 g2=>?_;have a2:=g2.le;have b2:=g2.ge;rw[show m+k+1+40=(m+k)+41 from by exact ajI];refine NP hn2 c K2 S2 P2 qA hz2 (by rw[fX,jC];exact ahX hh hs hk) (akz hr b1 b2) rfl λσ3 Sd K3 S3 g3=>?_;have a3:=g3.le;have b3:=g3.ge;have nT:¬kX L F WL AD T2 T:=by unfold kX;exact ajH hT2 n1 lt
  have T3:TP N0 L F WL AD σ3 T t (place+1):=⟨((g3.fr T (aA (aT (aq l1.2) (aM a2)) rfl) nT).trans (g2.fr T l1.2 nT)).trans T1.t,n1,by exact⟨aR (aM l1.1) rfl,aA (aT (aq l1.2) (aT (aM a2) (aM a3))) rfl⟩⟩;refine ih2 (m:=m) (aix) (AL (aq hp) rfl) hh hs fJ hd' hz K3 S3 T3 (by rw[fX];have:=FQ O1;exact ajh hf this) (akI hm hm2) (aiU hk) (aiN hr b1 b2 b3) λbA IS afL K4 S4 T4 hm4 g4=>?_;rw[tF]at S4;have a4:=g4.le;have b4:=g4.ge;have M2:∀y,y<U.next->kX L F WL AD T2 y->kX L F WL AD T y:=λy hy z=>by unfold kX at z ⊢;exact akf hT2 hy z
  refine q bA IS afL K4 S4 T4 (akh hm2 hm4) ⟨by exact aR (aT (aM a1) (aT (aM a2) (aT (aM a3) (aM a4)))) rfl,by exact aiv b1 b2 b3 b4,λy hy ny=>?_⟩;rw[g4.fr y (aA (aT (aq hy) (aT (aM a1) (aT (aM a2) (aM a3)))) rfl) ny,g3.fr y (aA (aT (aq hy) (aT (aM a1) (aM a2))) rfl) (λz=>ny (M2 y hy z)),g2.fr y (aA (aT (aq hy) (aM a1)) rfl) (λz=>ny (M2 y hy z)),g1.fr y hy ny]
end
section
theorem TH.move{N0 N1:Nat}{bH σ1:ES}{t:Nat}{num:Int}{items:List AV}(h:TH N0 bH t num items)(le:N0<=N1)(e:∀y,y<N0->σ1.get y=bH.get y):TH N1 σ1 t num items:=by refine yE h.ex λdd own fd l a b h1 h2 h3=>?_;exact⟨dd,own,fd,l,⟨(e _ h1).trans a.x,(e _ h2).trans a.d⟩,(e _ h3).trans b,by exact aA (aT (aq h1) (aM le)) rfl,by exact aA (aT (aq h2) (aM le)) rfl,by exact aA (aT (aq h3) (aM le)) rfl⟩
theorem dN.imp{N0 N1:Nat}{bH σ1:ES}{dep:Int}(f:∀t num items,TH N0 bH t num items->TH N1 σ1 t num items){h k:Nat}{st:List Int}{xs ys:List AV}(O:dN N0 bH dep h st xs ys k):dN N1 σ1 dep h st xs ys k:=by
 induction O with
 |nil=>exact .nil
 |plain hx _ ih=>exact .plain hx ih
 |wV h1 h2 h3 _ ih=>exact .wV (f _ _ _ h1) h2 h3 ih
 |oU h1 h2 h3 h4 _ _ ih1 ih2=>exact .oU (f _ _ _ h1) h2 h3 h4 ih1 ih2
theorem dN.move{N0 N1:Nat}{bH σ1:ES}{dep:Int}(le:N0<=N1)(e:∀y,y<N0->σ1.get y=bH.get y){h k:Nat}{st:List Int}{xs ys:List AV}(O:dN N0 bH dep h st xs ys k):dN N1 σ1 dep h st xs ys k:=
 O.imp λ_ _ _ h=>h.move le e
theorem WN.move{N0 N1:Nat}{bH σ1:ES}{w:Nat}(h:WN N0 bH w)(le:N0<=N1)(e:∀y,y<N0->σ1.get y=bH.get y):WN N1 σ1 w:=by refine GJ h.ex λwn kvs a b c h1 h2=>?_;exact⟨wn,kvs,(e _ h1).trans a,(e _ h2).trans b,c,by exact aA (aT (aq h1) (aM le)) rfl,by exact aA (aT (aq h2) (aM le)) rfl⟩
theorem di.wn{U:ES}{w wn md ac:Nat}{c:Int}(h:di U w wn md ac c):WN U.next U w:=by refine jB h.ex λkvs mk KA=>?_;have h1:=KA.a1;have h2:=KA.a2;have h9:=KA.a9;exact⟨wn,kvs,h1,h2,h9,h.lt.1,h.lt.2.1⟩
variable{sym:Nat->Nat->Option (List Nat)}{FL:Ev->Nat->List AV->ES->R Out}{m d n k:Nat}{U:ES}{w arr a:Nat}{dep num:Int}{items ys:List AV}
theorem afV:(br sym).fn 491=aa Qg:=by kernel_rfl
theorem agI:(br sym).fn 498=aa PF:=by kernel_rfl
theorem aha:(br sym).fn 505=aa ON:=by kernel_rfl
theorem afM:(br sym).fn 372=aa Pn:=by kernel_rfl
theorem agN:(br sym).fn 237=aa PS:=by kernel_rfl
theorem adY:(br sym).may 491=ah:=by kernel_rfl
theorem PW:(br sym).may 498=ah:=by kernel_rfl
theorem Hx:(br sym).may 505=ah:=by kernel_rfl
theorem acE:(br sym).may 372=ah:=by kernel_rfl
theorem adm:(br sym).may 237=ah:=by kernel_rfl
inductive FO(ys:List AV)(N:Nat)(U:ES)(v:AV)(σ':ES):Prop
 |mk (l:Nat) (e:v= .ref l) (h1:σ'.get l=aa (.list ys)) (h2:U.next<=l) (h3:l<σ'.next) (g:eE N U σ' (λ_=>False)):FO ys N U v σ'
theorem abp(hn:n=m+k+44)(fJ:TH U.next U arr num items)(W:WN U.next U w)(O:dN U.next U dep 1 [num] items ys k)(hz:items.length<=1000000)(hk:k<=19000)(hr:U.next+8*k+60<room):
  RW (dW (ev (br sym) FL n) (d+3) (.adr 491) [.ref w,.ref arr,.int (.lit dep)] U) (FO ys (8*k+30) U):=by
 subst hn;refine jw afV rfl rfl rfl rfl rfl (aA (aT aU (bD hr)) rfl) λL σ1 u1=>?_;have h1:=u1.nm;have e1:=u1.nx;have q1:=u1.self;refine bW (gV (zC (aW (iC (bG ⟨rfl,by exact aA (aT (aL e1) (aT aU (bD hr))) rfl,λF σ2 u2=>?_⟩)))));have h2:=u2.nm;have e2:=u2.nx;have q2:=u2.get (aB (aT (aD h1) (aT (au e1) (ao h2))) rfl) q1;refine aW (iC (aW (iC (aW (aP q2 rfl (aW (cM (bG ⟨rfl,by exact aA (aT (aL e2) (aT aU (aT (aK (aL e1)) (bD hr)))) rfl,λT σ3 u3=>?_⟩))))))));have h3:=u3.nm;have eW:=aT (au e1) (aT (au e2) (ao h3));have e3:=u3.nx;have bY:=aT (au e1) (aT (au e2) (au e3));have q3:=u3.get (aB (aT (aD h1) eW) rfl) q2;refine bG ⟨rfl,by exact aA (aT (aL e3) (aT aU (aT (aK (aL e2)) (aT (aK (aL e1)) (bD hr))))) rfl,λWL bA u4=>?_⟩;have h4:=u4.nm;have e4:=u4.nx;have q4:=u4.get (aB (aT (aD h1) (aT bY (ao h4))) rfl) q3;refine aW (acs (aA (aT (aL e4) (aT aU (aT (aK (aL e3)) (aT (aK (aL e2)) (aT (aK (aL e1)) (bD hr)))))) rfl) λAD bT u5=>?_);have h5:=u5.nm;have jR:=aT (au e3) (aT (au e4) (ao h5));have fF:=aT bY (aT (au e4) (ao h5));have e5:=u5.nx;have q5:=u5.get (aB (aT (aD h1) fF) rfl) q4;have iM:∀y,y<U.next->bT.get y=U.get y:=λy hy=>by rw[u5.fr y (aB (aT (aq hy) fF) rfl),u4.fr y (aB (aT (aq hy) (aT bY (ao h4))) rfl),u3.fr y (aB (aT (aq hy) eW) rfl),u2.fr y (aB (aT (aq hy) (aT (au e1) (ao h2))) rfl),u1.fr y (aB (aT (aq hy) (ao h1)) rfl)]
 refine yE fJ.ex λdd own fd l a1 a2 a3 a4 a5=>?_;refine iL (aP q5 rfl ⟨arr,82,dd,_,_,rfl,(iM _ a3).trans a1.x,fM,tU,(iM _ a4).trans a1.d,rfl,rfl,Iw ⟨_,rfl,u5.self,λfz u6=>?_⟩⟩);have e6:=u6.nx;have q6:=u6.get (aB (aT (aD h1) fF) rfl) q5;refine aW (cM (bG ⟨rfl,by exact aA (aT (aD e6) (aT aU (aT (aK (aL e5)) (aT (aK (aL e4)) (aT (aK (aL e3)) (aT (aK (aL e2)) (aT (aK (aL e1)) (bD hr)))))))) rfl,λtp dP u7=>?_⟩));have h7:=u7.nm;have gY:=aT (au e4) (aT (au e5) (aT (ao e6) (ao h7)));have e7:=u7.nx;have q7:=u7.get (aB (aT (aD h1) (aT bY gY)) rfl) q6;refine IL (vs:=[.ref F,.ref WL,.ref AD,.int (.lit 0)]) (yS u7.self) rfl ?_;refine sr q7 λdR u8=>sr u8.self λi0 u9=>sr u9.self λcz dM=>sr dM.self λjS i6=>Hr ?_;have e8:=u8.nx;have e9:=u9.nx;have qz:=dM.nx;have xF:=i6.nx;have iG:=aT (au e5) (aT (ao e6) (aT (au e7) (aT (ao e8) (aT (ao e9) (aT (ao qz) (ao xF))))));have bg:=aT (au e4) iG;have fr:∀y,y<jS.next->y≠L->y≠tp->jS.get y=fz.get y:=λy hy h1 h2=>by rw[i6.fr y (by show y≠L;exact h1),dM.fr y (by show y≠L;exact h1),u9.fr y (by show y≠L;exact h1),u8.fr y (by show y≠L;exact h1),u7.fr y (h2)]
 have Dg:∀y,y<U.next->jS.get y=U.get y:=λy hy=>by rw[fr y (aA (aT (aq hy) (aT bY bg)) rfl) (aB (aT (aq hy) (ao h1)) rfl) (aB (aT (aq hy) (aT bY gY)) rfl),u6.fr y (aB (aT (aq hy) fF) rfl),iM y hy]
 have c:Cn U.next L F WL AD:=⟨by exact aB (aT (aD h1) (aT (au e1) (ao h2))) rfl,by exact aB (aT (aD h1) (aT bY (ao h4))) rfl,by exact aB (aT (aD h1) fF) rfl,by exact aB (aT (aD h2) (aT (au e2) (aT (au e3) (ao h4)))) rfl,by exact aB (aT (aD h2) (aT (au e2) jR)) rfl,by exact aB (aT (aD h4) (aT (au e4) (ao h5))) rfl,by exact⟨aR (ao h1) rfl,aR (aT (au e1) (ao h2)) rfl,aR (aT bY (ao h4)) rfl,aR fF rfl⟩⟩
 have S:FS U.next U L F WL AD jS _ [] ([]++[.ref T]) [num]:=⟨i6.self,by
   rw[fr F (aA (aT (aD h2) (aT (au e2) (aT (au e3) bg))) rfl) (bI (aT (aD h1) (aT (au e1) (ao h2))) rfl) (aB (aT (aD h2) (aT (au e2) (aT (au e3) gY))) rfl),u6.fr F (aB (aT (aD h2) (aT (au e2) jR)) rfl),u5.fr F (aB (aT (aD h2) (aT (au e2) jR)) rfl),u4.fr F (aB (aT (aD h2) (aT (au e2) (aT (au e3) (ao h4)))) rfl),u3.fr F (aB (aT (aD h2) (aT (au e2) (ao h3))) rfl)];exact u2.self,by
   rw[fr WL (aA (aT (aD h4) bg) rfl) (bI (aT (aD h1) (aT bY (ao h4))) rfl) (aB (aT (aD h4) gY) rfl),u6.fr WL (aB (aT (aD h4) (aT (au e4) (ao h5))) rfl),u5.fr WL (aB (aT (aD h4) (aT (au e4) (ao h5))) rfl)];exact u4.self,by
   rw[fr AD (aA (aT (aD h5) iG) rfl) (bI (aT (aD h1) fF) rfl) (aB (aT (aD h5) (aT (au e5) (aT (ao e6) (ao h7)))) rfl)];exact u6.self,Dg,by exact⟨aA (aT (aD h1) (aT bY bg)) rfl,aA (aT (aD h2) (aT (au e2) (aT (au e3) bg))) rfl,aA (aT (aD h4) bg) rfl,aA (aT (aD h5) iG) rfl,aR (aT bY bg) rfl⟩⟩
 have TT:TP U.next L F WL AD jS T arr 0:=⟨by rw[fr T (aA (aT (aD h3) (aT (au e3) bg)) rfl) (bI (aT (aD h1) eW) rfl) (aB (aT (aD h3) (aT (au e3) gY)) rfl),u6.fr T (aB (aT (aD h3) jR) rfl),u5.fr T (aB (aT (aD h3) jR) rfl),u4.fr T (aB (aT (aD h3) (aT (au e3) (ao h4))) rfl)];exact u3.self,by exact⟨bI (aT (aD h1) eW) rfl,bI (aT (aD h2) (aT (au e2) (ao h3))) rfl,aB (aT (aD h3) (aT (au e3) (ao h4))) rfl,aB (aT (aD h3) jR) rfl⟩,by exact⟨aR eW rfl,aA (aT (aD h3) (aT (au e3) bg)) rfl⟩⟩
 refine bW (aeF ?_);refine Δ (m:=m+1) (many:=0) c W O (akd) (BO _) rfl rfl fJ rfl hz ⟨rfl,rfl,rfl,rfl,rfl,rfl⟩ S TT (by show 0+k<=100000;exact ahP hk) (ahD hk) (ag5 hk) (cX (aT (aK (aD xF)) (aT (aK (aD qz)) (aT (aK (aD e9)) (aT (aK (aD e8)) (aT (aK (aL e7)) (aT (aK (aD e6)) (aT (aK (aL e5)) (aT (aK (aL e4)) (aT (aK (aL e3)) (aT (aK (aL e2)) (aT (aK (aL e1)) (bD hr)))))))))))) rfl) λwX akO akK K12 S12 Kn ak2 tB=>?_;have qw:=tB.le;have Ba:=tB.ge;refine NP (m:=m) (by simp) c K12 S12 Kn fJ hz (by show 0+0<100000;decide) (cX (aT (aM Ba) (aT (aK (aD xF)) (aT (aK (aD qz)) (aT (aK (aD e9)) (aT (aK (aD e8)) (aT (aK (aL e7)) (aT (aK (aD e6)) (aT (aK (aL e5)) (aT (aK (aL e4)) (aT (aK (aL e3)) (aT (aK (aL e2)) (aT (aK (aL e1)) (bD hr))))))))))))) rfl) rfl λjU akQ Vq U8 JZ=>?_;have Eb:=JZ.le;have Wh:=JZ.ge;refine Hz (eV (λ_ _ _ _ _=>rfl) (gf (aP U8.l Vq.ways (iC (bG ⟨rfl,by exact aA (aT (dX Wh) (aT (aM Ba) (aT (aK (aD xF)) (aT (aK (aD qz)) (aT (aK (aD e9)) (aT (aK (aD e8)) (aT (aK (aL e7)) (aT (aK (aD e6)) (aT (aK (aL e5)) (aT (aK (aL e4)) (aT (aK (aL e3)) (aT (aK (aL e2)) (aT (aK (aL e1)) (bD hr)))))))))))))) rfl,λx14 wR mW=>?_⟩)))));have Jm:=U8.new mW;have JC:=mW.nx;have xD:=mW.nm;refine⟨ak,Ng Jm.wl mW.self,ak,rfl,λ_=>?_,nofun⟩;refine bW (kU (aP Jm.l Vq.found (lQ (kP ⟨F,rfl,Jm.f,by exact aR (aT (au e1) (ao h2)) rfl,by exact aA (aT (aD h2) (aT (au e2) (aT (au e3) (aT bg (aT (aM qw) (aT (aM Eb) (au JC))))))) rfl,by exact aR (aT bY (aT bg (aT (aM qw) (aT (aM Eb) (au JC))))) rfl,by exact DT (aT (aL JC) (aT (dX Wh) (aT (aM Ba) (aT (aK (aD xF)) (aT (aK (aD qz)) (aT (aK (aD e9)) (aT (aK (aD e8)) (aT (aK (aL e7)) (aT (aK (aD e6)) (aT (aK (aL e5)) (aT (aK (aL e4)) (aT (aK (aL e3)) (aT (aK (aL e2)) (aK (aL e1))))))))))))))) rfl,λy hy _=>?_⟩))));rw[mW.fr y (aB (aT (aq hy) (aT bY (aT bg (aT (aM qw) (aT (aM Eb) (ao xD)))))) rfl),JZ.fr y (aA (aT (aq hy) (aT bY (aT bg (aM qw)))) rfl) (by unfold kX;exact lU (aB (aT (aq hy) (ao h1)) rfl) (lU (aB (aT (aq hy) (aT (au e1) (ao h2))) rfl) (lU (aB (aT (aq hy) (aT bY (ao h4))) rfl) (lU (aB (aT (aq hy) fF) rfl) (aB (aT (aq hy) eW) rfl))))),tB.fr y (aA (aT (aq hy) (aT bY bg)) rfl) (by unfold kX;exact lU (aB (aT (aq hy) (ao h1)) rfl) (lU (aB (aT (aq hy) (aT (au e1) (ao h2))) rfl) (lU (aB (aT (aq hy) (aT bY (ao h4))) rfl) (lU (aB (aT (aq hy) fF) rfl) (aB (aT (aq hy) eW) rfl))))),Dg y hy]
theorem η{i:AI}(hr:U.next+1<room):RW (dW (ev (br sym) FL (n+8)) (d+2) (.adr 237) [.int i] U) λv σ'=>v= .bool ah/\eE 1 U σ' (λ_=>False):=by refine jw agN rfl rfl rfl rfl rfl (aA (bD hr) rfl) λq σ1 u1=>?_;have h1:=u1.nm;have e1:=u1.nx;refine bW (kU (HH (dc (cI (aW (aP u1.self rfl (aW (cI (bG ⟨rfl,kZ (v:=.bool ah) (σ1:=σ1) rfl ⟨ah,rfl,λ_=>?_,nofun⟩⟩)))))))));refine aeT (dc (cI (aW (aP u1.self rfl (aW (cI (bG ⟨rfl,kZ (v:=.bool ak) (σ1:=σ1) rfl ⟨ak,rfl,?_⟩⟩)))))));exact lQ (kP ⟨rfl,by exact aR (au e1) rfl,by exact jn (aL e1) rfl,λy hy _=>u1.fr y (aB (aT (aq hy) (ao h1)) rfl)⟩)
theorem Yo{i:AI}(hr:U.next+2<room):RW (dW (ev (br sym) FL (n+20)) (d+3) (.adr 372) [.ref w,.int i] U) λv σ'=>v= .int i/\eE 2 U σ' (λ_=>False):=by refine jw afM rfl rfl rfl rfl rfl (aA (bD hr) rfl) λq σ1 u1=>?_;have h1:=u1.nm;have e1:=u1.nx;refine bW (ku (eV (λ_ _ _ _ _=>rfl) (gf (aP u1.self rfl (qY ⟨ak,rfl,ak,rfl,qh ?_⟩)))));refine bW (ku (uA (eV (λ_ _ _ _ _=>rfl) (dc (cI (aW (aP u1.self rfl (bG ⟨adm,(η (cX (aT (aL e1) (bD hr)) rfl)).mono λv σ2 z=>?_⟩))))))));obtain⟨rfl,g⟩:=z;have a:=g.le;have b:=g.ge;refine⟨ah,rfl,qh ?_⟩;refine bW (kU (aP ((g.fr q (aA (aT (aD h1) (au e1)) rfl) nofun).trans u1.self) rfl (lQ (kP ⟨rfl,by exact aR (aT (au e1) (aM a)) rfl,by exact jn (aT (dX b) (aL e1)) rfl,λy hy _=>?_⟩))));rw[g.fr y (aA (aT (aq hy) (au e1)) rfl) nofun,u1.fr y (aB (aT (aq hy) (ao h1)) rfl)]
end
section
variable{sym:Nat->Nat->Option (List Nat)}{FL:Ev->Nat->List AV->ES->R Out}{m d n k:Nat}{U:ES}{w arr a:Nat}{dep num:Int}{items ys sP:List AV}
theorem HP{C:EC}{x y:Nat}{xs:List AV}(hx:U.get x=aa (.list xs))(hy:U.get y=aa (.list [])):jv C .Eq (.ref x) (.ref y) U=aa (xs.isEmpty):=by
 show fG U 8 (.ref x) (.ref y)=_;rw[we hx hy];cases xs with
 |nil=>rfl
 |cons _ _=>rfl
theorem Mb(hn:n=m+k+60)(ha:U.get a=aa (.list sP))(la:a<U.next)(J8:(sP=[]/\dep= -1)\/(sP=[.none]/\dep= -1)\/sP=[.int (.lit dep)])(fJ:TH U.next U arr num items)(W:WN U.next U w)(O:dN U.next U dep 1 [num] items ys k)(hz:items.length<=1000000)(hk:k<=19000)(hr:U.next+8*k+80<room):
  RW (dW (ev (br sym) FL n) (d+6) (.adr 498) [.ref w,.ref arr,.ref a] U) (FO ys (8*k+40) U):=by
 subst hn;refine jw agI rfl rfl rfl rfl rfl (aA (aT aU (bD hr)) rfl) λq σ1 u1=>?_;have h1:=u1.nm;have e1:=u1.nx;have q1:=u1.self;have a1:=u1.get (aB (aT (aq la) (ao h1)) rfl) ha;have jQ:∀y,y<U.next->σ1.get y=U.get y:=λy hy=>u1.fr y (aB (aT (aq hy) (ao h1)) rfl)
 refine bW (kU (dc (cI (aW (aP q1 rfl (aW (aP q1 rfl (aW ?_))))))));have tail:∀σ2,eE 4 σ1 σ2 (λ_=>False)->RW (ia (ev (br sym) FL (m+k+57)) (d+5) ⟨q,q,[],498⟩ [] σ2) λvs σ3=>iE (br sym) (.adr 491) σ3=ah/\RW (dW (ev (br sym) FL (m+k+57)) (d+5) (.adr 491) (.ref w:: .ref arr:: .int (.lit dep)::vs) σ3)
   (λv σ1=>Cont (br sym) FL (m+k+58) (d+5) ⟨q,q,[],498⟩ [] (λf σ2=>RW (cA (rC f σ2)) (FO ys (8*k+40) U)) (.ret v) σ1):=λσ2 g=>by
  have b1:=g.le;have b2:=g.ge;have lR:∀y,y<U.next->σ2.get y=U.get y:=λy hy=>(g.fr y (aA (aT (aq hy) (au e1)) rfl) nofun).trans (jQ y hy)
  refine bG ⟨adY,(abp (m:=m+13) (ahi) (fJ.move (aR (aT (au e1) (aM b1)) rfl) lR) (W.move (aR (aT (au e1) (aM b1)) rfl) lR) (O.move (aR (aT (au e1) (aM b1)) rfl) lR) hz hk (cX (aT (aK (dX b2)) (aT (aK (aL e1)) (bD hr))) rfl)).mono λv σ3 z=>?_⟩;obtain⟨l,dQ,z1,z2,z3,z4⟩:=z;subst dQ;exact lQ (kP ⟨l,rfl,z1,by exact aR (aT (au e1) (aT (aM b1) (aM z2))) rfl,z3,by have:=z4.le;exact aR (aT (au e1) (aT (aM b1) (aM this))) rfl,by have:=z4.ge;exact DT (aT (xe this) (aT (aK (dX b2)) (aK (aL e1)))) rfl,λy hy _=>(z4.fr y (aA (aT (aq hy) (aT (au e1) (aM b1))) rfl) nofun).trans (lR y hy)⟩)
 refine zD (zP (eV (λ_ _ _ _ _=>rfl) (gf (aP q1 rfl (iC (bG ⟨rfl,by exact aA (aT (aL e1) (aT aU (bD hr))) rfl,λx σ2 u2=>?_⟩))))));have h2:=u2.nm;have e2:=u2.nx;have a2:=u2.get (aB (aT (aq la) (aT (au e1) (ao h2))) rfl) a1;have q2:=u2.get (aB (aT (aD h1) (aT (au e1) (ao h2))) rfl) q1;have G2:eE 1 σ1 σ2 (λ_=>False):=⟨by exact aR (au e2) rfl,by exact jn (aL e2) rfl,λy hy _=>u2.fr y (aB (aT (aq hy) (ao h2)) rfl)⟩;rcases J8 with⟨rfl,rfl⟩|⟨rfl,rfl⟩|rfl
 ·exact⟨ah,HP (xs:=[]) a2 u2.self,ah,rfl,λ_=>zl (cM ⟨.int (.lit (-1)),rfl,tail σ2 (G2.mono (by decide) λ_ _ z=>z)⟩),nofun⟩
 ·refine⟨ak,HP (xs:=[.none]) a2 u2.self,ak,rfl,nofun,λ_=>?_⟩;exact eV (λ_ _ _ _ _=>rfl) (gf (kD (aP q2 rfl (cM ⟨_,_,pT (i:=0) a2 rfl (by decide),qY ⟨ah,rfl,ah,rfl,zl (cM ⟨.int (.lit (-1)),rfl,tail σ2 (G2.mono (by decide) λ_ _ z=>z)⟩)⟩⟩))))
 ·refine⟨ak,HP (xs:=[.int (.lit dep)]) a2 u2.self,ak,rfl,nofun,λ_=>?_⟩;refine eV (λ_ _ _ _ _=>rfl) (gf (kD (aP q2 rfl (cM ⟨_,_,pT (i:=0) a2 rfl (by decide),qY ⟨ak,rfl,ak,rfl,?_⟩⟩))));refine dc (cI (aW (aP q2 rfl (aW (kD (aP q2 rfl (cM ⟨_,_,pT (i:=0) a2 rfl (by decide),bG ⟨acE,?_⟩⟩)))))));refine(Yo (n:=m+k+35) (d:=d+2) (cX (aT (aL e2) (aT aU (aT (aK (aL e1)) (bD hr)))) rfl)).mono λv σ3 z=>?_;obtain⟨rfl,g⟩:=z;exact tail σ3 (G2.trans g (by decide) (λ_ _ z=>z) λ_ _ z=>z)
theorem EK{wn md ac:Nat}{c:Int}(hn:n=m+k+80)(ha:U.get a=aa (.list sP))(la:a<U.next)(J8:(sP=[]/\dep= -1)\/(sP=[.none]/\dep= -1)\/sP=[.int (.lit dep)])(fJ:TH U.next U arr num items)(W:di U w wn md ac c)(O:dN U.next U dep 1 [num] items ys k)(hz:items.length<=1000000)(hk:k<=19000)(hr:U.next+8*k+110<room):
  RW (dW (ev (br sym) FL n) (d+7) (.adr 505) [.ref w,.ref arr,.ref a] U) (LF ys (8*k+60) w wn md ac c U):=by
 subst hn;refine jB (id W.ex) λkvs mk JW=>?_;have h1:=JW.a1;have h2:=JW.a2;have h8:=JW.a8;refine cU W.lt λl1 l2 l3=>?_;have lo:=FQ O;refine jw aha rfl rfl rfl rfl rfl (aA (aT aU (bD hr)) rfl) λq σ1 u1=>?_;have hq:=u1.nm;have e1:=u1.nx;have q1:=u1.self;have a1:=u1.get (aB (aT (aq la) (ao hq)) rfl) ha;have jQ:∀y,y<U.next->σ1.get y=U.get y:=λy hy=>u1.fr y (aB (aT (aq hy) (ao hq)) rfl)
 refine bW (kU (kR (aP q1 rfl (ug (u1.get (aB (aT (aq l1) (ao hq)) rfl) h1) ou BN (u1.get (aB (aT (aq l2) (ao hq)) rfl) h2) h8 CU (aW (dc (cI (aW (aP q1 rfl (aW (aP q1 rfl (aW (aP q1 rfl (bG ⟨PW,?_⟩))))))))))))));refine(Mb (m:=m+16) (akq) a1 (aA (aT (aq la) (au e1)) rfl) J8 (fJ.move (aR (au e1) rfl) jQ) ((W.new u1).wn) (O.move (aR (au e1) rfl) jQ) hz hk (cX (aT (aK (aL e1)) (bD hr)) rfl)).mono λv σ2 z=>?_;obtain⟨l,ig,z1,z2,z3,g2⟩:=z;subst ig;have a2:=g2.le;have b2:=g2.ge;refine bG ((BV (n:=m+k+55) (d:=d+2) ((W.new u1).grow g2 nofun nofun nofun) z1 z3 (Nat.ble_eq.mpr (cL (aT (aM lo) (cC hk)) rfl)) (cX (aT (xe b2) (aT (aK (aL e1)) (bD hr))) rfl)).mono λv σ3 z=>?_);obtain⟨x,dd,fd,l',jW,t,y1,W3,y2,y3,y4,y5,y6,y7,g3⟩:=z;subst jW;have a3:=g3.le;have b3:=g3.ge;refine lQ (kP ⟨x,dd,fd,l',rfl,t,y1,W3,by exact aR (aT (au e1) (aT (aM a2) (aM y2))) rfl,by exact aR (aT (au e1) (aT (aM a2) (aM y3))) rfl,by exact aR (aT (au e1) (aT (aM a2) (aM y4))) rfl,y5,y6,y7,by exact aR (aT (au e1) (aT (aM a2) (aM a3))) rfl,by exact DT (aT (dX b3) (aT (xe b2) (aK (aL e1)))) rfl,λy hy ny=>?_⟩);rw[g3.fr y (aA (aT (aq hy) (aT (au e1) (aM a2))) rfl) ny,g2.fr y (aA (aT (aq hy) (au e1)) rfl) nofun,jQ y hy]
end
section
variable{C:EC}{sym:Nat->Nat->Option (List Nat)}{FL:Ev->Nat->List AV->ES->R Out}{m d n k:Nat}{U:ES}{Pv:AV->ES->Prop}
theorem N3{k p:Nat}(h:aH k p=ak):[k].any (aH p ·)=ak:=by show(aH p k||ak)=ak;rw[Bool.or_false,fT,decide_eq_false];intro e;rw[e,fT,decide_eq_true rfl]at h;exact Bb h
theorem HW(k:Nat):aH k k=ah:=by rw[fT,decide_eq_true rfl]
theorem aej{cx:CX}{k c:Nat}{a:AV}{o:Option AV}{U:ES}(h:ri cx.cells k=aa c)(g:U.get c=aa (.cell o)):gH cx k ah a U=aa (U.put c (.cell (aa a))):=by show(ri cx.cells k).bind _=_;rw[h];show(U.gC c).map _=_;rw[RB g];rfl
theorem ahF{q a p0 kc p2 c:Nat}{v0 v1 v2:AV}{U:ES}(q2:U.get q=aa (.ns []))(c3:(U.put q (.ns (putN [] p0 v0))).get c=aa (.cell af))(q4:((U.put q (.ns (putN [] p0 v0))).put c (.cell (aa v1))).get q=aa (.ns (putN [] p0 v0)))
  (h6:aH kc p0=ak) (AJ:aH kc p2=ak):bindAll ⟨q,q,[(kc,c)],a⟩ [kc] [p0,kc,p2] [v0,v1,v2] U=aa (((U.put q (.ns (putN [] p0 v0))).put c (.cell (aa v1))).put q (.ns (putN (putN [] p0 v0) p2 v2))):=by
 show(gH ⟨q,q,[(kc,c)],a⟩ p0 ([kc].any (aH p0 ·)) v0 U).bind _=_;rw[N3 h6,ue q2];show(gH ⟨q,q,[(kc,c)],a⟩ kc ([kc].any (aH kc ·)) v1 _).bind _=_;rw[show [kc].any (aH kc ·)=ah from by show(aH kc kc||ak)=ah;rw[HW];rfl,aej (show ri [(kc,c)] kc=aa c from by show @ee (λ_=>Option Nat) af (aa c) (aH kc kc)=_;rw[HW]) c3];show(gH ⟨q,q,[(kc,c)],a⟩ p2 ([kc].any (aH p2 ·)) v2 _).bind _=_;rw[N3 AJ,ue q4];rfl
theorem Qj{a p0 kc p2:Nat}{fi:FI}{v0 v1 v2:AV}(h1:C.fn a=aa fi)(h2:C.spec a=af)(h3:fi.cells=[kc])(h4:fi.params=[p0,kc,p2])(h5:fi.dflt=[])(h6:aH kc p0=ak)(AJ:aH kc p2=ak)(h7:U.next+1<room)
  (h:RW (cH (ev C FL n) d (.s ⟨(U.add (.ns [])).1,(U.add (.ns [])).1,[(kc,((U.add (.ns [])).2.add (.cell af)).1)],a⟩ fi.body) (((((U.add (.ns [])).2.add (.cell af)).2.put (U.add (.ns [])).1 (.ns (putN [] p0 v0))).put ((U.add (.ns [])).2.add (.cell af)).1 (.cell (aa v1))).put (U.add (.ns [])).1 (.ns (putN (putN [] p0 v0) p2 v2)))) λf σ2=>RW (cA (rC f σ2)) Pv):RW (dW (ev C FL (n+1)) (d+1) (.adr a) [v0,v1,v2] U) Pv:=by
 refine eO h1 (Jt h2 ?_);show RW (cA (Ie (ev C FL n) d a fi [v0,v1,v2] (U.add (.ns [])).1 (eN fi.cells [] (U.add (.ns [])).2))) Pv;rw[h3];show RW (cA (ux (ev C FL n) d fi [v0,v1,v2] ⟨(U.add (.ns [])).1,(U.add (.ns [])).1,[(kc,((U.add (.ns [])).2.add (.cell af)).1)],a⟩ ((U.add (.ns [])).2.add (.cell af)).2)) Pv;have N1:=cV.of (U:=U) (o:=.ns []) (show U.next<room by exact aA (bD h7) rfl);have N2:=cV.of (U:=(U.add (.ns [])).2) (o:=.cell af) (aA (aT (aL N1.nx) (bD h7)) rfl);generalize (U.add (.ns [])).1=q at*;generalize (U.add (.ns [])).2=σ1 at*;generalize (σ1.add (.cell af)).1=c at*;generalize (σ1.add (.cell af)).2=σ2 at*;have bg:=aT (aD N1.nm) (aT (au N1.nx) (ao N2.nm));have q2:σ2.get q=aa (.ns []):=N2.get (aB bg rfl) N1.self;have u3:=Upd.of (o:=.ns (putN [] p0 v0)) q2;have c3:(σ2.put q (.ns (putN [] p0 v0))).get c=aa (.cell af):=u3.get (bI bg rfl) N2.self;have u4:=Upd.of (o:=.cell (aa v1)) c3;have q4:=u4.get (by show q≠c;exact aB bg rfl) u3.self;have u5:=Upd.of (o:=.ns (putN (putN [] p0 v0) p2 v2)) q4;unfold ux;rw[h3,h4,h5,show zw [p0,kc,p2] [] [v0,v1,v2]=[v0,v1,v2]from rfl,ahF q2 c3 q4 h6 AJ];exact jw.MV (bO rfl (bO (qi u5.self) (jw.Ml h)))
theorem agD{a p0 kc p2:Nat}{fi:FI}{v0 v1 v2:AV}(h1:C.fn a=aa fi)(h2:C.spec a=af)(h3:fi.cells=[kc])(h4:fi.params=[p0,kc,p2])(h5:fi.dflt=[])(h6:aH kc p0=ak)(AJ:aH kc p2=ak)(h7:U.next+1<room)
  (h:∀q c σ1,q=U.next->c=U.next+1->σ1.next=U.next+2->σ1.get q=aa (.ns (putN (putN [] p0 v0) p2 v2))->σ1.get c=aa (.cell (aa v1))->(∀y,y<U.next->σ1.get y=U.get y)->
   RW (cH (ev C FL n) d (.s ⟨q,q,[(kc,c)],a⟩ fi.body) σ1) λf σ2=>RW (cA (rC f σ2)) Pv):RW (dW (ev C FL (n+1)) (d+1) (.adr a) [v0,v1,v2] U) Pv:=by
 refine Qj h1 h2 h3 h4 h5 h6 AJ h7 ?_;have N1:=cV.of (U:=U) (o:=.ns []) (show U.next<room by exact aA (bD h7) rfl);have N2:=cV.of (U:=(U.add (.ns [])).2) (o:=.cell af) (aA (aT (aL N1.nx) (bD h7)) rfl);generalize (U.add (.ns [])).1=q at*;generalize (U.add (.ns [])).2=σ1 at*;generalize (σ1.add (.cell af)).1=c at*;generalize (σ1.add (.cell af)).2=σ2 at*;have hq:=N1.nm;have e1:=N1.nx;have hc:=N2.nm;have e2:=N2.nx;have bg:=aT (aD hq) (aT (au e1) (ao hc));have q2:σ2.get q=aa (.ns []):=N2.get (aB bg rfl) N1.self;have u3:=Upd.of (o:=.ns (putN [] p0 v0)) q2;have c3:(σ2.put q (.ns (putN [] p0 v0))).get c=aa (.cell af):=u3.get (bI bg rfl) N2.self;have u4:=Upd.of (o:=.cell (aa v1)) c3;have q4:=u4.get (by show q≠c;exact aB bg rfl) u3.self;have u5:=Upd.of (o:=.ns (putN (putN [] p0 v0) p2 v2)) q4;exact h q c _ hq (cO (jn (aT (aD hc) (aL e1)) rfl) (AL (aT (au e1) (ao hc)) rfl)) (by rw[u5.nx,u4.nx,u3.nx];exact cO (jn (aT (aL e2) (aL e1)) rfl) (AL (aT (au e1) (au e2)) rfl)) u5.self (u5.get (bI bg rfl) u4.self) λy hy=>by rw[u5.fr y (aB (aT (aq hy) (ao hq)) rfl),u4.fr y (aB (aT (aq hy) (aT (au e1) (ao hc))) rfl),u3.fr y (aB (aT (aq hy) (ao hq)) rfl),N2.fr y (aB (aT (aq hy) (aT (au e1) (ao hc))) rfl),N1.fr y (aB (aT (aq hy) (ao hq)) rfl)]
structure dY(U:ES)(b l j:Nat):Prop where
 gb:U.get b=aa (.gw l j)
 gl:U.get l=aa (.gZ j)
 lt:b<U.next/\l<U.next
theorem dY.keep{σ':ES}{b l j:Nat}(h:dY U b l j)(le:U.next<=σ'.next)(hb:σ'.get b=U.get b)(hl:σ'.get l=U.get l):dY σ' b l j:=⟨hb.trans h.gb,hl.trans h.gl,by have:=h.lt;exact ae7 le this⟩
theorem dY.new{σ':ES}{b l j x:Nat}{o:AO}(h:dY U b l j)(u:cV x o U σ'):dY σ' b l j:=by exact h.keep (ags u.nx) (u.fr _ (aeX h.lt u.nm)) (u.fr _ (afZ h.lt u.nm))
theorem Ih:(br sym).fn 905=aa CQ:=by kernel_rfl
theorem uf:(br sym).may 905=ah:=by kernel_rfl
noncomputable abbrev C0(re:List Nat)(ct:Nat):EC:=br (gv re ct)
variable{re:List Nat}{ct:Nat}
theorem tY{b l j w:Nat}(B:dY U b l j)(hj:j<100000)(hr:U.next+1000<room)(h:∀i σ',i<=w->dY σ' b l (j+1)->σ'.next=U.next->(∀y,y≠b->y≠l->σ'.get y=U.get y)->Pv (.int (.lit (.ofNat i))) σ'):
  RW (dW (ev (C0 re ct) FL (n+1)) (d+1) (.adr 905) [.ref b,.int (.lit (.ofNat (w+1)))] U) Pv:=by
 show RW (cA (C7 (C0 re ct) FL (ev (C0 re ct) FL n) d 905 [.ref b,.int (.lit (.ofNat (w+1)))] U)) Pv;refine eO Ih ?_;show RW (cA (CL (C0 re ct) [.ref b,.int (.lit (.ofNat (w+1)))] U)) Pv;have h1:(U.get b).bind zp=aa (l,j):=by rw[B.gb];rfl
 have h2:(U.get l).bind zF=aa j:=by rw[B.gl];rfl
 refine bO rfl (bO rfl (bO rfl (bO rfl (bO h1 (bO h2 (bC ?_ ?_))))))
 ·rw[kY,kY,decide_eq_true hj,decide_eq_true (show U.next<999999000 by have:U.next+1000<1000000000:=hr;exact kH (Eo this) rfl),HW];rfl
 show RW (cA (zv b l j U (.lit (.ofNat (dG re ct j % (w+1)))))) Pv;have hi:dG re ct j % (w+1)<=w:=EH (yo _ (BG _));generalize dG re ct j % (w+1)=i at hi ⊢;refine Ph ?_;have u1:=Upd.of (o:=.gw l (j+1)) B.gb;have mS:l≠b:=bx B.gl B.gb nofun
 have u2:=Upd.of (o:=.gZ (j+1)) (u1.get mS B.gl);refine⟨_,rfl,h i _ hi ⟨u2.get mS.symm u1.self,u2.self,?_⟩ ?_ λy h1 h2=>?_⟩
 ·have:=B.lt;rw[u2.nx,u1.nx];exact this
 ·rw[u2.nx,u1.nx]
 ·rw[u2.fr y h2,u1.fr y h1]
end
section
noncomputable def NT:AO->Prop
 | .ns kvs=>bN kvs bR=af
 | .inst _ _=>False
 | .list _=>False
 |_=>True
noncomputable def Kp(N0:Nat)(U σ':ES):Prop:=∀y p,y<N0->U.get y=aa p->¬NT p->σ'.get y=aa p
variable{N0 N1:Nat}{U σ' σ1 σ2:ES}
theorem Kp.trans(h1:Kp N0 U σ1)(h2:Kp N0 σ1 σ2):Kp N0 U σ2:=λy p hy h n=>h2 y p hy (h1 y p hy h n) n
theorem cV.kp{x:Nat}{o:AO}(u:cV x o U σ')(h:N0<=U.next):Kp N0 U σ':=λy p hy e _=>(u.fr y (by have:=u.nm;exact aB (aT (aq hy) (aT (aM h) (ao this))) rfl)).trans e
theorem Upd.kp{x:Nat}{o p:AO}(u:Upd x o U σ')(h:U.get x=aa p)(hn:NT p):Kp N0 U σ':=λy q hy e n=>by
 by_cases hx:y=x
 ·subst hx;rw[h]at e;(injection e with e;subst e);exact absurd hn n
 ·exact(u.fr y hx).trans e
theorem eE.kp{b:Nat}{M:Nat->Prop}(g:eE b U σ' M)(h:N0<=U.next)(hM:∀y p,M y->U.get y=aa p->NT p):Kp N0 U σ':=λy q hy e n=>by
 by_cases hx:M y
 ·exact absurd (hM y q hx e) n
 ·exact(g.fr y (aA (aT (aq hy) (aM h)) rfl) hx).trans e
structure TO(N0:Nat)(U:ES)(t:Nat)(num:Int)(ac:Nat)(items:List AV):Prop where
 ex:∃dd fd l,IsT U t dd (.int (.lit num)) (.ref ac) fd l/\U.get l=aa (.list items)/\t<N0/\dd<N0/\l<N0
variable{t ac:Nat}{num c0:Int}{items xs ys its:List AV}
theorem TO.th(h:TO N0 U t num ac items):TH N0 U t num items:=by refine qU h.ex λdd fd l a b c d e=>?_;exact⟨dd,_,fd,l,a,b,c,d,e⟩
theorem TO.keep(h:TO N0 U t num ac items)(k:Kp N0 U σ')(le:N0<=N1):TO N1 σ' t num ac items:=by refine qU h.ex λdd fd l a b c d e=>?_;exact⟨dd,fd,l,⟨k _ _ c a.x id,k _ _ d a.d (λz=>by cases z)⟩,k _ _ e b id,by exact aA (aT (aq c) (aM le)) rfl,by exact aA (aT (aq d) (aM le)) rfl,by exact aA (aT (aq e) (aM le)) rfl⟩
noncomputable def numAt(c0:Int):Nat->Int
 |0=>c0
 |j+1=>1000000000+j
noncomputable def TI(N0:Nat)(U:ES)(ac:Nat)(c0:Int)(xs:List AV):Nat->List AV->Prop
 |0,its=>its=xs
 |j+1,its=>∃y its',its=[.ref y]/\TO N0 U y (numAt c0 j) ac its'/\TI N0 U ac c0 xs j its'
theorem TI.keep(k:Kp N0 U σ')(le:N0<=N1):∀{j:Nat} {its:List AV},TI N0 U ac c0 xs j its->TI N1 σ' ac c0 xs j its
 |0,its,h=>h
 |j+1,its,⟨y,its',e,h1,h2⟩=>⟨y,its',e,h1.keep k le,TI.keep k le h2⟩
theorem Gr{c0:Int}(hc:c0<1000000000){i j:Nat}(h:i≠j):numAt c0 i≠numAt c0 j:=by
 cases i with
 |zero=>
  cases j with
  |zero=>exact absurd rfl h
  |succ j=>exact agR hc
 |succ i=>
  cases j with
  |zero=>exact afG hc
  |succ j=>exact af4 h
theorem CM{dep:Int}{h:Nat}{st:List Int}:∀{xs:List AV},(∀x∈xs,nv x)->dN N0 U dep h st xs xs xs.length
 | [],_=>.nil
 |x::xs,hx=>.plain (hx x (.head _)) (CM λy hy=>hx y (.tail _ hy))
theorem OD{dep:Int}(hd:dep<0)(hc:c0<1000000000)(hx:∀x∈xs,nv x)(jm:xs.length<=1000):∀{j:Nat} {its:List AV} {h:Nat} {st:List Int},TI N0 U ac c0 xs j its->(∀i,i<j->numAt c0 i ∉ st)->its.length<=1000/\dN N0 U dep h st its xs (2*j+xs.length)
 |0,its,h,st,hT,_=>by have hT:its=xs:=hT;subst hT;rw[Nat.mul_zero,rT];exact⟨jm,CM hx⟩
 |j+1,its,h,st,⟨y,its',e,h1,h2⟩,hst=>by
  subst e;obtain⟨hl,O⟩:=OD (h:=h+1) (st:=numAt c0 j::st) hd hc hx jm h2 (λi hi q=>by
   rcases List.mem_cons.mp q with q|q
   ·exact Gr hc (show i≠j from by exact aB (aq hi) rfl) q
   ·exact hst i (Jo (aq hi) rfl) q)
  refine⟨by show 1<=1000;decide,?_⟩;have:=dN.oU h1.th (.inl hd) (hst j (RN)) (cL (cC hl) rfl) O (dN.nil (h:=h) (st:=st));rw[lJ]at this;rw[show 2*(j+1)+xs.length=2*j+xs.length+0+2 from by exact agn];exact this
theorem Nh{s:Nat}(hc:c0<1000000000)(hx:∀x∈xs,nv x)(jm:xs.length<=1000):∀{j:Nat} {its:List AV} {h r:Nat} {st:List Int},TI N0 U ac c0 xs j its->(∀i,i<j->numAt c0 i ∉ st)->h+r=s+1->its.length<=1000/\∃ys k,dN N0 U (.ofNat s) h st its ys k/\k<=2*j+xs.length/\TI N0 U ac c0 xs (j- r) ys
 |0,its,h,r,st,hT,_,hr=>by have hT:its=xs:=hT;subst hT;exact⟨jm,its,_,CM hx,by exact ahC,by rw[Nat.zero_sub];rfl⟩
 |j+1,its,h,r,st,⟨y,its',e,h1,h2⟩,hst,hr=>by
  subst e;refine⟨by show 1<=1000;decide,?_⟩;cases r with
  |zero=>exact⟨[.ref y],1,.wV h1.th (by show(0:Int)<=(s:Int);exact SA) (by show(s:Int)<(h:Nat);exact Int.ofNat_lt.mpr (aQ hr.symm)) .nil,by exact agS,y,its',rfl,h1,h2⟩
  |succ r=>
   refine za (Nh (s:=s) (h:=h+1) (r:=r) (st:=numAt c0 j::st) hc hx jm h2 (λi hi q=>by
    rcases List.mem_cons.mp q with q|q
    ·exact Gr hc (show i≠j from by exact aB (aq hi) rfl) q
    ·exact hst i (Jo (aq hi) rfl) q) (ajN hr)) λhl ys k O hk hT=>?_
   have:=dN.oU h1.th (.inr (by show(h:Int)<=(s:Int);exact ahy hr)) (hst j (RN)) (cL (cC hl) rfl) O (dN.nil (h:=h) (st:=st));rw[lJ]at this;exact⟨ys,_,this,by exact ake hk,by rw[Nat.succ_sub_succ];exact hT⟩
variable{re:List Nat}{ct:Nat}{FL:Ev->Nat->List AV->ES->R Out}{m d n:Nat}
theorem aht:(C0 re ct).fn 919=aa PK:=by kernel_rfl
theorem ad7:(C0 re ct).may 919=ah:=by kernel_rfl
noncomputable def akp:List CS:=[CS.asg (CT.nm dF ak) (CE.call (CE.az (AV.adr 82)) [CE.bin (L4) (CE.bin (Operator.Pow) (CE.int 10) (CE.int 9)) (CE.loc iz),CE.attr (CE.loc dF) eg,CE.list [CE.loc dF]])]
theorem Co{C:EC}{i:Int}(h1: -1000000000000<i)(h2:i<1000000000000)(hr:U.next<room):∃r σ',nj C (.ty 7) [.int (.lit i)] U=aa (.ref r,σ')/\cV r (.lY i) U σ':=by refine⟨_,_,?_,cV.of hr⟩;show Gu [.int (.lit i)] U=_;show cond (ltI (-1000000000000) i&&ltI i 1000000000000) (aa (AV.ref (U.add (AO.lY i)).fst,(U.add (AO.lY i)).snd)) af=_;rw[gG,gG,decide_eq_true h1,decide_eq_true h2];rfl
theorem Cr{C:EC}{r:Nat}{i:Int}(h:U.get r=aa (.lY i))(h1: -1000000000000<i)(h2:i<1000000000000)(hr:U.next<room):∃it σ',uD C (.ref r) U=aa (it,σ')/\cV it (.gX 0 i) U σ':=by refine⟨_,_,?_,cV.of hr⟩;show(U.gL r).elim ((U.gT r).elim _ _) _=_;unfold ES.gL ES.gT;rw[h];show cond (ltI (-1000000000000) i&&ltI i 1000000000000) _ af=_;rw[gG,gG,decide_eq_true h1,decide_eq_true h2];rfl
theorem Ck{C:EC}{it:Nat}{i s:Int}(h:U.get it=aa (.gX i s))(hi:i<s):∃σ',iW C it U=aa (aa (.int (.lit i)),σ')/\Upd it (.gX (i+1) s) U σ':=by refine⟨_,?_,Upd.of h⟩;unfold iW;rw[h];show aa (cond (ltI i s) _ _)=_;rw[gG,decide_eq_true hi,iK];rfl
theorem CD{C:EC}{it:Nat}{i s:Int}(h:U.get it=aa (.gX i s))(hi:¬i<s):∃σ',iW C it U=aa (af,σ')/\Upd it .any U σ':=by refine⟨_,?_,Upd.of h⟩;unfold iW;rw[h];show aa (cond (ltI i s) _ _)=_;rw[gG,decide_eq_false hi];rfl
theorem Ze{q it deep:Nat}{P:Flow->ES->Prop}:∀(r:Nat) {j n:Nat} {U:ES} {kvs:List (Nat×AV)} {x:Nat} {its:List AV},j+r=deep->n=m+41+r->U.get q=aa (.ns kvs)->bN kvs dF=aa (.ref x)->bN kvs bR=af->U.get it=aa (.gX (.ofNat j) (.ofNat deep))->q<U.next->it<U.next->
  TO U.next U x (numAt c0 j) ac its->TI U.next U ac c0 xs j its->U.next+6*r+10<room->
  (∀σ' kvs' x' its',σ'.get q=aa (.ns kvs')->bN kvs' dF=aa (.ref x')->q<σ'.next->TO σ'.next σ' x' (numAt c0 deep) ac its'->TI σ'.next σ' ac c0 xs deep its'->eE (6*r) U σ' (λy=>y=q\/y=it)->P .next σ')->
  RW (cH (ev (C0 re ct) FL n) (d+5) (.eF ⟨q,q,[],919⟩ (.nm iz ak) it akp) U) P:=by
 intro r;induction r with
 |zero=>
  intro j n U kvs x its hj hn hq hf hnum hit lq li hT hI hr k;subst hn;refine aV (CD (C:=(C0 re ct)) hit (by show¬(j:Int)<(deep:Int);exact λh=>iJ (Int.ofNat_lt.mp h) hj)) λσ1 e1 u1=>?_;have pq:q≠it:=bx hq hit nofun
  have kp:=u1.kp (N0:=U.next) hit (trivial);have hjd:j=deep:=by exact cO (aR (aE1 hj) rfl) (aR (Al hj) rfl)
  subst hjd;refine Hp e1 (k σ1 kvs x its (u1.get pq hq) hf (by rw[u1.nx];exact lq) (hT.keep kp (by rw[u1.nx];exact cN _)) (hI.keep kp (by rw[u1.nx];exact cN _)) ⟨by rw[u1.nx];exact cN _,by rw[u1.nx];exact ag0,λy hy ny=>u1.fr y (λe=>ny (.inr (e)))⟩)
 |succ r ih=>
  intro j n U kvs x its hj hn hq hf hnum hit lq li hT hI hr k;have hn:n=(m+r)+42:=by exact akC hn
  subst hn;refine aV (Ck (C:=(C0 re ct)) hit (by show(j:Int)<(deep:Int);exact Dk hj)) λσ1 e1 u1=>?_;have pq:q≠it:=bx hq hit nofun
  have q1:=u1.get pq hq;have n1:=u1.nx;have AG:=u1.kp (N0:=U.next) hit (trivial);refine HQ e1 q1 λσ2 u2=>?_;have n2:=u2.nx;have vg:=AG.trans (u2.kp (N0:=U.next) q1 hnum);have q2:=u2.self;have f2:bN (putN kvs iz (.int (.lit (.ofNat j)))) dF=aa (.ref x):=by rw[dJ rfl];exact hf
  refine qU ((hT.keep vg (cN _)).ex) λdd fd l t1 t2 t3 t4 t5=>?_;refine bW (gV (dc (cI (aW (jt (jt (cM (cM ⟨.int (.lit 1000000000),σ2,by kernel_rfl,aP q2 (gF _ _ _) ⟨.int (.lit (1000000000+(j:Int))),σ2,?_,aW (iL (aP q2 f2 ⟨x,82,dd,_,_,rfl,t1.x,fM (sym:=(gv re ct)),MW (sym:=(gv re ct)),t1.d,rfl,rfl,aW (iC (aW (aP q2 f2 (bG ⟨rfl,by exact aA (aT (aD n2) (aT aU (aT (aK (aD n1)) (bD hr)))) rfl,λl3 σ3 u3=>bG ⟨show iE (C0 re ct) (.adr 82) σ3=ah from QZ,?_⟩⟩))))⟩))⟩⟩))))))))
  ·show aa (AV.int (.lit (fq (1000000000+gU j))),σ2)=_;rw[iK];rfl
  have n3:=u3.nx;have bg:=aT (ao n1) (aT (ao n2) (au n3));have h3:=u3.nm;have bY:=aT (ao n1) (aT (ao n2) (ao h3));refine(Rz (n:=m+r+22) (d:=d+2) (cX (aT (aL n3) (aT aU (aT (aK (aD n2)) (aT (aK (aD n1)) (bD hr))))) rfl)).mono λv bA z=>?_;refine Mx z λx4 xH Jp dQ i4 z1 z2 z3 z4 g4=>?_;try clear z;subst dQ
  have a4:=g4.le;have b4:=g4.ge;have q4:=(g4.fr q (aA (aT (aq lq) bg) rfl) nofun).trans (u3.get (aB (aT (aq lq) bY) rfl) q2);refine qo q4 λbT u5=>kE ?_;have n5:=u5.nx;have Vc:bN (putN kvs iz (.int (.lit (.ofNat j)))) bR=af:=by rw[dJ rfl];exact hnum
  have UD:Kp U.next U bT:=(vg.trans (u3.kp (aR (aT (ao n1) (ao n2)) rfl))).trans ((g4.kp (aR bg rfl) (λ_ _ h=>h.elim)).trans (u5.kp q4 Vc))
  have DR:bT.get it=aa (.gX (.ofNat (j+1)) (.ofNat deep)):=by rw[u5.fr it (by show it≠q;exact pq.symm),g4.fr it (aA (aT (aq li) bg) rfl) nofun,u3.fr it (aB (aT (aq li) bY) rfl),u2.fr it (by show it≠q;exact pq.symm)];exact u1.self
  have T5:TO bT.next bT x4 (numAt c0 (j+1)) ac [.ref x]:=⟨xH,Jp,l3,⟨u5.get (by show x4≠q;exact bI (aT (aq lq) (aT bg (aM z1))) rfl) i4.x,u5.get (by show xH≠q;exact bI (aT (aq lq) (aT bg (aM z2))) rfl) i4.d⟩,by rw[u5.fr l3 (by show l3≠q;exact bI (aT (aq lq) bY) rfl),g4.fr l3 (aA (aT (aD h3) (au n3)) rfl) nofun];exact u3.self,by exact aA (aT (aq z3) (ao n5)) rfl,by exact aA (aT (aq z4) (ao n5)) rfl,by exact aA (aT (aD h3) (aT (au n3) (aT (aM a4) (ao n5)))) rfl⟩
  have sL:U.next<=bT.next:=by exact aR (aT bg (aT (aM a4) (ao n5))) rfl
  refine ih (j:=j+1) (vh hj) (ahG) u5.self (gF _ _ _) (by rw[dJ rfl];exact Vc) DR (aA (aT (aq lq) (aM sL)) rfl) (aA (aT (aq li) (aM sL)) rfl) T5 ⟨x,its,rfl,hT.keep UD sL,hI.keep UD sL⟩ (aj6 hr n1 n2 n3 b4 n5) λfz DH x6 IY z1 z2 z3 z4 z5 g6=>?_;have a6:=g6.le;have b6:=g6.ge;refine k fz DH x6 IY z1 z2 z3 z4 z5 ⟨by exact aR (aT (aM sL) (aM a6)) rfl,by exact ajo n1 n2 n3 b4 n5 b6,λy hy ny=>?_⟩;rw[g6.fr y (aA (aT (aq hy) (aM sL)) rfl) ny,u5.fr y (by show y≠q;exact λe=>ny (.inl e)),g4.fr y (aA (aT (aq hy) bg) rfl) nofun,u3.fr y (aB (aT (aq hy) bY) rfl),u2.fr y (by show y≠q;exact λe=>ny (.inl e)),u1.fr y (λe=>ny (.inr (e)))]
end
section
variable{re:List Nat}{ct:Nat}{FL:Ev->Nat->List AV->ES->R Out}{m d n:Nat}{U σ':ES}{w wn md ac l0 deep:Nat}{c:Int}{xs:List AV}
theorem di.nt(W:di U w wn md ac c):∀y p,y=wn->U.get y=aa p->NT p:=λy p e h=>by
 refine jB W.ex λkvs mk UI=>?_;have h2:=UI.a2;have h6:=UI.a6;rw[e,h2]at h
 (injection h with h;subst h)
 exact h6
theorem aaK(hn:n=m+deep+60)(W:di U w wn md ac c)(hl:U.get l0=aa (.list xs))(ll:l0<U.next)(hx:xs.length<=1000)(hd:deep<=10000)(hr:U.next+6*deep+60<room):
  RW (dW (ev (C0 re ct) FL n) (d+6) (.adr 919) [.ref w,.ref l0,.int (.lit (.ofNat deep))] U) λv σ'=>∃x its,v= .ref x/\TO σ'.next σ' x (numAt (c+1) deep) ac its/\TI σ'.next σ' ac (c+1) xs deep its/\di σ' w wn md ac (c+1)/\eE (6*deep+20) U σ' (· =wn):=by
 refine jB (id W.ex) λkvs mk J4=>?_;have h1:=J4.a1;have h2:=J4.a2;have h8:=J4.a8;refine cU W.lt λl1 l2 l3=>?_;have hn:n=(m+deep)+60:=by exact hn
 subst hn;refine jw aht rfl rfl rfl rfl rfl (aA (aT aU (bD hr)) rfl) λq σ1 u1=>?_;have hq:=u1.nm;have e1:=u1.nx;have q1:=u1.self;refine bW (gV (kR (aP q1 rfl (ug (u1.get (aB (aT (aq l1) (ao hq)) rfl) h1) (ou (sym:=(gv re ct))) BN (u1.get (aB (aT (aq l2) (ao hq)) rfl) h2) h8 CU (aW (aP q1 rfl (bG ((BV (n:=m+deep+35) (d:=d+1) (W.new u1) (u1.get (aB (aT (aq ll) (ao hq)) rfl) hl) (aA (aT (aq ll) (au e1)) rfl) (Nat.ble_eq.mpr (cL (cC hx) rfl)) (cX (aT (aL e1) (aT aU (bD hr))) rfl)).mono λv σ2 z=>?_))))))));obtain⟨x,dd,fd,l,dQ,t,y1,W2,y2,y3,y4,y5,y6,y7,g2⟩:=z;subst dQ;have a2:=g2.le;have b2:=g2.ge;have q2:=(g2.fr q (aA (aT (aD hq) (au e1)) rfl) (bI (aT (aq l2) (ao hq)) rfl)).trans q1;refine qo q2 λσ3 u3=>?_;have e3:=u3.nx;have q3:σ3.get q=_:=u3.self;have W3:=W2.upd u3 (by show q≠w/\q≠wn/\q≠md;exact⟨bI (aT (aq l1) (ao hq)) rfl,bI (aT (aq l2) (ao hq)) rfl,bI (aT (aq l3) (ao hq)) rfl⟩);have T3:TO σ3.next σ3 x (numAt (c+1) 0) ac xs:=⟨dd,fd,l,⟨u3.get (by show x≠q;exact bI (aT (aD hq) (aT (au e1) (aM y2))) rfl) t.x,u3.get (by show dd≠q;exact bI (aT (aD hq) (aT (au e1) (aM y3))) rfl) t.d⟩,u3.get (by show l≠q;exact bI (aT (aD hq) (aT (au e1) (aM y4))) rfl) y1,by exact aA (aT (aq y5) (ao e3)) rfl,by exact aA (aT (aq y6) (ao e3)) rfl,by exact aA (aT (aq y7) (ao e3)) rfl⟩
 refine dB (Co (C:=(C0 re ct)) (U:=σ3) (i:=.ofNat deep) (by show(-1000000000000:Int)<(deep:Int);exact Rm) (by show(deep:Int)<1000000000000;exact QS hd) (aA (aT (aD e3) (aT aU (aT (aK (dX b2)) (aT (aK (aL e1)) (bD hr))))) rfl)) λr bA e4 u4=>?_;have V9:=u4.nm;have n4:=u4.nx;have bg:=aT (au e1) (aT (aM a2) (aT (ao e3) (au n4)));refine dB (Cr (C:=(C0 re ct)) u4.self (by show(-1000000000000:Int)<(deep:Int);exact Rm) (by show(deep:Int)<1000000000000;exact QS hd) (aA (aT (aL n4) (aT aU (aT (aK (aD e3)) (aT (aK (dX b2)) (aT (aK (aL e1)) (bD hr)))))) rfl)) λit bT e5 u5=>?_;have ve:=u5.nm;have n5:=u5.nx;have q5:=u5.get (aB (aT (aD hq) (aT bg (ao ve))) rfl) (u4.get (aB (aT (aD hq) (aT (au e1) (aT (aM a2) (aT (ao e3) (ao V9))))) rfl) q3);have kp:Kp σ3.next σ3 bT:=(u4.kp (cN _)).trans (u5.kp (aR (au n4) rfl))
 refine bW (Gx (dc (cI (aW (aP q3 rfl (bG ⟨rfl,sA e4 ⟨it,bT,e5,?_⟩⟩))))));refine Ze (q:=q) (it:=it) (m:=m+16) (xs:=xs) (its:=xs) (c0:=c+1) (ac:=ac) deep (j:=0) (HK) (afI) q5 rfl rfl u5.self (aA (aT (aD hq) (aT bg (au n5))) rfl) (aA (aT (aD ve) (au n5)) rfl) (T3.keep kp (aR (aT (au n4) (au n5)) rfl)) rfl (cX (aT (aK (aL n5)) (aT (aK (aL n4)) (aT (aK (aD e3)) (aT (aK (dX b2)) (aT (aK (aL e1)) (bD hr)))))) rfl) λfz DH x6 IY z1 z2 z3 z4 z5 g6=>?_;have a6:=g6.le;have b6:=g6.ge;refine bW (kU (aP z1 z2 (lQ (kP ⟨x6,IY,rfl,z4,z5,?_,by exact aR (aT (ao hq) (aq z3)) rfl,by exact DT (aT (aM b6) (aT (aK (aL n5)) (aT (aK (aL n4)) (aT (aK (aD e3)) (aT (aK (dX b2)) (aK (aL e1))))))) rfl,λy hy ny=>?_⟩))))
 ·exact((W3.new u4).new u5).keep a6 (g6.fr _ (aA (aT (aq l1) (aT bg (au n5))) rfl) (lU (aB (aT (aq l1) (ao hq)) rfl) (aB (aT (aq l1) (aT bg (ao ve))) rfl))) (g6.fr _ (aA (aT (aq l2) (aT bg (au n5))) rfl) (lU (aB (aT (aq l2) (ao hq)) rfl) (aB (aT (aq l2) (aT bg (ao ve))) rfl))) (g6.fr _ (aA (aT (aq l3) (aT bg (au n5))) rfl) (lU (aB (aT (aq l3) (ao hq)) rfl) (aB (aT (aq l3) (aT bg (ao ve))) rfl)))
 ·rw[g6.fr y (aA (aT (aq hy) (aT bg (au n5))) rfl) (lU (aB (aT (aq hy) (ao hq)) rfl) (aB (aT (aq hy) (aT bg (ao ve))) rfl)),u5.fr y (aB (aT (aq hy) (aT bg (ao ve))) rfl),u4.fr y (aB (aT (aq hy) (aT (au e1) (aT (aM a2) (aT (ao e3) (ao V9))))) rfl),u3.fr y (by show y≠q;exact aB (aT (aq hy) (ao hq)) rfl),g2.fr y (aA (aT (aq hy) (au e1)) rfl) ny,u1.fr y (aB (aT (aq hy) (ao hq)) rfl)]
noncomputable def cK(ns:List Nat):List AV:=ns.map λi=>.int (.lit (.ofNat i))
theorem eq_go(f:AV->AV->Option Bool):∀{xs:List AV},(∀x∈xs,f x x=aa ah)->fG.go f xs xs=aa ah
 | [],_=>rfl
 |x::xs,h=>by show(f x x).bind _=_;rw[h x (.head _)];show(fG.go f xs xs).bind _=_;rw[eq_go f λy hy=>h y (.tail _ hy)];rfl
theorem CC{U:ES}{x y:Nat}{xs:List AV}(hx:U.get x=aa (.list xs))(hy:U.get y=aa (.list xs))(h:∀a∈xs,∃i,a= .int (.lit i)):fG U 8 (.ref x) (.ref y)=aa ah:=by rw[we hx hy,fT,decide_eq_true rfl];refine eq_go _ λa ha=>?_;obtain⟨i,rfl⟩:=h a ha;show sF (.lit i) (.lit i)=_;show aa (iP i i)=_;rw[kq,decide_eq_true rfl]
end
section
variable{re:List Nat}{ct:Nat}{FL:Ev->Nat->List AV->ES->R Out}{m d n:Nat}{U σ':ES}{b l:Nat}
theorem NK(ns:List Nat)(i:Nat):cK ns++[.int (.lit (.ofNat i))]=cK (ns++[i]):=by unfold cK;rw[qJ];rfl
theorem kO(ns:List Nat):(cK ns).length=ns.length:=tN ..
theorem vN{ns:List Nat}:∀a∈cK ns,∃i,a= .int (.lit i):=λa ha=>by refine aV (List.mem_map.mp ha) λi _ dQ=>?_;subst dQ;exact⟨_,rfl⟩
theorem BU{ns:List Nat}:∀a∈cK ns,nv a:=λa ha=>by obtain⟨i,rfl⟩:=vN a ha;exact trivial
theorem Zg{q fr cc it acc code cnt:Nat}{P:Unit->ES->Prop}:∀(r:Nat) {i n j:Nat} {U:ES} {kvs:List (Nat×AV)} {ns:List Nat},i+r=cnt->n=m+30+r->U.get q=aa (.ns kvs)->U.get cc=aa (.cell (aa (.ref b)))->U.get it=aa (.gX (.ofNat i) (.ofNat cnt))->U.get acc=aa (.list (cK ns))->
  dY U b l j->j+r<100000->U.next+1000<room->ns.length+r<=1000->
  (∀σ' kvs' ns',σ'.get q=aa (.ns kvs')->σ'.get acc=aa (.list (cK ns'))->ns'.length=ns.length+r->dY σ' b l (j+r)->σ'.next=U.next->(∀y,y≠it->y≠q->y≠acc->y≠b->y≠l->σ'.get y=U.get y)->P () σ')->
  RW (jz (ev (C0 re ct) FL n (d+2) (.comp ⟨q,fr,[(bM,cc)],code⟩ (.call (.az (.adr 905)) [.bh bM,.int 9]) 107 ak it af acc) U)) P:=by
 intro r;induction r with
 |zero=>
  intro i n j U kvs ns hi hn hq hcc hit hacc B hj hr hl k;have hn:n=(m+29)+1:=by exact JN hn
  subst hn;refine aV (CD (C:=(C0 re ct)) hit (by show¬(i:Int)<(cnt:Int);exact λh=>iJ (Int.ofNat_lt.mp h) hi)) λσ1 e1 u1=>?_;have x1:q≠it:=bx hq hit nofun
  have x2:acc≠it:=bx hacc hit nofun
  have x3:b≠it:=bx B.gb hit nofun
  have x4:l≠it:=bx B.gl hit nofun
  exact HD e1 (k σ1 kvs ns (u1.get x1 hq) (u1.get x2 hacc) rfl (B.keep (by rw[u1.nx];exact cN _) (u1.fr _ x3) (u1.fr _ x4)) u1.nx λy h1 _ _ _ _=>u1.fr y h1)
 |succ r ih=>
  intro i n j U kvs ns hi hn hq hcc hit hacc B hj hr hl k;have hn:n=(m+r)+31:=by exact J3 hn
  subst hn;refine aV (Ck (C:=(C0 re ct)) hit (by show(i:Int)<(cnt:Int);exact Dk hi)) λσ1 e1 u1=>?_;have x1:q≠it:=bx hq hit nofun
  have x2:acc≠it:=bx hacc hit nofun
  have x3:b≠it:=bx B.gb hit nofun
  have x4:l≠it:=bx B.gl hit nofun
  have x5:cc≠it:=bx hcc hit nofun
  have y1:acc≠q:=bx hacc hq nofun
  have y2:b≠q:=bx B.gb hq nofun
  have y3:l≠q:=bx B.gl hq nofun
  have y4:cc≠q:=bx hcc hq nofun
  have z1:acc≠b:=bx hacc B.gb nofun
  have z2:acc≠l:=bx hacc B.gl nofun
  have z3:cc≠b:=bx hcc B.gb nofun
  have z4:cc≠l:=bx hcc B.gl nofun
  have z5:cc≠acc:=bx hcc hacc nofun
  have q1:=u1.get x1 hq;refine GZ e1 q1 λσ2 u2=>?_;have q2:σ2.get q=_:=u2.self;have c2:σ2.get cc=_:=u2.get y4 (u1.get x5 hcc);have n2:σ2.next=U.next:=by rw[u2.nx,u1.nx]
  have B2:dY σ2 b l j:=B.keep (aR (ao n2) rfl) (by rw[u2.fr b y2,u1.fr b x3]) (by rw[u2.fr l y3,u1.fr l x4]);refine⟨nofun,λ_=>?_⟩;refine dc (cI (aW (wB (c:=cc) rfl c2 (aW (cM (bG ⟨show iE (C0 re ct) (.adr 905) σ2=ah from uf,tY (w:=8) B2 (WD hj) (cX (aT (aD n2) (bD hr)) rfl) λv σ3 hv B3 n3 f3=>?_⟩))))));have ahQ:σ3.get acc=aa (.list (cK ns)):=by rw[f3 acc z1 z2,u2.fr acc y1,u1.fr acc x2];exact hacc
  refine⟨_,ahQ,Nat.ble_eq.mpr (by rw[kO];exact ahs hl),λbA u4=>?_⟩;have n4:=u4.nx;have it4:bA.get it=aa (.gX (.ofNat (i+1)) (.ofNat cnt)):=by rw[u4.fr it x2.symm,f3 it x3.symm x4.symm,u2.fr it x1.symm];exact u1.self
  have B4:dY bA b l (j+1):=B3.keep (aR (ao n4) rfl) (u4.fr _ z1.symm) (u4.fr _ z2.symm);refine ih (i:=i+1) (j:=j+1) (ns:=ns++[v]) (vh hi) (Ec) (by rw[u4.fr q y1.symm,f3 q y2.symm y3.symm];exact q2) (by rw[u4.fr cc z5,f3 cc z3 z4];exact c2) it4 (by rw[<-NK];exact u4.self) B4 (QC hj) (cX (aT (aD n4) (aT (aD n3) (aT (aD n2) (bD hr)))) rfl) (by rw[fX,jC];exact agv hl) λbT nG D7 w1 w2 w3 w4 w5 w6=>?_;refine k bT nG D7 w1 w2 (by rw[w3,fX,jC];exact afH) (by rw[show j+(r+1)=j+1+r from by exact Ry];exact w4) (cO (aR (aT (aD w5) (aT (aD n4) (aT (aD n3) (aD n2)))) rfl) (aR (aT (ao n2) (aT (ao n3) (aT (ao n4) (ao w5)))) rfl)) λy h1 h2 h3 h4 h5=>?_;rw[w6 y h1 h2 h3 h4 h5,u4.fr y h3,f3 y h4 h5,u2.fr y h2,u1.fr y h1]
end
section
variable{re:List Nat}{ct:Nat}{FL:Ev->Nat->List AV->ES->R Out}{m d n:Nat}{U σ':ES}{b l ac:Nat}{c0:Int}{xs:List AV}
noncomputable def aho:List CS:=[CS.iff (CE.cmp (CE.call (CE.az (AV.bi 2)) [CE.attr (CE.loc nX) bf]) (CmpOp.NotEq) (CE.int 1)) [CS.ret (CE.tt ak)] [],
  CS.asg (CT.nm nX ak) (CE.sub (CE.attr (CE.loc nX) bf) (CE.int 0))]
theorem afl{C:EC}{i j:Nat}(h:i=j):jv C .NotEq (.int (.lit (.ofNat i))) (.int (.lit (.ofNat j))) U=aa ak:=by show(aa (iP (.ofNat i) (.ofNat j))).map (!·)=_;rw[kq,decide_eq_true (by rw[h])];rfl
theorem Zv{q it stop:Nat}{cells:List (Nat×Nat)}{P:Flow->ES->Prop}:∀(r:Nat) {i n:Nat} {U:ES} {kvs:List (Nat×AV)} {x:Nat} {num:Int} {its:List AV},i+r=stop->n=m+40+r->U.get q=aa (.ns kvs)->bN kvs nX=aa (.ref x)->bN kvs bR=af->U.get it=aa (.gX (.ofNat i) (.ofNat stop))->
  TO U.next U x num ac its->TI U.next U ac c0 xs r its->
  (∀σ' kvs' x' num',σ'.get q=aa (.ns kvs')->(∀k,aH iz k=ak->aH nX k=ak->bN kvs' k=bN kvs k)->bN kvs' nX=aa (.ref x')->TO σ'.next σ' x' num' ac xs->σ'.next=U.next->(∀y,y≠q->y≠it->σ'.get y=U.get y)->P .next σ')->
  RW (cH (ev (C0 re ct) FL n) (d+3) (.eF ⟨q,q,cells,924⟩ (.nm iz ak) it aho) U) P:=by
 intro r;induction r with
 |zero=>
  intro i n U kvs x num its hi hn hq hf hnum hit hT hI k;have hn:n=(m+39)+1:=by exact ahf hn
  subst hn;refine aV (CD (C:=(C0 re ct)) hit (by show¬(i:Int)<(stop:Int);exact λh=>iJ (Int.ofNat_lt.mp h) hi)) λσ1 e1 u1=>?_;have pq:q≠it:=bx hq hit nofun
  have kp:=u1.kp (N0:=U.next) hit (trivial);have hI:its=xs:=hI;subst hI;exact Hp e1 (k σ1 kvs x num (u1.get pq hq) (λ_ _ _=>rfl) hf (hT.keep kp (by rw[u1.nx];exact cN _)) u1.nx λy _ h=>u1.fr y h)
 |succ r ih=>
  intro i n U kvs x num its hi hn hq hf hnum hit hT hI k;have hn:n=(m+r)+41:=by exact Ub hn
  subst hn;refine aV (Ck (C:=(C0 re ct)) hit (by show(i:Int)<(stop:Int);exact Dk hi)) λσ1 e1 u1=>?_;have pq:q≠it:=bx hq hit nofun
  have q1:=u1.get pq hq;have n1:=u1.nx;have AG:=u1.kp (N0:=U.next) hit (trivial);refine HQ e1 q1 λσ2 u2=>?_;have n2:=u2.nx;have vg:=AG.trans (u2.kp (N0:=U.next) q1 hnum);have q2:σ2.get q=_:=u2.self;have f2:bN (putN kvs iz (.int (.lit (.ofNat i)))) nX=aa (.ref x):=by rw[dJ rfl];exact hf
  refine fE hI λy its' dQ hT' hI'=>?_;try clear hI;subst dQ
  refine qU ((hT.keep vg (cN _)).ex) λdd fd l t1 t2 t3 t4 t5=>?_;refine bW (ku (eV (λ_ _ _ _ _=>rfl) (gf (dc (cI (aW (iL (aP q2 f2 ⟨x,82,dd,_,_,rfl,t1.x,fM (sym:=(gv re ct)),ng (sym:=(gv re ct)),t1.d,rfl,rfl,bG ⟨rfl,kZ (zb t2 (by show 1<=1000000;decide)) (cM ⟨ak,afl (i:=1) (j:=1) rfl,ak,rfl,qh ?_⟩)⟩⟩))))))));refine bW (gV (kD (iL (aP q2 f2 ⟨x,82,dd,_,_,rfl,t1.x,fM (sym:=(gv re ct)),ng (sym:=(gv re ct)),t1.d,rfl,rfl,cM ⟨_,_,pT (i:=0) t2 rfl (by decide),qo q2 λσ3 u3=>kE ?_⟩⟩))));have n3:=u3.nx;have VI:bN (putN kvs iz (.int (.lit (.ofNat i)))) bR=af:=by rw[dJ rfl];exact hnum
  have Wg:Kp U.next U σ3:=vg.trans (u3.kp q2 VI)
  have Va:U.next<=σ3.next:=by exact aR (aT (ao n1) (aT (ao n2) (ao n3))) rfl
  have J6:σ3.get it=aa (.gX (.ofNat (i+1)) (.ofNat stop)):=by rw[u3.fr it pq.symm,u2.fr it pq.symm];exact u1.self
  refine ih (i:=i+1) (vh hi) (Jg) u3.self (gF _ _ _) (by rw[dJ rfl];exact VI) J6 (hT'.keep Wg Va) (hI'.keep Wg Va) λbA IS x4 aiq w1 w2 w3 w4 w5 w6=>?_;refine k bA IS x4 aiq w1 (λk h1 h2=>by rw[w2 k h1 h2,dJ h2,dJ h1]) w3 w4 (cO (aR (aT (aD w5) (aT (aD n3) (aT (aD n2) (aD n1)))) rfl) (aR (aT (ao n1) (aT (ao n2) (aT (ao n3) (ao w5)))) rfl)) λy h1 h2=>?_;rw[w6 y h1 h2,u3.fr y h1,u2.fr y h1,u1.fr y h2]
end
section
variable{re:List Nat}{ct:Nat}{FL:Ev->Nat->List AV->ES->R Out}{m d n:Nat}{U σ':ES}{w wn md ac b l j wm:Nat}{c:Int}
theorem tk2{d l c:Nat}(hd:d<=1099)(hl:l=c)(hc:c<=3):2*d+l<=2201:=by exact aks hd hl hc
theorem tj{j c:Nat}(h:j+10<100000)(hc:c<=3):j+1+1+c<100000:=by exact ajX h hc
theorem tj2{j c:Nat}(hc:c<=3):j+1+1+c+1<=j+10:=by exact aib hc
theorem tj3{j c:Nat}:j<=j+1+1+c+1:=by exact ajk
theorem tc1{c:Int}:c<=c+1+1+1:=by exact ajC
theorem tc2{c:Int}:c+1+1+1<=c+10:=by exact ah4
theorem tmn{d s:Nat}:(d:Int)-((min d s:Nat):Int)=((d- min d s:Nat):Int):=by exact(Int.ofNat_sub (Lp _ _)).symm
theorem tz{c:Nat}(hc:c<=3):0+c<=1000:=by exact akb hc
theorem ag4:(C0 re ct).fn 924=aa Qk:=by kernel_rfl
theorem acH{C:EC}{i j:Nat}:nj C (.bi 4) [.int (.lit (.ofNat i)),.int (.lit (.ofNat j))] U=aa (.int (.lit (.ofNat (min i j))),U):=by
 show(uM (.lit (.ofNat j)) (.lit (.ofNat i))).map (λb=>(AV.int (cond b (.lit (.ofNat j)) (.lit (.ofNat i))),U))=_;show aa (AV.int (cond (ltI (.ofNat j) (.ofNat i)) (.lit (.ofNat j)) (.lit (.ofNat i))),U)=_;rw[gG]
 by_cases h:j<i
 ·rw[decide_eq_true (by show(j:Int)<(i:Int);exact Int.ofNat_lt.mpr h),Ll (aR (aq h) rfl)];rfl
 ·rw[decide_eq_false (by show¬(j:Int)<(i:Int);exact λz=>h (Int.ofNat_lt.mp z)),ET (tG h)];rfl
theorem di.sQ(W:di U w wn md ac c)(B:dY U b l j)(le:U.next<=σ'.next)(f:∀y,y≠b->y≠l->σ'.get y=U.get y):di σ' w wn md ac c:=by refine jB W.ex λkvs mk JO=>?_;have h1:=JO.a1;have h2:=JO.a2;have dO:=JO.kI;exact W.keep le (f _ (bx h1 B.gb nofun) (bx h1 B.gl nofun)) (f _ (bx h2 B.gb nofun) (bx h2 B.gl nofun)) (f _ (bx dO B.gb nofun) (bx dO B.gl nofun))
theorem di.apart(W:di U w wn md ac c)(B:dY U b l j):b≠wn/\l≠wn:=by refine jB W.ex λkvs mk X42=>?_;have h2:=X42.a2;exact⟨bx B.gb h2 nofun,bx B.gl h2 nofun⟩
theorem Kp.sQ{N0:Nat}(B:dY U b l j)(f:∀y,y≠b->y≠l->σ'.get y=U.get y):Kp N0 U σ':=λy p hy e nt=>by
 have hb:y≠b:=λq=>by rw[q,B.gb]at e;cases e;exact nt trivial
 have hl:y≠l:=λq=>by rw[q,B.gl]at e;cases e;exact nt trivial
 exact(f y hb hl).trans e
inductive VE(w wn md ac:Nat)(c:Int)(b l j:Nat)(U:ES)(v:AV)(σ':ES):Prop
 |mk (e:v= .bool ah) (c':Int) (j':Nat) (W:di σ' w wn md ac c') (h1:c<=c') (h2:c'<=c+10) (B:dY σ' b l j') (h3:j<=j') (h4:j'<=j+10) (g:eE 60000 U σ' (λy=>y=wn\/y=b\/y=l)):VE w wn md ac c b l j U v σ'
theorem Xn(W:di U w wn md ac c)(B:dY U b l j)(hj:j+10<100000)(hm:wm<1100)(hc:c+1<1000000000)(hr:U.next+60000<room):
  RW (dW (ev (C0 re ct) FL (n+6000)) (d+12) (.adr 924) [.ref w,.ref b,.int (.lit (.ofNat (wm+1)))] U) (VE w wn md ac c b l j U):=by
 obtain⟨ba,la⟩:=W.apart B;refine cU W.lt λlw i8 nN=>?_;obtain⟨lb,ll⟩:=B.lt;refine agD (kc:=bM) ag4 rfl rfl rfl rfl rfl rfl (cX (bD hr) rfl) λq cc σ1 hq hcc n1 q1 c1 jQ=>?_;have W1:di σ1 w wn md ac c:=W.keep (aR (au n1) rfl) (jQ _ lw) (jQ _ i8) (jQ _ nN);have B1:dY σ1 b l j:=B.keep (aR (au n1) rfl) (jQ _ lb) (jQ _ ll);refine bW (Cu (zC (aW (dc (cI (aW (wB (c:=cc) rfl c1 (aW (aP q1 rfl (bG ⟨show iE (C0 re ct) (.adr 905) σ1=ah from uf,tY (w:=wm) B1 (kH (Eo hj) rfl) (cX (aT (aL n1) (bD hr)) rfl) λdeep σ2 QU B2 n2 f2=>?_⟩))))))))));have DB:=aT (aD n2) (aT (aL n1) (bD hr));have dC:deep<=1099:=cL (aT (aM QU) (eX hm)) rfl;have q2:=(f2 q (bI (aT (aq lb) (ao hq)) rfl) (bI (aT (aq ll) (ao hq)) rfl)).trans q1;have c2:=(f2 cc (bI (aT (aq lb) (au hcc)) rfl) (bI (aT (aq ll) (au hcc)) rfl)).trans c1;have W2:=W1.sQ B1 (aR (ao n2) rfl) f2;refine aW (G3 (cl:=[(bM,cc)]) rfl (dc (cI (aW (dc (cI (aW (wB (c:=cc) rfl c2 (aW (cM (bG ⟨show iE (C0 re ct) (.adr 905) σ2=ah from uf,tY (w:=3) B2 (Ar (Eo hj) rfl) (cX DB rfl) λcnt σ3 oJ B3 n3 f3=>?_⟩)))))))))));have rz:=aT (au n1) (aT (ao n2) (ao n3));have q3:=(f3 q (bI (aT (aq lb) (ao hq)) rfl) (bI (aT (aq ll) (ao hq)) rfl)).trans q2;have c3:=(f3 cc (bI (aT (aq lb) (au hcc)) rfl) (bI (aT (aq ll) (au hcc)) rfl)).trans c2;have W3:=W2.sQ B2 (aR (ao n3) rfl) f3;refine dB (Co (C:=(C0 re ct)) (U:=σ3) (i:=.ofNat cnt) (by show(-1000000000000:Int)<(cnt:Int);exact tn) (by show(cnt:Int)<1000000000000;exact ti oJ rfl) (aA (aT (aD n3) DB) rfl)) λr bA e4 u4=>?_;have h4:=u4.nm;have n4:=u4.nx;refine dB (Cr (C:=(C0 re ct)) u4.self (by show(-1000000000000:Int)<(cnt:Int);exact tn) (by show(cnt:Int)<1000000000000;exact ti oJ rfl) (aA (aT (aL n4) (aT (aD n3) DB)) rfl)) λit bT e5 u5=>?_;have h5:=u5.nm;have n5:=u5.nx;have eW:=aT (au n1) (aT (ao n2) (aT (ao n3) (aT (au n4) (au n5))));refine bG ⟨rfl,sA e4 ⟨it,bT,e5,by exact cX (aT (aL n5) (aT (aL n4) (aT (aD n3) DB))) rfl,λacc q' fz dP u6 u7=>?_⟩⟩;have h6:=u6.nm;have zK:=aT (aD hq) (aT eW (ao h6));have n6:=u6.nx;have h7:=u7.nm;have Dw:=aT (au n5) (aT (au n6) (ao h7));have n7:=u7.nx;have jR:=aT (aL n7) (aT (aL n6) (aT (aL n5) (aT (aL n4) (aT (aD n3) (aT (aD n2) (aL n1))))));have U7:=u7.get (aB (aT (aD h5) Dw) rfl) (u6.get (aB (aT (aD h5) (aT (au n5) (ao h6))) rfl) u5.self);have qu:∀y,y<σ3.next->dP.get y=σ3.get y:=λy hy=>by rw[u7.fr y (aB (aT (aq hy) (aT (au n4) Dw)) rfl),u6.fr y (aB (aT (aq hy) (aT (au n4) (aT (au n5) (ao h6)))) rfl),u5.fr y (aB (aT (aq hy) (aT (au n4) (ao h5))) rfl),u4.fr y (aB (aT (aq hy) (ao h4)) rfl)]
 have B7:dY dP b l (j+1+1):=B3.keep (aR (aT (au n4) (aT (au n5) (aT (au n6) (au n7)))) rfl) (qu _ (aA (aT (aq lb) rz) rfl)) (qu _ (aA (aT (aq ll) rz) rfl));refine⟨by rw[U7];rfl,?_⟩;refine Zg (m:=n+5966- cnt) (i:=0) (ns:=[]) (cnt:=cnt) cnt (rT _) (Vd (eo oJ (by decide)) rfl) u7.self ((qu cc (aA (aT (aL hcc) rz) rfl)).trans c3) U7 (u7.get (aB (aT (aD h6) (aT (au n6) (ao h7))) rfl) u6.self) B7 (tj hj oJ) (cX (aT jR (bD hr)) rfl) (by show 0+cnt<=1000;exact tz oJ) λdR RT ns w1 w2 w3 B8 n8 f8=>?_;have w3:ns.length=cnt:=by rw[w3];exact rT _
 refine⟨RT,w1,λi0 u9=>?_⟩;have n9:=u9.nx;have gY:=aT (au n6) (aT (au n7) (aT (ao n8) (ao n9)));have nM:∀y,y<σ3.next->y≠b->y≠l->i0.get y=σ3.get y:=λy hy hb hl=>by rw[u9.fr y (aB (aT (aq hy) (aT (au n4) Dw)) rfl),f8 y (aB (aT (aq hy) (aT (au n4) (ao h5))) rfl) (aB (aT (aq hy) (aT (au n4) Dw)) rfl) (aB (aT (aq hy) (aT (au n4) (aT (au n5) (ao h6)))) rfl) hb hl,qu y hy]
 have q9:=(nM q (aA (aT (aD hq) rz) rfl) (bI (aT (aq lb) (ao hq)) rfl) (bI (aT (aq ll) (ao hq)) rfl)).trans q3;have c9:=(nM cc (aA (aT (aL hcc) rz) rfl) (bI (aT (aq lb) (au hcc)) rfl) (bI (aT (aq ll) (au hcc)) rfl)).trans c3;have akn:i0.get acc=aa (.list (cK ns)):=u9.get (aB (aT (aD h6) (aT (au n6) (ao h7))) rfl) w2;have B9:dY i0 b l (j+1+1+cnt):=B8.keep (aR (ao n9) rfl) (u9.fr _ (aB (aT (aq lb) (aT eW (aT (au n6) (ao h7)))) rfl)) (u9.fr _ (aB (aT (aq ll) (aT eW (aT (au n6) (ao h7)))) rfl));have W9:di i0 w wn md ac c:=by refine jB W3.ex λkvs mk D6=>?_;have h1:=D6.a1;have h2:=D6.a2;have h6:=D6.a6;have dO:=D6.kI;exact W3.keep (aR (aT (au n4) (aT (au n5) gY)) rfl) (nM _ (aA (aT (aq lw) rz) rfl) (bx h1 B3.gb nofun) (bx h1 B3.gl nofun)) (nM _ (aA (aT (aq i8) rz) rfl) (bx h2 B3.gb nofun) (bx h2 B3.gl nofun)) (nM _ (aA (aT (aq nN) rz) rfl) (bx dO B3.gb nofun) (bx dO B3.gl nofun))
 refine bG ⟨rfl,by exact aA (aT (aD n9) (aT (aD n8) (aT jR (bD hr)))) rfl,λtp cz dM=>?_⟩;have dO:=dM.nm;have kJ:=dM.nx;have mT:=dM.get (aB (aT (aD hq) (aT eW (aT gY (ao dO)))) rfl) q9;refine⟨[.int (.lit (.ofNat deep)),.ref acc],_,yS dM.self,rfl,mT,λjS i6=>?_⟩;have rL:=i6.nx;have nF:=aT (aD h6) (aT gY (aT (au kJ) (ao rL)));have bg:=aT (au n1) (aT (ao n2) (aT (ao n3) (aT (au n4) (aT (au n5) (aT gY (aT (au kJ) (ao rL)))))));have DY:jS.get q=_:=i6.self;have Rw:jS.get acc=aa (.list (cK ns)):=i6.get (by show acc≠q;exact bI zK rfl) (dM.get (aB (aT (aD h6) (aT gY (ao dO))) rfl) akn);have W11:=(W9.new dM).upd i6 (by show q≠w/\q≠wn/\q≠md;exact⟨bI (aT (aq lw) (ao hq)) rfl,bI (aT (aq i8) (ao hq)) rfl,bI (aT (aq nN) (ao hq)) rfl⟩);have B11:dY jS b l (j+1+1+cnt):=(B9.new dM).keep (aR (ao rL) rfl) (i6.fr _ (by show b≠q;exact aB (aT (aq lb) (ao hq)) rfl)) (i6.fr _ (by show l≠q;exact aB (aT (aq ll) (ao hq)) rfl));have c11:jS.get cc=aa (.cell (aa (.ref b))):=i6.get (by show cc≠q;exact bI (aT (aD hq) (au hcc)) rfl) (dM.get (aB (aT (aL hcc) (aT eW (aT gY (ao dO)))) rfl) c9);have Dg:∀y,y<U.next->y≠b->y≠l->jS.get y=U.get y:=λy hy hb hl=>by rw[i6.fr y (by show y≠q;exact aB (aT (aq hy) (ao hq)) rfl),dM.fr y (aB (aT (aq hy) (aT eW (aT gY (ao dO)))) rfl),nM y (aA (aT (aq hy) rz) rfl) hb hl,f3 y hb hl,f2 y hb hl,jQ y hy]
 refine bW (gV (dc (cI (aW (aP DY rfl (aW (aP DY rfl (aW (aP DY rfl (bG ⟨show iE (C0 re ct) (.adr 919) jS=ah from ad7,(aaK (m:=n+5936- deep) (d:=d+5) (xs:=cK ns) (Ko (eo dC (by decide)) rfl) W11 Rw (aA nF rfl) (by rw[kO];exact cL (aT (aD w3) (cC oJ)) rfl) (cL (aT (aM QU) (eX hm)) rfl) (Js (m:=6654) (cX (aT (aD rL) (aT (aL kJ) (aT (aD n9) (aT (aD n8) (aT jR (bD hr)))))) rfl) dC rfl)).mono λv wX z=>?_⟩))))))))));refine GJ z λx its dQ Kn I12 W12 tB=>?_;try clear z;subst dQ
 have qw:=tB.le;have Ba:wX.next<=jS.next+6614:=JI tB.ge dC rfl
 have hK:2*deep+ns.length<=2201:=tk2 dC w3 oJ;have xq:=(tB.fr q (aA (aT (aD hq) bg) rfl) (bI (aT (aq i8) (ao hq)) rfl)).trans DY;refine qo xq λjU kK=>?_;have o9:=kK.nx;have Ac:=aT bg (aT (aM qw) (ao o9));have fF:=aT (aD o9) (aT (dX Ba) (aT (aD rL) (aT (aL kJ) (aT (aD n9) (aT (aD n8) jR)))));have Km:jU.get q=_:=kK.self;have zX:∀y,y<jS.next->y≠wn->y≠q->jU.get y=jS.get y:=λy hy h1 h2=>by rw[kK.fr y h2,tB.fr y hy h1]
 have ae3:=(zX acc (aA nF rfl) (bI (aT (aq i8) (aT eW (ao h6))) rfl) (bI zK rfl)).trans Rw;have c13:=(zX cc (aA (aT (aL hcc) bg) rfl) (bI (aT (aq i8) (au hcc)) rfl) (bI (aT (aD hq) (au hcc)) rfl)).trans c11;have VN:=W12.upd kK (by show q≠w/\q≠wn/\q≠md;exact⟨bI (aT (aq lw) (ao hq)) rfl,bI (aT (aq i8) (ao hq)) rfl,bI (aT (aq nN) (ao hq)) rfl⟩);have B13:dY jU b l (j+1+1+cnt):=B11.keep (aR (aT (aM qw) (ao o9)) rfl) (zX b (aA (aT (aq lb) bg) rfl) ba (aB (aT (aq lb) (ao hq)) rfl)) (zX l (aA (aT (aq ll) bg) rfl) la (aB (aT (aq ll) (ao hq)) rfl));have TU:Kp wX.next wX jU:=kK.kp xq rfl
 have Ux:=Kn.keep TU (aQ o9.symm);have UA:=I12.keep TU (aQ o9.symm);refine bW (ku (eV (λ_ _ _ _ _=>rfl) (gf (iL (dc (cI (aW (aP Km rfl (aW (aP Km rfl (aW (iC (bG ⟨rfl,by exact aA (aT fF (bD hr)) rfl,λa14 wR mW=>?_⟩)))))))))))));have xD:=mW.nm;have nP:=mW.nx;have IW:Kp jU.next jU wR:=mW.kp (cN _)
 have T14:=Ux.keep IW (show jU.next<=wR.next by exact aR (au nP) rfl);have I14:=UA.keep IW (show jU.next<=wR.next by exact aR (au nP) rfl);have Wd:∀i,i<deep->numAt (c+1) i ∉ [numAt (c+1) deep]:=λi hi q=>by
  rcases List.mem_cons.mp q with q|q
  ·exact Gr hc (show i≠deep from by exact aB (aq hi) rfl) q
  ·cases q
 obtain⟨hits,Uw⟩:=OD (dep:= -1) (h:=1) (st:=[numAt (c+1) deep]) (by decide) hc BU (by rw[kO];exact cL (aT (aD w3) (cC oJ)) rfl) I14 Wd;rw[kO]at Uw;refine bG ⟨show iE (C0 re ct) (.adr 505) wR=ah from Hx,(EK (m:=n+5912-(2*deep+ns.length)) (d:=d+4) (Ko (eo hK (by decide)) rfl) mW.self (aA (aT (aD xD) (au nP)) rfl) (.inl ⟨rfl,rfl⟩) T14.th (VN.new mW) Uw (cL (cC hits) rfl) (eo hK (by decide)) (Js (m:=17718) (cX (aT (aL nP) (aT fF (bD hr))) rfl) hK rfl)).mono λv nI z=>?_⟩;obtain⟨x15,aiA,akV,l15,ig,VS,y15,W15,z1,z2,z3,z4,z5,z6,Ej⟩:=z;subst ig;have Av:=Ej.le;have VX:nI.next<=wR.next+17668:=JI Ej.ge hK rfl
 have wO:∀y,y<jU.next->y≠wn->nI.get y=jU.get y:=λy hy h1=>by rw[Ej.fr y (aA (aT (aq hy) (au nP)) rfl) h1,mW.fr y (aB (aT (aq hy) (ao xD)) rfl)]
 have Kv:=(wO q (aA (aT (aD hq) Ac) rfl) (bI (aT (aq i8) (ao hq)) rfl)).trans Km;have Q6:=(wO acc (aA (aT nF (aT (aM qw) (ao o9))) rfl) (bI (aT (aq i8) (aT eW (ao h6))) rfl)).trans ae3;have c15:=(wO cc (aA (aT (aL hcc) Ac) rfl) (bI (aT (aq i8) (au hcc)) rfl)).trans c13;have JM:dY nI b l (j+1+1+cnt):=B13.keep (aR (aT (au nP) (aM Av)) rfl) (wO b (aA (aT (aq lb) Ac) rfl) ba) (wO l (aA (aT (aq ll) Ac) rfl) la);have TM:Kp jU.next jU nI:=IW.trans (Ej.kp (aR (au nP) rfl) (VN.new mW).nt)
 have T15:=Ux.keep TM (show jU.next<=nI.next by exact aR (aT (au nP) (aM Av)) rfl);have I15:=UA.keep TM (show jU.next<=nI.next by exact aR (aT (au nP) (aM Av)) rfl);refine⟨x15,82,aiA,_,_,rfl,VS.x,fM (sym:=(gv re ct)),ng (sym:=(gv re ct)),VS.d,rfl,rfl,aP Kv rfl ⟨ak,by show(fG nI 8 (.ref l15) (.ref acc)).map (!·)=_;rw[CC y15 Q6 vN];rfl,ak,rfl,qh ?_⟩⟩;refine bW (gV (dc (cI (aW (aP Kv rfl (aW (dc (cI (aW (wB (c:=cc) rfl c15 (aW (cM (bG ⟨show iE (C0 re ct) (.adr 905) nI=ah from uf,tY (w:=6) JM (tj hj oJ) (cX (aT (dX VX) (aT (aL nP) (aT fF (bD hr)))) rfl) λs0 ak4 hs0 B16 Aq AW=>?_⟩)))))))))))));have V8:=(AW q (bI (aT (aq lb) (ao hq)) rfl) (bI (aT (aq ll) (ao hq)) rfl)).trans Kv;have ahp:=(AW acc (bI (aT (aq lb) (aT eW (ao h6))) rfl) (bI (aT (aq ll) (aT eW (ao h6))) rfl)).trans Q6;have W16:=W15.sQ JM (aR (ao Aq) rfl) AW;refine bG ⟨rfl,kZ acH (qo V8 λoH sZ=>?_)⟩;have An:=sZ.nx;have IT:=aT (aD An) (aT (aD Aq) (aT (dX VX) (aT (aL nP) fF)));have bY:=aT (aM qw) (aT (ao o9) (aT (au nP) (aT (aM Av) (aT (ao Aq) (ao An)))));have Dy:=aT (aD hq) (aT bg bY);have D9:oH.get q=_:=sZ.self;have afP:=sZ.get (by show acc≠q;exact bI zK rfl) ahp;have Vh:=W16.upd sZ (by show q≠w/\q≠wn/\q≠md;exact⟨bI (aT (aq lw) (ao hq)) rfl,bI (aT (aq i8) (ao hq)) rfl,bI (aT (aq nN) (ao hq)) rfl⟩);have B17:dY oH b l (j+1+1+cnt+1):=B16.keep (aR (ao An) rfl) (sZ.fr _ (by show b≠q;exact aB (aT (aq lb) (ao hq)) rfl)) (sZ.fr _ (by show l≠q;exact aB (aT (aq ll) (ao hq)) rfl));have Sg:Kp nI.next nI oH:=(Kp.sQ JM AW).trans (sZ.kp V8 rfl)
 have T17:=T15.keep Sg (show nI.next<=oH.next by exact aR (aT (ao Aq) (ao An)) rfl);have I17:=I15.keep Sg (show nI.next<=oH.next by exact aR (aT (ao Aq) (ao An)) rfl);refine bW (gV (dc (cI (aW (aP D9 rfl (aW (aP D9 rfl (aW (iC (aW (aP D9 rfl (bG ⟨rfl,by exact aA (aT IT (bD hr)) rfl,λa18 wN vm=>?_⟩))))))))))));have AN:=vm.nm;have oZ:=vm.nx;have Sv:Kp oH.next oH wN:=vm.kp (cN _)
 have T18:=T17.keep Sv (show oH.next<=wN.next by exact aR (au oZ) rfl);have I18:=I17.keep Sv (show oH.next<=wN.next by exact aR (au oZ) rfl);refine za (Nh (s:=min deep s0) (h:=1) (r:=min deep s0) (st:=[numAt (c+1) deep]) hc BU (by rw[kO];exact cL (aT (aD w3) (cC oJ)) rfl) I18 Wd (BE _ _)) λ_ ys UY O18 RV R18=>?_;have kC:UY<=2201:=eo RV (by rw[kO];exact hK);rw[kO]at RV;refine bG ⟨show iE (C0 re ct) (.adr 505) wN=ah from Hx,(EK (m:=n+5913- UY) (d:=d+4) (Ko (eo kC (by decide)) rfl) vm.self (aA (aT (aD AN) (au oZ)) rfl) (.inr (.inr rfl)) T18.th (Vh.new vm) O18 (ajq (by assumption)) (eo kC (by decide)) (Js (m:=17718) (cX (aT (aL oZ) (aT IT (bD hr))) rfl) kC rfl)).mono λv SQ z=>?_⟩;obtain⟨UW,SR,ajn,Vz,jW,UU,y19,W19,v1,v2,v3,v4,v5,v6,DX⟩:=z;subst jW;have JH:=DX.le;have b19:SQ.next<=wN.next+17668:=JI DX.ge kC rfl
 have zL:∀y,y<oH.next->y≠wn->SQ.get y=oH.get y:=λy hy h1=>by rw[DX.fr y (aA (aT (aq hy) (au oZ)) rfl) h1,vm.fr y (aB (aT (aq hy) (ao AN)) rfl)]
 have Wf:=(zL q (aA Dy rfl) (bI (aT (aq i8) (ao hq)) rfl)).trans D9;refine qo Wf λnJ oR=>?_;have vj:=oR.nx;have I0:=aT (aD vj) (aT (dX b19) (aT (aL oZ) IT));have iG:=aT bY (aT (au oZ) (aT (aM JH) (ao vj)));have JB:nJ.get q=_:=oR.self;have ag3:=oR.get (by show acc≠q;exact bI zK rfl) ((zL acc (aA (aT nF bY) rfl) (bI (aT (aq i8) (aT eW (ao h6))) rfl)).trans afP);have W20:=W19.upd oR (by show q≠w/\q≠wn/\q≠md;exact⟨bI (aT (aq lw) (ao hq)) rfl,bI (aT (aq i8) (ao hq)) rfl,bI (aT (aq nN) (ao hq)) rfl⟩);have B20:dY nJ b l (j+1+1+cnt+1):=B17.keep (aR (aT (au oZ) (aT (aM JH) (ao vj))) rfl) (by rw[oR.fr _ (by show b≠q;exact aB (aT (aq lb) (ao hq)) rfl),zL b (aA (aT (aq lb) (aT bg bY)) rfl) ba]) (by rw[oR.fr _ (by show l≠q;exact aB (aT (aq ll) (ao hq)) rfl),zL l (aA (aT (aq ll) (aT bg bY)) rfl) la]);have T20:TO nJ.next nJ UW (c+1+1+1) ac ys:=⟨SR,ajn,Vz,⟨oR.get (by show UW≠q;exact bI (aT Dy (aT (au oZ) (aM v1))) rfl) UU.x,oR.get (by show SR≠q;exact bI (aT Dy (aT (au oZ) (aM v2))) rfl) UU.d⟩,oR.get (by show Vz≠q;exact bI (aT Dy (aT (au oZ) (aM v3))) rfl) y19,by exact aA (aT (aq v4) (ao vj)) rfl,by exact aA (aT (aq v5) (ao vj)) rfl,by exact aA (aT (aq v6) (ao vj)) rfl⟩
 have R20:=R18.keep ((DX.kp (cN _) (Vh.new vm).nt).trans (oR.kp Wf rfl)) (show wN.next<=nJ.next by exact aR (aT (aM JH) (ao vj)) rfl);refine dB (Co (C:=(C0 re ct)) (U:=nJ) (i:=.ofNat (deep- min deep s0)) (by show(-1000000000000:Int)<((deep- min deep s0:Nat):Int);exact tn) (by show((deep- min deep s0:Nat):Int)<1000000000000;exact ti (eo (rV _ _) dC) rfl) (aA (aT I0 (bD hr)) rfl)) λr21 akT e21 u0=>?_;have h21:=u0.nm;have mU:=u0.nx;refine dB (Cr (C:=(C0 re ct)) u0.self (by show(-1000000000000:Int)<((deep- min deep s0:Nat):Int);exact tn) (by show((deep- min deep s0:Nat):Int)<1000000000000;exact ti (eo (rV _ _) dC) rfl) (aA (aT (aL mU) (aT I0 (bD hr))) rfl)) λUc Tp e22 uW=>?_;have h22:=uW.nm;have xg:=uW.nx;have SH:Kp nJ.next nJ Tp:=(u0.kp (cN _)).trans (uW.kp (aR (au mU) rfl))
 refine bW (Gx (dc (cI (aW (jt (aP JB rfl (aP JB rfl ⟨.int (.lit (.ofNat (deep- min deep s0))),nJ,?_,bG ⟨rfl,sA e21 ⟨Uc,Tp,e22,?_⟩⟩⟩)))))))
 ·show aa (AV.int (.lit (fq (gU deep- gU (min deep s0)))),nJ)=_;rw[iK]
  congr 4
  show(deep:Int)-((min deep s0:Nat):Int)=((deep- min deep s0:Nat):Int);exact tmn
 refine Zv (q:=q) (it:=Uc) (ac:=ac) (c0:=c+1) (xs:=cK ns) (m:=n+5953-(deep- min deep s0)) (stop:=deep- min deep s0) (deep- min deep s0) (i:=0) (rT _) (Vd (eo (rV _ _) (eo dC (by decide))) rfl) (uW.get (aB (aT (aD hq) (aT bg (aT iG (aT (au mU) (ao h22))))) rfl) (u0.get (aB (aT (aD hq) (aT bg (aT iG (ao h21)))) rfl) JB)) rfl rfl uW.self (T20.keep SH (aR (aT (au mU) (au xg)) rfl)) (R20.keep SH (aR (aT (au mU) (au xg)) rfl)) λTc agu x23 akM w1 w2 w3 w4 w5 w6=>?_;refine qU w4.ex λah6 akW l23 t1 t2 t3 t4 t5=>?_;have afm:Tc.get acc=aa (.list (cK ns)):=by rw[w6 acc (bI zK rfl) (aB (aT nF (aT iG (aT (au mU) (ao h22)))) rfl),uW.fr acc (aB (aT nF (aT iG (aT (au mU) (ao h22)))) rfl),u0.fr acc (aB (aT nF (aT iG (ao h21))) rfl)];exact ag3
 have wH:∀y,y<nJ.next->y≠q->Tc.get y=nJ.get y:=λy hy h1=>by rw[w6 y h1 (aB (aT (aq hy) (aT (au mU) (ao h22))) rfl),uW.fr y (aB (aT (aq hy) (aT (au mU) (ao h22))) rfl),u0.fr y (aB (aT (aq hy) (ao h21)) rfl)]
 have i23:bN agu bf=aa (.ref acc):=by rw[w2 bf rfl rfl];rfl
 refine bW (kU (gf (iL (aP w1 w3 ⟨x23,82,ah6,_,_,rfl,t1.x,fM (sym:=(gv re ct)),ng (sym:=(gv re ct)),t1.d,rfl,rfl,aP w1 i23 ⟨ah,CC t2 afm vN,lQ (kP ⟨rfl,c+1+1+1,j+1+1+cnt+1,?_,by exact tc1,by exact tc2,?_,by exact tj3,by exact tj2 oJ,by exact aR (aT bg (aT iG (aT (au mU) (aT (au xg) (ao w5))))) rfl,by exact jn (aT (aD w5) (aT (aL xg) (aT (aL mU) I0))) rfl,λy hy ny=>?_⟩)⟩⟩))))
 ·exact W20.keep (aR (aT (au mU) (aT (au xg) (ao w5))) rfl) (wH _ (aA (aT (aq lw) (aT bg iG)) rfl) (aB (aT (aq lw) (ao hq)) rfl)) (wH _ (aA (aT (aq i8) (aT bg iG)) rfl) (aB (aT (aq i8) (ao hq)) rfl)) (wH _ (aA (aT (aq nN) (aT bg iG)) rfl) (aB (aT (aq nN) (ao hq)) rfl))
 ·exact B20.keep (aR (aT (au mU) (aT (au xg) (ao w5))) rfl) (wH _ (aA (aT (aq lb) (aT bg iG)) rfl) (aB (aT (aq lb) (ao hq)) rfl)) (wH _ (aA (aT (aq ll) (aT bg iG)) rfl) (aB (aT (aq ll) (ao hq)) rfl))
 ·rw[wH y (aA (aT (aq hy) (aT bg iG)) rfl) (aB (aT (aq hy) (ao hq)) rfl),oR.fr y (by show y≠q;exact aB (aT (aq hy) (ao hq)) rfl),zL y (aA (aT (aq hy) (aT bg bY)) rfl) (λe=>ny (.inl e)),sZ.fr y (by show y≠q;exact aB (aT (aq hy) (ao hq)) rfl),AW y (λe=>ny (.inr (.inl e))) (λe=>ny (.inr (.inr (e)))),wO y (aA (aT (aq hy) Ac) rfl) (λe=>ny (.inl e)),zX y (aA (aT (aq hy) bg) rfl) (λe=>ny (.inl e)) (aB (aT (aq hy) (ao hq)) rfl),Dg y hy (λe=>ny (.inr (.inl e))) (λe=>ny (.inr (.inr (e))))]
end
section
variable{re:List Nat}{ct:Nat}{FL:Ev->Nat->List AV->ES->R Out}{m d n k:Nat}{U σ':ES}{w wn md ac:Nat}{c:Int}
noncomputable def ua:AV->Bool
 | .ref _=>ah
 |_=>ak
noncomputable def oz(N0:Nat)(U:ES)(a:AV):Prop:=nv a\/∃t num items,a= .ref t/\TH N0 U t num items
theorem oz.keep{N0:Nat}{a:AV}(h:oz N0 U a)(e:∀y,y<N0->σ'.get y=U.get y):oz N0 σ' a:=by
 rcases h with h|⟨t,num,items,h1,h2⟩
 ·exact .inl h
 ·exact .inr ⟨t,num,items,h1,h2.move (cN _) e⟩
theorem MS{C:EC}{it lx i:Nat}{xs:List AV}{x:AV}(h:U.get it=aa (.jO lx i))(h2:U.get lx=aa (.list xs))(h3:xs[i]?=aa x):∃σ',iW C it U=aa (aa x,σ')/\Upd it (.jO lx (i+1)) U σ':=by refine⟨_,?_,Upd.of h⟩;unfold iW;rw[h];show(U.gL lx).bind _=_;rw[lP h2];show qg it xs i _ U=_;unfold qg;rw[h3];rfl
theorem N6{C:EC}{it lx i:Nat}{xs:List AV}(h:U.get it=aa (.jO lx i))(h2:U.get lx=aa (.list xs))(h3:xs[i]?=af):∃σ',iW C it U=aa (af,σ')/\Upd it .any U σ':=by refine⟨_,?_,Upd.of h⟩;unfold iW;rw[h];show(U.gL lx).bind _=_;rw[lP h2];show qg it xs i _ U=_;unfold qg;rw[h3];rfl
theorem X0{N0 q fr it acc lx code:Nat}{xs:List AV}{P:Unit->ES->Prop}:∀(r:Nat) {i n:Nat} {U:ES} {kvs:List (Nat×AV)} {ys:List AV},i+r=xs.length->n=m+30+r->U.get q=aa (.ns kvs)->U.get it=aa (.jO lx i)->U.get lx=aa (.list xs)->U.get acc=aa (.list ys)->acc≠lx->
  (∀x∈xs,oz N0 U x)->N0<=it->N0<=q->N0<=acc->ys.length+r<=100000->
  (∀σ' kvs',σ'.get q=aa (.ns kvs')->σ'.get acc=aa (.list (ys++(xs.drop i).filter ua))->σ'.next=U.next->(∀y,y≠it->y≠q->y≠acc->σ'.get y=U.get y)->P () σ')->
  RW (jz (ev (C0 re ct) FL n (d+2) (.comp ⟨q,fr,[],code⟩ (.loc eZ) eZ ak it (aa (.call (.az (.bi 1)) [.loc eZ,.az (.adr 82)])) acc) U)) P:=by
 intro r;induction r with
 |zero=>
  intro i n U kvs ys hi hn hq hit hlx hacc qt hF l1 l2 l3 hy k;have hn:n=(m+29)+1:=by exact JN hn
  subst hn;refine aV (N6 (C:=(C0 re ct)) hit hlx (Ex (aR (Al hi) rfl))) λσ1 e1 u1=>?_;have x1:q≠it:=bx hq hit nofun
  have x2:acc≠it:=bx hacc hit nofun
  refine HD e1 (k σ1 kvs (u1.get x1 hq) ?_ u1.nx λy h1 _ _=>u1.fr y h1);rw[Ew (aR (Al hi) rfl),List.filter_nil,lJ];exact u1.get x2 hacc
 |succ r ih=>
  intro i n U kvs ys hi hn hq hit hlx hacc qt hF l1 l2 l3 hy k;have hn:n=(m+r)+31:=by exact J3 hn
  subst hn;have hlt:i<xs.length:=by exact aA (aT aU (VM hi)) rfl
  refine aV (MS (C:=(C0 re ct)) hit hlx (qF hlt)) λσ1 e1 u1=>?_;have x1:q≠it:=bx hq hit nofun
  have x2:acc≠it:=bx hacc hit nofun
  have x3:lx≠it:=bx hlx hit nofun
  have y1:acc≠q:=bx hacc hq nofun
  have y2:lx≠q:=bx hlx hq nofun
  have q1:=u1.get x1 hq;refine GZ e1 q1 λσ2 u2=>?_;have q2:σ2.get q=_:=u2.self;have n2:σ2.next=U.next:=by rw[u2.nx,u1.nx]
  have lR:∀y,y<N0->σ2.get y=U.get y:=λy hy=>by rw[u2.fr y (by show y≠q;exact aB (aT (aq hy) (aM l2)) rfl),u1.fr y (aB (aT (aq hy) (aM l1)) rfl)]
  have Dr:σ2.get acc=_:=u2.get y1 (u1.get x2 hacc);have tC:σ2.get lx=_:=u2.get y2 (u1.get x3 hlx);have xr:σ2.get it=_:=u2.get x1.symm u1.self;have hx:=(hF _ (List.getElem_mem hlt)).keep lR;have hd:xs.drop i=xs[i]::xs.drop (i+1):=Et hlt;rcases hx with hp|⟨t,num,items,ht,hT⟩
  ·refine qa (eV (λ_ _ _ _ _=>rfl) (dc (cI (aW (aP q2 (gF _ _ _) (aW (cI (bG ⟨rfl,kZ (L5 hp) ⟨ak,rfl,λ_=>?_,nofun⟩⟩))))))));refine ih (i:=i+1) (vh hi) (Ec) q2 xr tC Dr qt (λx hx=>(hF x hx).keep lR) l1 l2 l3 (Xi hy) λbT nG w1 w2 w3 w4=>?_;refine k bT nG w1 ?_ (cO (aR (aT (aD w3) (aD n2)) rfl) (aR (aT (ao n2) (ao w3)) rfl)) λy h1 h2 h3=>by rw[w4 y h1 h2 h3,u2.fr y h2,u1.fr y h1]
   rw[w2,hd,List.filter_cons_of_neg];intro z;cases hv:xs[i]<;>rw[hv]at hp z<;>first|exact hp.elim|(exact cB z)
  ·refine yE hT.ex λdd own fd l a1 a2 a3 a4 a5=>?_;refine qa (eV (λ_ _ _ _ _=>rfl) (dc (cI (aW (aP q2 (gF _ _ _) (aW (cI (bG ⟨rfl,kZ (v:=.bool ah) (σ1:=σ2) (by rw[ht];exact E6 a1.x a1.d) ⟨ah,rfl,nofun,λ_=>?_⟩⟩))))))));refine aP q2 (gF _ _ _) ⟨ys,Dr,Nat.ble_eq.mpr (Vb hy),λσ3 u3=>?_⟩;have n3:=u3.nx;refine ih (i:=i+1) (vh hi) (Ec) (u3.get y1.symm q2) (u3.get x2.symm xr) (u3.get qt.symm tC) u3.self qt (λx hx=>((hF x hx).keep lR).keep λy hy=>u3.fr y (aB (aT (aq hy) (aM l3)) rfl)) l1 l2 l3 (by rw[fX,jC];exact DP hy) λbT nG w1 w2 w3 w4=>?_;refine k bT nG w1 ?_ (cO (aR (aT (aD w3) (aT (aD n3) (aD n2))) rfl) (aR (aT (ao n2) (aT (ao n3) (ao w3))) rfl)) λy h1 h2 h3=>by rw[w4 y h1 h2 h3,u3.fr y h3,u2.fr y h2,u1.fr y h1]
   rw[w2,hd,List.filter_cons_of_pos (by rw[ht];rfl),tF];rfl
end
section
variable{re:List Nat}{ct:Nat}{FL:Ev->Nat->List AV->ES->R Out}{m d n k:Nat}{U σ':ES}{w wn md ac arr dd fd l a:Nat}{c num:Int}{own:AV}{items ys:List AV}
theorem ahr:(C0 re ct).fn 386=aa OV:=by kernel_rfl
theorem afi:(C0 re ct).fn 510=aa Py:=by kernel_rfl
theorem acw:(C0 re ct).may 386=ah:=by kernel_rfl
theorem adW:(C0 re ct).may 510=ah:=by kernel_rfl
theorem XG(t:IsT U arr dd (.int (.lit num)) own fd l)(h1:arr<U.next)(h2:dd<U.next)(hr:U.next+1<room):RW (dW (ev (C0 re ct) FL (n+8)) (d+1) (.adr 386) [.ref w,.ref arr] U) λv σ'=>v= .none/\eE 1 U σ' (λ_=>False):=by refine jw ahr rfl rfl rfl rfl rfl (aA (bD hr) rfl) λq σ1 u1=>?_;have hq:=u1.nm;have n1:=u1.nx;have x1:=u1.get (aB (aT (aq h1) (ao hq)) rfl) t.x;have d1:=u1.get (aB (aT (aq h2) (ao hq)) rfl) t.d;refine bW (ku (eV (λ_ _ _ _ _=>rfl) (iL (aP u1.self rfl ⟨arr,82,dd,_,_,rfl,x1,fM (sym:=(gv re ct)),Mv (sym:=(gv re ct)),d1,rfl,rfl,ak,rfl,qh (kE (Cs ⟨rfl,by exact aR (au n1) rfl,by exact jn (aL n1) rfl,λy hy _=>u1.fr y (aB (aT (aq hy) (ao hq)) rfl)⟩))⟩))))
theorem M0{C:EC}{x:Nat}{xs:List AV}(h:U.get x=aa (.list xs))(hr:U.next<room):∃it σ',uD C (.ref x) U=aa (it,σ')/\cV it (.jO x 0) U σ':=by refine⟨_,_,?_,cV.of hr⟩;show(U.gL x).elim _ _=_;rw[lP h];rfl
theorem TV{C:EC}{x y:Nat}{xs zs:List AV}(hx:U.get x=aa (.list xs))(hy:U.get y=aa (.list zs))(h:xs.length≠zs.length):jv C .NotEq (.ref x) (.ref y) U=aa ah:=by show(fG U 8 (.ref x) (.ref y)).map (!·)=_;rw[we hx hy,fT,decide_eq_false h];rfl
theorem aeq{x y z:Nat}{xs zs:List AV}(hx:U.get x=aa (.list xs))(hy:U.get y=aa (.slice .none .none))(hz:U.get z=aa (.list zs))(hf:xs.length+zs.length<=1000000):tW (.ref x) (.ref y) (.ref z) U=aa (U.put x (.list zs)):=by show(U.gL x).elim _ _=_;rw[lP hx];show(U.gS y).bind _=_;rw[QB hy];show(U.gL z).bind _=_;rw[lP hz];show cond (fits (xs.length+zs.length)) _ _=_;rw[show fits (xs.length+zs.length)=ah from Nat.ble_eq.mpr hf];rfl
theorem YH{N0:Nat}{bH:ES}{dep:Int}{h k:Nat}{st:List Int}{xs ys:List AV}(O:dN N0 bH dep h st xs ys k):xs.length<=k:=by
 induction O with
 |nil=>exact cN _
 |plain _ _ ih=>rw[lH];exact Eh (aM ih) rfl
 |wV _ _ _ _ ih=>rw[lH];exact Eh (aM ih) rfl
 |oU _ _ _ _ _ _ ih1 ih2=>rw[lH];exact aeR ih2
inductive Vm(arr l:Nat)(ys:List AV)(w wn md ac:Nat)(c:Int)(K:Nat)(U:ES)(v:AV)(σ':ES):Prop
 |mk (e:v= .ref arr) (h1:σ'.get l=aa (.list ys)) (W:di σ' w wn md ac c) (h2:U.next<=σ'.next) (h3:σ'.next<=U.next+K+60) (h4:∀y,y<U.next->y≠l->σ'.get y=U.get y):Vm arr l ys w wn md ac c K U v σ'
theorem abu(hn:n=m+k+90)(W:di U w wn md ac c)(ha:U.get a=aa (.list []))(la:a<U.next)(t:IsT U arr dd (.int (.lit num)) own fd l)(hl:U.get l=aa (.list items))(lx:arr<U.next)(ld:dd<U.next)(ll:l<U.next)(hF:∀x∈items,oz U.next U x)(hne:items.filter ua≠[])
  (O:dN U.next U (-1) 1 [num] items ys k) (hz:items.length<=1000) (hk:k<=19000) (hr:U.next+8*k+110<room):
  RW (dW (ev (C0 re ct) FL n) (d+8) (.adr 510) [.ref w,.ref arr,.ref a] U) (Vm arr l ys w wn md ac c (8*k) U):=by
 subst hn;have lo:=FQ O;have lo2:=YH O;refine cU W.lt λlw i8 nN=>?_;refine jw afi rfl rfl rfl rfl rfl (aA (aT aU (bD hr)) rfl) λq σ1 u1=>?_;have hq:=u1.nm;have n1:=u1.nx;have q1:σ1.get q=_:=u1.self;have t1:IsT σ1 arr dd (.int (.lit num)) own fd l:=⟨u1.get (aB (aT (aq lx) (ao hq)) rfl) t.x,u1.get (aB (aT (aq ld) (ao hq)) rfl) t.d⟩;refine bW (r4 (dc (cI (aW (aP q1 rfl (aW (aP q1 rfl (bG ⟨show iE (C0 re ct) (.adr 386) σ1=ah from acw,(XG t1 (aA (aT (aq lx) (au n1)) rfl) (aA (aT (aq ld) (au n1)) rfl) (cX (aT (aL n1) (aT aU (bD hr))) rfl)).mono λv σ2 z=>?_⟩))))))));obtain⟨rfl,g2⟩:=z;have a2:=g2.le;have b2:=g2.ge;have lR:∀y,y<U.next->σ2.get y=U.get y:=λy hy=>by rw[g2.fr y (aA (aT (aq hy) (au n1)) rfl) nofun,u1.fr y (aB (aT (aq hy) (ao hq)) rfl)]
 have q2:=(g2.fr q (aA (aT (aD hq) (au n1)) rfl) nofun).trans q1;have x2:=(lR arr lx).trans t.x;have d2:=(lR dd ld).trans t.d;have l2:=(lR l ll).trans hl;refine dB (M0 (C:=(C0 re ct)) l2 (aA (aT (dX b2) (aT aU (aT (aK (aL n1)) (bD hr)))) rfl)) λit σ3 e3 u3=>?_;have h3:=u3.nm;have n3:=u3.nx;refine bW (gV (gf (G3 (cl:=[]) rfl (iL (aP q2 rfl ⟨arr,82,dd,_,_,rfl,x2,fM (sym:=(gv re ct)),ng (sym:=(gv re ct)),d2,rfl,rfl,it,σ3,e3,by exact cX (aT (aL n3) (aT aU (aT (aK (dX b2)) (aT (aK (aL n1)) (bD hr))))) rfl,λacc q' bA bT u4 u5=>?_⟩)))));have h4:=u4.nm;have n4:=u4.nx;have h5:=u5.nm;have fF:=aT (au n3) (aT (au n4) (ao h5));have n5:=u5.nx;have DR:=u5.get (aB (aT (aD h3) fF) rfl) (u4.get (aB (aT (aD h3) (aT (au n3) (ao h4))) rfl) u3.self);have iM:∀y,y<σ2.next->bT.get y=σ2.get y:=λy hy=>by rw[u5.fr y (aB (aT (aq hy) fF) rfl),u4.fr y (aB (aT (aq hy) (aT (au n3) (ao h4))) rfl),u3.fr y (aB (aT (aq hy) (ao h3)) rfl)]
 refine⟨by rw[DR];rfl,?_⟩;refine X0 (m:=m+k+55- items.length) (N0:=U.next) items.length (i:=0) (ys:=[]) (HK) (ai3 lo2) u5.self DR ((iM l (aA (aT (aq ll) (aT (au n1) (aM a2))) rfl)).trans l2) (u5.get (aB (aT (aD h4) (aT (au n4) (ao h5))) rfl) u4.self) (bI (aT (aq ll) (aT (au n1) (aT (aM a2) (aT (au n3) (ao h4))))) rfl) (λx hx=>(hF x hx).keep λy hy=>(iM y (aA (aT (aq hy) (aT (au n1) (aM a2))) rfl)).trans (lR y hy)) (aR (aT (au n1) (aT (aM a2) (ao h3))) rfl) (aR (aT (au n1) (aT (aM a2) fF)) rfl) (aR (aT (au n1) (aT (aM a2) (aT (au n3) (ao h4)))) rfl) (by show 0+items.length<=100000;exact agb hz) λfz DH w1 w2 n6 f6=>?_;have akj:∀y,y<σ2.next->fz.get y=σ2.get y:=λy hy=>by rw[f6 y (aB (aT (aq hy) (ao h3)) rfl) (aB (aT (aq hy) fF) rfl) (aB (aT (aq hy) (aT (au n3) (ao h4))) rfl),iM y hy]
 refine⟨DH,w1,λdP u7=>?_⟩;have n7:=u7.nx;have eW:=aT (au n4) (aT (au n5) (aT (ao n6) (ao n7)));have aiE:∀y,y<σ2.next->dP.get y=σ2.get y:=λy hy=>by rw[u7.fr y (aB (aT (aq hy) fF) rfl),akj y hy]
 have aiQ:=u7.get (aB (aT (aD h4) (aT (au n4) (ao h5))) rfl) w2;refine iC (bG ⟨rfl,by exact aA (aT (aD n7) (aT aU (aT (aK (aD n6)) (aT (aK (aL n5)) (aT (aK (aL n4)) (aT (aK (aL n3)) (aT (aK (dX b2)) (aT (aK (aL n1)) (bD hr))))))))) rfl,λx8 dR u8=>?_⟩);have h8:=u8.nm;have n8:=u8.nx;have Iu:=u8.get (aB (aT (aD h4) (aT eW (ao h8))) rfl) aiQ;have Te:∀y,y<σ2.next->dR.get y=σ2.get y:=λy hy=>by rw[u8.fr y (aB (aT (aq hy) (aT (au n3) (aT eW (ao h8)))) rfl),aiE y hy]
 have q8:=(Te q (aA (aT (aD hq) (aT (au n1) (aM a2))) rfl)).trans q2;refine⟨ah,TV Iu u8.self (by rw[xW,Bw,List.length_nil];exact λz=>hne (List.eq_nil_of_length_eq_zero z)),qo q8 λi0 u9=>?_⟩
 have n9:=u9.nx;have bg:=aT (au n1) (aT (aM a2) (aT (au n3) (aT eW (aT (au n8) (ao n9)))));have q9:i0.get q=_:=u9.self;have uJ:∀y,y<U.next->i0.get y=U.get y:=λy hy=>by rw[u9.fr y (by show y≠q;exact aB (aT (aq hy) (ao hq)) rfl),Te y (aA (aT (aq hy) (aT (au n1) (aM a2))) rfl),lR y hy]
 have W9:di i0 w wn md ac c:=W.keep (aR bg rfl) (uJ _ lw) (uJ _ i8) (uJ _ nN);have TH9:TH i0.next i0 arr num items:=TH.move (N0:=U.next) ⟨dd,own,fd,l,t,hl,lx,ld,ll⟩ (aR bg rfl) uJ
 refine bW (gV (dc (cI (aW (aP q9 rfl (aW (aP q9 rfl (aW (aP q9 rfl (bG ⟨show iE (C0 re ct) (.adr 498) i0=ah from PW,(Mb (m:=m+25) (d:=d+1) (ai5) ((uJ a la).trans ha) (aA (aT (aq la) bg) rfl) (.inl ⟨rfl,rfl⟩) TH9 W9.wn (O.move (aR bg rfl) uJ) (cL (aT (aM lo2) (cC hk)) rfl) hk (cX (aT (aK (aD n9)) (aT (aK (aL n8)) (aT (aK (aD n7)) (aT (aK (aD n6)) (aT (aK (aL n5)) (aT (aK (aL n4)) (aT (aK (aL n3)) (aT (aK (dX b2)) (aT (aK (aL n1)) (bD hr)))))))))) rfl)).mono λv cz z=>?_⟩))))))))));obtain⟨UQ,dQ,z1,z2,z3,uU⟩:=z;subst dQ;have kI:=uU.le;have s8:=uU.ge;have Dl:∀y,y<U.next->cz.get y=U.get y:=λy hy=>by rw[uU.fr y (aA (aT (aq hy) bg) rfl) nofun,uJ y hy]
 have mT:=(uU.fr q (aA (aT (aD hq) bg) rfl) nofun).trans q9;refine Ds (iL (aP mT rfl ⟨arr,82,dd,_,_,rfl,(Dl arr lx).trans t.x,fM (sym:=(gv re ct)),ng (sym:=(gv re ct)),(Dl dd ld).trans t.d,rfl,rfl,aaZ (aA (aT (xe s8) (aT (aK (aD n9)) (aT (aK (aL n8)) (aT (aK (aD n7)) (aT (aK (aD n6)) (aT (aK (aL n5)) (aT (aK (aL n4)) (aT (aK (aL n3)) (aT (aK (dX b2)) (aT (aK (aL n1)) (bD hr))))))))))) rfl) λs11 jS i6=>?_⟩));have h11:=i6.nm;have rL:=i6.nx;have Vy:=i6.get (aB (aT (aq ll) (aT bg (aT (aM kI) (ao h11)))) rfl) ((Dl l ll).trans hl);refine⟨_,aeq Vy i6.self (i6.get (aB (aT (aq z3) (ao h11)) rfl) z1) (ahY hz hk lo),?_⟩;have Ea:=Upd.of (o:=.list ys) Vy;generalize jS.put l (.list ys)=wX at*;have Jz:=Ea.nx;have bY:=aT bg (aT (aM kI) (aT (au rL) (ao Jz)));have xq:=Ea.get (bI (aT (aq ll) (ao hq)) rfl) (i6.get (aB (aT (aD hq) (aT bg (aT (aM kI) (ao h11)))) rfl) mT);have zu:∀y,y<U.next->y≠l->wX.get y=U.get y:=λy hy h=>by rw[Ea.fr y h,i6.fr y (aB (aT (aq hy) (aT bg (aT (aM kI) (ao h11)))) rfl),Dl y hy]
 refine jB (id W.ex) λkvs mk ID=>?_;have k1:=ID.a1;have k2:=ID.a2;have k10:=ID.kI;have nwl:w≠l:=bx k1 hl nofun
 have aiJ:wn≠l:=bx k2 hl nofun
 have ajQ:md≠l:=bx k10 hl nofun
 have qt:a≠l:=λe=>by rw[e,hl]at ha;cases ha;exact hne rfl
 refine bW (kU (zD (RG (eV (λ_ _ _ _ _=>rfl) (aP xq rfl ⟨ah,rfl,λ_=>?_,nofun⟩)))));refine eV (λ_ _ _ _ _=>rfl) (gf (aP xq rfl (iC (aW (cM (bG ⟨rfl,by exact aA (aT (aD Jz) (aT (aL rL) (aT (xe s8) (aT (aK (aD n9)) (aT (aK (aL n8)) (aT (aK (aD n7)) (aT (aK (aD n6)) (aT (aK (aL n5)) (aT (aK (aL n4)) (aT (aK (aL n3)) (aT (aK (dX b2)) (aT (aK (aL n1)) (bD hr))))))))))))) rfl,λx13 jU kK=>?_⟩))))));have oN:=kK.nm;have o9:=kK.nx;refine⟨ah,TV (kK.get (aB (aT (aq la) (aT bY (ao oN))) rfl) ((zu a la qt).trans ha)) kK.self (by decide),ah,rfl,?_⟩;refine aP (show jU.get q=_ from kK.get (aB (aT (aD hq) (aT bY (ao oN))) rfl) xq) rfl (lQ (kP ⟨rfl,kK.get (aB (aT (aq ll) (aT bY (ao oN))) rfl) Ea.self,W.keep (aR (aT bY (au o9)) rfl) ((kK.fr _ (aB (aT (aq lw) (aT bY (ao oN))) rfl)).trans (zu _ lw nwl)) ((kK.fr _ (aB (aT (aq i8) (aT bY (ao oN))) rfl)).trans (zu _ i8 aiJ)) ((kK.fr _ (aB (aT (aq nN) (aT bY (ao oN))) rfl)).trans (zu _ nN ajQ)),by exact aR (aT bY (au o9)) rfl,by exact jn (aT (aL o9) (aT (aD Jz) (aT (aL rL) (aT (xe s8) (aT (aK (aD n9)) (aT (aK (aL n8)) (aT (aK (aD n7)) (aT (aK (aD n6)) (aT (aK (aL n5)) (aT (aK (aL n4)) (aT (aK (aL n3)) (aT (aK (dX b2)) (aK (aL n1)))))))))))))) rfl,λy hy h=>(kK.fr _ (aB (aT (aq hy) (aT bY (ao oN))) rfl)).trans (zu y hy h)⟩))
end
section
variable{FL:Ev->Nat->List AV->ES->R Out}{m d n:Nat}{U σ':ES}{N0 N1 ac:Nat}{c:Int}
noncomputable def SO(N0:Nat)(U:ES)(num:Int)(its ys:List AV)(k:Nat):Prop:=∀h st,(∀s∈st,num<=s)->dN N0 U (-1) h st its ys k
theorem SO.keep{num:Int}{its ys:List AV}{k:Nat}(h:SO N0 U num its ys k)(kp:Kp N0 U σ')(le:N0<=N1)(f:∀t num items,TH N0 U t num items->TH N1 σ' t num items):SO N1 σ' num its ys k:=λh' st hs=>(h h' st hs).imp f
theorem TH.keep{t:Nat}{num:Int}{items:List AV}(h:TH N0 U t num items)(k:Kp N0 U σ')(le:N0<=N1):TH N1 σ' t num items:=by refine yE h.ex λdd own fd l a b c d e=>?_;exact⟨dd,own,fd,l,⟨k _ _ c a.x id,k _ _ d a.d (λz=>by cases z)⟩,k _ _ e b id,by exact aA (aT (aq c) (aM le)) rfl,by exact aA (aT (aq d) (aM le)) rfl,by exact aA (aT (aq e) (aM le)) rfl⟩
theorem SO.left{num num':Int}{x k:Nat}{its ys:List AV}{a:AV}(hT:TH N0 U x num its)(h:SO N0 U num its ys k)(hl:its.length<=1000000)(hn:num<num')(ha:nv a):SO N0 U num' [.ref x,a,.ref x] (ys++[a]++ys) (2*k+5):=λh' st hs=>by
 have n1:num ∉ st:=λq=>by have:=hs _ q;exact Int.not_lt.mpr this hn
 have O:=h (h'+1) (num::st) (λs q=>by
  rcases List.mem_cons.mp q with q|q
  ·exact Q4 q
  ·have:=hs _ q;exact ye (Bl hn this))
 have o1:=dN.oU hT (.inl (by decide)) n1 hl O (dN.nil (h:=h') (st:=st));have o2:=dN.plain ha o1;have o3:=dN.oU hT (.inl (by decide)) n1 hl O o2;rw[lJ]at o3;rw[show 2*k+5=k+(k+0+2+1)+2 from by exact agC,tF];exact o3
theorem SO.right{num num':Int}{x k:Nat}{its ys:List AV}{a:AV}(hT:TH N0 U x num its)(h:SO N0 U num its ys k)(hl:its.length<=1000000)(hn:num<num')(ha:nv a):SO N0 U num' [a,.ref x,.ref x] ([a]++ys++ys) (2*k+5):=λh' st hs=>by
 have n1:num ∉ st:=λq=>by have:=hs _ q;exact Int.not_lt.mpr this hn
 have O:=h (h'+1) (num::st) (λs q=>by
  rcases List.mem_cons.mp q with q|q
  ·exact Q4 q
  ·have:=hs _ q;exact ye (Bl hn this))
 have o1:=dN.oU hT (.inl (by decide)) n1 hl O (dN.nil (h:=h') (st:=st));have o3:=dN.oU hT (.inl (by decide)) n1 hl O o1;rw[lJ]at o3;have o2:=dN.plain ha o3;rw[show 2*k+5=k+(k+0+2)+2+1 from by exact aeZ,tF];exact o2
theorem uQ{x y:Nat}{xs ys:List AV}(hx:U.get x=aa (.list xs))(hy:U.get y=aa (.list ys))(hf:xs.length+ys.length<=1000000)(hr:U.next<room):∃z σ',rD .Add (.ref x) (.ref y) U=aa (.ref z,σ')/\cV z (.list (xs++ys)) U σ':=by refine⟨_,_,?_,cV.of hr⟩;show(match U.get x with|some ox=>(match U.get y with|some oy=>DI ox oy U|none=>af)|none=>af)=_;rw[hx,hy];show(match fits (xs.length+ys.length)with|true=>_|false=>af)=_;rw[show fits (xs.length+ys.length)=ah from Nat.ble_eq.mpr hf]
end
section
variable{re:List Nat}{ct:Nat}{FL:Ev->Nat->List AV->ES->R Out}{m d n:Nat}{U σ':ES}{w wn md ac b l:Nat}
structure LS(w wn md ac b l q cc li:Nat)(U:ES)(kvs:List (Nat×AV))(x:Nat)(num:Int)(its:List AV)(ns:List Nat)(k j:Nat)(c:Int):Prop where
 gq:U.get q=aa (.ns kvs)
 A8:bN kvs aJ=aa (.ref w)
 AY:bN kvs bf=aa (.ref li)
 w7:bN kvs cY=aa (.ref x)
 uO:bN kvs bR=af
 gc:U.get cc=aa (.cell (aa (.ref b)))
 gi:U.get li=aa (.list (cK ns))
 T:TO U.next U x num ac its
 S:SO U.next U num its (cK ns) k
 F:∀y∈its,oz U.next U y
 le:num<=c
 W:di U w wn md ac c
 B:dY U b l j
 DS:q≠wn
 lt:q<U.next/\cc<U.next/\li<U.next
 sz:its.length<=3/\ns.length<=k
theorem oz.QF{N0 N1:Nat}{a:AV}(h:oz N0 U a)(k:Kp N0 U σ')(le:N0<=N1):oz N1 σ' a:=by
 rcases h with h|⟨t,num,items,h1,h2⟩
 ·exact .inl h
 ·exact .inr ⟨t,num,items,h1,h2.keep k le⟩
theorem LS.move{q cc li x k j j':Nat}{kvs kvs':List (Nat×AV)}{num c:Int}{its:List AV}{ns:List Nat}(h:LS w wn md ac b l q cc li U kvs x num its ns k j c)(e:σ'.next=U.next)(kp:Kp U.next U σ')(gq:σ'.get q=aa (.ns kvs'))
  (hk:∀z,aH iz z=ak->bN kvs' z=bN kvs z) (gc:σ'.get cc=U.get cc) (W:di σ' w wn md ac c) (B:dY σ' b l j'):LS w wn md ac b l q cc li σ' kvs' x num its ns k j' c:=
 ⟨gq,(hk _ rfl).trans h.A8,(hk _ rfl).trans h.AY,(hk _ rfl).trans h.w7,(hk _ rfl).trans h.uO,gc.trans h.gc,kp _ _ h.lt.2.2 h.gi id,h.T.keep kp (aQ e.symm),h.S.keep kp (aQ e.symm) (λ_ _ _ z=>z.keep kp (aQ e.symm)),λy hy=>(h.F y hy).QF kp (aQ e.symm),h.le,W,B,h.DS,by rw[e];exact h.lt,h.sz⟩
noncomputable def DJ:List CS:=match zd.body with
 | [_,_,.eF _ _ b,_,_,_]=>b
 |_=>[]
noncomputable def ae1:List CS:=match DJ with
 | [.iff _ a _]=>a
 |_=>[]
noncomputable def aeV:List CS:=match DJ with
 | [.iff _ _ a]=>a
 |_=>[]
theorem YE{q cc i j k li x:Nat}{σ3:ES}{kvs:List (Nat×AV)}{num c:Int}{its:List AV}{ns:List Nat}(H3:LS w wn md ac b l q cc li σ3 kvs x num its ns k j c)(sH:bN kvs iz=aa (.int (.lit (.ofNat i))))(sO:k<=500)(hr:σ3.next+1100<room):
  RW (cH (ev (C0 re ct) FL (m+59)) (d+6) (.s ⟨q,q,[(bM,cc)],929⟩ ae1) σ3) λf cz=>f= .next/\∃kvs' x' its' ns' z8,LS w wn md ac b l q cc z8 cz kvs' x' (c+1) its' ns' (2*k+5) j (c+1)/\its'.filter ua≠[]/\σ3.next<=cz.next/\cz.next<=σ3.next+30/\∀y,y<σ3.next->y≠q->y≠wn->cz.get y=σ3.get y:=by
   have q3:=H3.gq;have Aa:=H3.A8;have zM:=H3.AY;have zR:=H3.w7;have Ax:=H3.gi;have W3:=H3.W;have B3:=H3.B;refine jB W3.ex λSd mk3 rK=>?_;have h1:=rK.a1;have h2:=rK.a2;have h3:=rK.a3;have h4:=rK.a4;have h6:=rK.a6;have h7:=rK.a7;have h8:=rK.a8;have h9:=rK.a9;have dO:=rK.kI;have AB:li≠wn:=bx Ax h2 nofun
   have rN:=H3.sz;have fy:=H3.lt;have nq:=H3.DS;have yq:cc≠q:=bx H3.gc q3 nofun
   have yb:b≠q:=bx B3.gb q3 nofun
   have yl:l≠q:=bx B3.gl q3 nofun
   have wq:w≠q:=bx h1 q3 nofun
   have mq:md≠q:=bx dO q3 nofun
   refine bW (Cu (zC (aW (kR (aP q3 Aa (ug h1 (ou (sym:=(gv re ct))) BN h2 h8 CU (aW (iC (aW (aP q3 zR (aW (aP q3 sH (aW (aP q3 zR (bG ⟨rfl,by exact aA (bD hr) rfl,λx4 bA u4=>?_⟩)))))))))))))));have h4:=u4.nm;have n4:=u4.nx;refine bG ((BV (n:=m+34) (d:=d+2) (W3.new u4) u4.self (aA (aT (aD h4) (au n4)) rfl) rfl (cX (aT (aL n4) (bD hr)) rfl)).mono λv' bT z=>?_);obtain⟨x5,AS,JQ,l5,dQ,t5,y5,W5,z1,z2,z3,z4,z5,z6,g5⟩:=z;subst dQ;have bg:=aT (au n4) (aT (aM z1) (aq z4));have a5:=g5.le;have eW:=aT (aq fy.1) (aT (au n4) (aM a5));have b5:=g5.ge;have fF:=aT (dX b5) (aT (aL n4) (bD hr));have iM:∀y,y<σ3.next->y≠wn->bT.get y=σ3.get y:=λy hy h=>by rw[g5.fr y (aA (aT (aq hy) (au n4)) rfl) h,u4.fr y (aB (aT (aq hy) (ao h4)) rfl)]
   have q5:=(iM q (aA (aq fy.1) rfl) nq).trans q3;have AX:=(iM li (aA (aq fy.2.2) rfl) AB).trans Ax;refine aW (jt (jt (aP q5 zM (iC (aW (aP q5 sH (bG ⟨rfl,by exact aA fF rfl,λx6 fz u6=>?_⟩)))))));have h6:=u6.nm;have n6:=u6.nx;refine dB (uQ (u6.get (aB (aT (aq fy.2.2) (aT (au n4) (aT (aM a5) (ao h6)))) rfl) AX) u6.self (by rw[kO];show ns.length+1<=1000000;exact qp (aT (aM rN.2) (cC sO)) rfl) (aA (aT (aL n6) fF) rfl)) λz7 dP e7 u7=>?_;have h7:=u7.nm;have n7:=u7.nx;have q7:=u7.get (aB (aT eW (aT (au n6) (ao h7))) rfl) (u6.get (aB (aT eW (ao h6)) rfl) q5);refine dB (uQ u7.self (u7.get (aB (aT (aq fy.2.2) (aT (au n4) (aT (aM a5) (aT (au n6) (ao h7))))) rfl) (u6.get (aB (aT (aq fy.2.2) (aT (au n4) (aT (aM a5) (ao h6)))) rfl) AX)) (by rw[fX,kO];show ns.length+1+ns.length<=1000000;exact agV sO rN) (aA (aT (aL n7) (aT (aL n6) fF)) rfl)) λz8 dR e8 u8=>?_;have oO:=u8.nm;have n8:=u8.nx;refine⟨_,dP,e7,aP q7 zM ⟨_,dR,e8,?_⟩⟩;have g8:dR.get z8=aa (.list (cK (ns++[i]++ns))):=by rw[u8.self];unfold cK;rw[qJ,qJ];rfl
   refine bG ⟨rfl,by exact aA (aT (aL n8) (aT (aL n7) (aT (aL n6) fF))) rfl,λtp i0 u9=>?_⟩;have h9:=u9.nm;have n9:=u9.nx;have q9:=u9.get (aB (aT eW (aT (au n6) (aT (au n7) (aT (au n8) (ao h9))))) rfl) (u8.get (aB (aT eW (aT (au n6) (aT (au n7) (ao oO)))) rfl) q7);refine⟨[.ref x5,.ref z8],_,yS u9.self,rfl,q9,λcz dM=>kE ?_⟩;have kJ:=dM.nx;have bY:=aT (au n6) (aT (au n7) (aT (au n8) (aT (au n9) (ao kJ))));have mT:cz.get q=aa (.ns (putN (putN kvs bf (.ref z8)) cY (.ref x5))):=dM.self;have fr:∀y,y<bT.next->y≠q->cz.get y=bT.get y:=λy hy h=>by rw[dM.fr y h,u9.fr y (aB (aT (aq hy) (aT (au n6) (aT (au n7) (aT (au n8) (ao h9))))) rfl),u8.fr y (aB (aT (aq hy) (aT (au n6) (aT (au n7) (ao oO)))) rfl),u7.fr y (aB (aT (aq hy) (aT (au n6) (ao h7))) rfl),u6.fr y (aB (aT (aq hy) (ao h6)) rfl)]
   have kp:Kp σ3.next σ3 cz:=(u4.kp (cN _)).trans ((g5.kp (aR (au n4) rfl) (W3.new u4).nt).trans ((u6.kp (aR bg rfl)).trans ((u7.kp (aR (aT bg (au n6)) rfl)).trans ((u8.kp (aR (aT bg (aT (au n6) (au n7))) rfl)).trans ((u9.kp (aR (aT bg (aT (au n6) (aT (au n7) (au n8)))) rfl)).trans (dM.kp q9 H3.uO))))))
   have jh:σ3.next<=cz.next:=by exact aR (aT bg bY) rfl
   have T3:=H3.T.th.keep kp jh;have S3:=H3.S.keep kp jh (λ_ _ _ z=>z.keep kp jh);have lits:(cK ns).length=ns.length:=kO ns;have k1:bN (putN (putN kvs bf (.ref z8)) cY (.ref x5)) aJ=aa (.ref w):=(dJ (by decide) _).trans ((dJ (by decide) _).trans Aa);have k2:bN (putN (putN kvs bf (.ref z8)) cY (.ref x5)) bf=aa (.ref z8):=(dJ (by decide) _).trans (gF _ _ _);have k3:bN (putN (putN kvs bf (.ref z8)) cY (.ref x5)) cY=aa (.ref x5):=gF _ _ _;have k4:bN (putN (putN kvs bf (.ref z8)) cY (.ref x5)) bR=af:=(dJ (by decide) _).trans ((dJ (by decide) _).trans H3.uO);have kS:SO cz.next cz (c+1) ([.ref x,.int (.lit (.ofNat i)),.ref x]) (cK ((ns++[i]++ns))) (2*k+5):=by
    have z:=SO.left T3 S3 (Rr rN) (show num<c+1 by have:=H3.le;exact Int.le_iff_lt_add_one.mp this) (show nv (.int (.lit (.ofNat i)))from trivial);have e:cK ((ns++[i]++ns))=(cK ns++[.int (.lit (.ofNat i))]++cK ns):=by unfold cK;rw[qJ,qJ];rfl
    rw[e];exact z
   have kF:∀y∈([.ref x,.int (.lit (.ofNat i)),.ref x]:List AV),oz cz.next cz y:=λy hy=>by simp only[iy,gQ,or_false]at hy;rcases hy with rfl|rfl|rfl<;>first|exact .inl trivial|exact .inr ⟨x,_,_,rfl,T3⟩
   have kW:=W5.keep (σ':=cz) (aR bY rfl) (fr w W5.lt.1 wq) (fr wn W5.lt.2.1 nq.symm) (fr md W5.lt.2.2 mq);have kB:dY cz b l j:=H3.B.keep (jh) (by rw[fr b (by have:=B3.lt;exact aA (aT (aq this.1) bg) rfl) yb,iM b B3.lt.1 (bx B3.gb h2 nofun)]) (by rw[fr l (by have:=B3.lt;exact aA (aT (aq this.2) bg) rfl) yl,iM l B3.lt.2 (bx B3.gl h2 nofun)]);have kT:TO cz.next cz x5 (c+1) ac ([.ref x,.int (.lit (.ofNat i)),.ref x]):=⟨AS,JQ,l5,⟨(fr x5 (z4) (bI (aT (aq fy.1) (aT (au n4) (aM z1))) rfl)).trans t5.x,(fr AS (z5) (bI (aT (aq fy.1) (aT (au n4) (aM z2))) rfl)).trans t5.d⟩,(fr l5 (z6) (bI (aT (aq fy.1) (aT (au n4) (aM z3))) rfl)).trans y5,by exact aA (aT (aq z4) bY) rfl,by exact aA (aT (aq z5) bY) rfl,by exact aA (aT (aq z6) bY) rfl⟩
   have kc:cz.get cc=aa (.cell (aa (.ref b))):=by rw[fr cc (aA (aT (aq fy.2.1) bg) rfl) yq,iM cc (aA (aq fy.2.1) rfl) (bx H3.gc h2 nofun)];exact H3.gc
   have ki:cz.get z8=aa (.list (cK ((ns++[i]++ns)))):=by rw[dM.fr z8 (by show z8≠q;exact bI (aT (aq fy.1) (aT bg (aT (au n6) (aT (au n7) (ao oO))))) rfl),u9.fr z8 (aB (aT (aD oO) (aT (au n8) (ao h9))) rfl)];exact g8
   have Jr:([.ref x,.int (.lit (.ofNat i)),.ref x]:List AV).length<=3/\((ns++[i]++ns)).length<=2*k+5:=⟨cN _,by simp only[fX,jC];exact ajD rN⟩;have AZ:LS w wn md ac b l q cc z8 cz (putN (putN kvs bf (.ref z8)) cY (.ref x5)) x5 (c+1) ([.ref x,.int (.lit (.ofNat i)),.ref x]) ((ns++[i]++ns)) (2*k+5) j (c+1):=⟨mT,k1,k2,k3,k4,kc,ki,kT,kS,kF,yj _,kW,kB,nq,by exact⟨aA (aT (aq fy.1) (aM jh)) rfl,aA (aT (aq fy.2.1) (aM jh)) rfl,aA (aT (aD oO) (aT (au n8) (aT (au n9) (ao kJ)))) rfl⟩,Jr⟩;refine⟨rfl,_,x5,_,_,z8,AZ,(λz=>by contradiction),by exact jh,by exact jn (aT (aD kJ) (aT (aL n9) (aT (aL n8) (aT (aL n7) (aT (aL n6) (aT (dX b5) (aL n4))))))) rfl,λy hy h1 h3=>?_⟩;rw[fr y (aA (aT (aq hy) (aT (au n4) (aT (aM z3) (aq z6)))) rfl) h1,iM y (hy) h3]
theorem XD{q cc i j k li x:Nat}{σ3:ES}{kvs:List (Nat×AV)}{num c:Int}{its:List AV}{ns:List Nat}(H3:LS w wn md ac b l q cc li σ3 kvs x num its ns k j c)(sH:bN kvs iz=aa (.int (.lit (.ofNat i))))(sO:k<=500)(hr:σ3.next+1100<room):
  RW (cH (ev (C0 re ct) FL (m+59)) (d+6) (.s ⟨q,q,[(bM,cc)],929⟩ aeV) σ3) λf cz=>f= .next/\∃kvs' x' its' ns' z8,LS w wn md ac b l q cc z8 cz kvs' x' (c+1) its' ns' (2*k+5) j (c+1)/\its'.filter ua≠[]/\σ3.next<=cz.next/\cz.next<=σ3.next+30/\∀y,y<σ3.next->y≠q->y≠wn->cz.get y=σ3.get y:=by
   have q3:=H3.gq;have Aa:=H3.A8;have zM:=H3.AY;have zR:=H3.w7;have Ax:=H3.gi;have W3:=H3.W;have B3:=H3.B;refine jB W3.ex λSd mk3 rA=>?_;have h1:=rA.a1;have h2:=rA.a2;have h3:=rA.a3;have h4:=rA.a4;have h6:=rA.a6;have h7:=rA.a7;have h8:=rA.a8;have h9:=rA.a9;have dO:=rA.kI;have AB:li≠wn:=bx Ax h2 nofun
   have rN:=H3.sz;have fy:=H3.lt;have nq:=H3.DS;have yq:cc≠q:=bx H3.gc q3 nofun
   have yb:b≠q:=bx B3.gb q3 nofun
   have yl:l≠q:=bx B3.gl q3 nofun
   have wq:w≠q:=bx h1 q3 nofun
   have mq:md≠q:=bx dO q3 nofun
   refine bW (Cu (zC (aW (kR (aP q3 Aa (ug h1 (ou (sym:=(gv re ct))) BN h2 h8 CU (aW (iC (aW (aP q3 sH (aW (aP q3 zR (aW (aP q3 zR (bG ⟨rfl,by exact aA (bD hr) rfl,λx4 bA u4=>?_⟩)))))))))))))));have h4:=u4.nm;have n4:=u4.nx;refine bG ((BV (n:=m+34) (d:=d+2) (W3.new u4) u4.self (aA (aT (aD h4) (au n4)) rfl) rfl (cX (aT (aL n4) (bD hr)) rfl)).mono λv' bT z=>?_);obtain⟨x5,AS,JQ,l5,ig,t5,y5,W5,z1,z2,z3,z4,z5,z6,g5⟩:=z;subst ig;have gY:=aT (au n4) (aT (aM z1) (aq z4));have a5:=g5.le;have jR:=aT (aq fy.1) (aT (au n4) (aM a5));have b5:=g5.ge;have nF:=aT (dX b5) (aT (aL n4) (bD hr));have iM:∀y,y<σ3.next->y≠wn->bT.get y=σ3.get y:=λy hy h=>by rw[g5.fr y (aA (aT (aq hy) (au n4)) rfl) h,u4.fr y (aB (aT (aq hy) (ao h4)) rfl)]
   have q5:=(iM q (aA (aq fy.1) rfl) nq).trans q3;have AX:=(iM li (aA (aq fy.2.2) rfl) AB).trans Ax;refine aW (jt (jt (iC (aW (aP q5 sH (bG ⟨rfl,by exact aA nF rfl,λx6 fz u6=>?_⟩))))));have h6:=u6.nm;have n6:=u6.nx;refine dB (uQ u6.self (u6.get (aB (aT (aq fy.2.2) (aT (au n4) (aT (aM a5) (ao h6)))) rfl) AX) (by rw[kO];show 1+ns.length<=1000000;exact ae8 sO rN) (aA (aT (aL n6) nF) rfl)) λz7 dP e7 u7=>?_;have h7:=u7.nm;have n7:=u7.nx;have q7:=u7.get (aB (aT jR (aT (au n6) (ao h7))) rfl) (u6.get (aB (aT jR (ao h6)) rfl) q5);refine dB (uQ u7.self (u7.get (aB (aT (aq fy.2.2) (aT (au n4) (aT (aM a5) (aT (au n6) (ao h7))))) rfl) (u6.get (aB (aT (aq fy.2.2) (aT (au n4) (aT (aM a5) (ao h6)))) rfl) AX)) (by rw[fX,kO];show 1+ns.length+ns.length<=1000000;exact aeW sO rN) (aA (aT (aL n7) (aT (aL n6) nF)) rfl)) λz8 dR e8 u8=>?_;have oO:=u8.nm;have n8:=u8.nx;refine aP (show fz.get q=_ from u6.get (aB (aT jR (ao h6)) rfl) q5) zM ⟨_,dP,e7,aP q7 zM ⟨_,dR,e8,?_⟩⟩;have g8:dR.get z8=aa (.list (cK ([i]++ns++ns))):=by rw[u8.self];unfold cK;rw[qJ,qJ];rfl
   refine bG ⟨rfl,by exact aA (aT (aL n8) (aT (aL n7) (aT (aL n6) nF))) rfl,λtp i0 u9=>?_⟩;have h9:=u9.nm;have n9:=u9.nx;have q9:=u9.get (aB (aT jR (aT (au n6) (aT (au n7) (aT (au n8) (ao h9))))) rfl) (u8.get (aB (aT jR (aT (au n6) (aT (au n7) (ao oO)))) rfl) q7);refine⟨[.ref x5,.ref z8],_,yS u9.self,rfl,q9,λcz dM=>kE ?_⟩;have kJ:=dM.nx;have iG:=aT (au n6) (aT (au n7) (aT (au n8) (aT (au n9) (ao kJ))));have mT:cz.get q=aa (.ns (putN (putN kvs bf (.ref z8)) cY (.ref x5))):=dM.self;have fr:∀y,y<bT.next->y≠q->cz.get y=bT.get y:=λy hy h=>by rw[dM.fr y h,u9.fr y (aB (aT (aq hy) (aT (au n6) (aT (au n7) (aT (au n8) (ao h9))))) rfl),u8.fr y (aB (aT (aq hy) (aT (au n6) (aT (au n7) (ao oO)))) rfl),u7.fr y (aB (aT (aq hy) (aT (au n6) (ao h7))) rfl),u6.fr y (aB (aT (aq hy) (ao h6)) rfl)]
   have kp:Kp σ3.next σ3 cz:=(u4.kp (cN _)).trans ((g5.kp (aR (au n4) rfl) (W3.new u4).nt).trans ((u6.kp (aR gY rfl)).trans ((u7.kp (aR (aT gY (au n6)) rfl)).trans ((u8.kp (aR (aT gY (aT (au n6) (au n7))) rfl)).trans ((u9.kp (aR (aT gY (aT (au n6) (aT (au n7) (au n8)))) rfl)).trans (dM.kp q9 H3.uO))))))
   have jh:σ3.next<=cz.next:=by exact aR (aT gY iG) rfl
   have T3:=H3.T.th.keep kp jh;have S3:=H3.S.keep kp jh (λ_ _ _ z=>z.keep kp jh);have lits:(cK ns).length=ns.length:=kO ns;have k1:bN (putN (putN kvs bf (.ref z8)) cY (.ref x5)) aJ=aa (.ref w):=(dJ (by decide) _).trans ((dJ (by decide) _).trans Aa);have k2:bN (putN (putN kvs bf (.ref z8)) cY (.ref x5)) bf=aa (.ref z8):=(dJ (by decide) _).trans (gF _ _ _);have k3:bN (putN (putN kvs bf (.ref z8)) cY (.ref x5)) cY=aa (.ref x5):=gF _ _ _;have k4:bN (putN (putN kvs bf (.ref z8)) cY (.ref x5)) bR=af:=(dJ (by decide) _).trans ((dJ (by decide) _).trans H3.uO);have kS:SO cz.next cz (c+1) ([.int (.lit (.ofNat i)),.ref x,.ref x]) (cK (([i]++ns++ns))) (2*k+5):=by
    have z:=SO.right T3 S3 (Rr rN) (show num<c+1 by have:=H3.le;exact Int.le_iff_lt_add_one.mp this) (show nv (.int (.lit (.ofNat i)))from trivial);have e:cK (([i]++ns++ns))=([.int (.lit (.ofNat i))]++cK ns++cK ns):=by unfold cK;rw[qJ,qJ];rfl
    rw[e];exact z
   have kF:∀y∈([.int (.lit (.ofNat i)),.ref x,.ref x]:List AV),oz cz.next cz y:=λy hy=>by simp only[iy,gQ,or_false]at hy;rcases hy with rfl|rfl|rfl<;>first|exact .inl trivial|exact .inr ⟨x,_,_,rfl,T3⟩
   have kW:=W5.keep (σ':=cz) (aR iG rfl) (fr w W5.lt.1 wq) (fr wn W5.lt.2.1 nq.symm) (fr md W5.lt.2.2 mq);have kB:dY cz b l j:=H3.B.keep (jh) (by rw[fr b (by have:=B3.lt;exact aA (aT (aq this.1) gY) rfl) yb,iM b B3.lt.1 (bx B3.gb h2 nofun)]) (by rw[fr l (by have:=B3.lt;exact aA (aT (aq this.2) gY) rfl) yl,iM l B3.lt.2 (bx B3.gl h2 nofun)]);have kT:TO cz.next cz x5 (c+1) ac ([.int (.lit (.ofNat i)),.ref x,.ref x]):=⟨AS,JQ,l5,⟨(fr x5 (z4) (bI (aT (aq fy.1) (aT (au n4) (aM z1))) rfl)).trans t5.x,(fr AS (z5) (bI (aT (aq fy.1) (aT (au n4) (aM z2))) rfl)).trans t5.d⟩,(fr l5 (z6) (bI (aT (aq fy.1) (aT (au n4) (aM z3))) rfl)).trans y5,by exact aA (aT (aq z4) iG) rfl,by exact aA (aT (aq z5) iG) rfl,by exact aA (aT (aq z6) iG) rfl⟩
   have kc:cz.get cc=aa (.cell (aa (.ref b))):=by rw[fr cc (aA (aT (aq fy.2.1) gY) rfl) yq,iM cc (aA (aq fy.2.1) rfl) (bx H3.gc h2 nofun)];exact H3.gc
   have ki:cz.get z8=aa (.list (cK (([i]++ns++ns)))):=by rw[dM.fr z8 (by show z8≠q;exact bI (aT (aq fy.1) (aT gY (aT (au n6) (aT (au n7) (ao oO))))) rfl),u9.fr z8 (aB (aT (aD oO) (aT (au n8) (ao h9))) rfl)];exact g8
   have Jr:([.int (.lit (.ofNat i)),.ref x,.ref x]:List AV).length<=3/\(([i]++ns++ns)).length<=2*k+5:=⟨cN _,by simp only[fX,jC];exact ajA rN⟩;have AZ:LS w wn md ac b l q cc z8 cz (putN (putN kvs bf (.ref z8)) cY (.ref x5)) x5 (c+1) ([.int (.lit (.ofNat i)),.ref x,.ref x]) (([i]++ns++ns)) (2*k+5) j (c+1):=⟨mT,k1,k2,k3,k4,kc,ki,kT,kS,kF,yj _,kW,kB,nq,by exact⟨aA (aT (aq fy.1) (aM jh)) rfl,aA (aT (aq fy.2.1) (aM jh)) rfl,aA (aT (aD oO) (aT (au n8) (aT (au n9) (ao kJ)))) rfl⟩,Jr⟩;refine⟨rfl,_,x5,_,_,z8,AZ,(λz=>by contradiction),by exact jh,by exact jn (aT (aD kJ) (aT (aL n9) (aT (aL n8) (aT (aL n7) (aT (aL n6) (aT (dX b5) (aL n4))))))) rfl,λy hy h1 h3=>?_⟩;rw[fr y (aA (aT (aq hy) (aT (au n4) (aT (aM z3) (aq z6)))) rfl) h1,iM y (hy) h3]
theorem Yk{q cc it stop:Nat}{P:Flow->ES->Prop}:∀(r:Nat) {i n j k:Nat} {U:ES} {kvs:List (Nat×AV)} {x li:Nat} {num c:Int} {its:List AV} {ns:List Nat},i+r=stop->n=m+60+r->LS w wn md ac b l q cc li U kvs x num its ns k j c->U.get it=aa (.gX (.ofNat i) (.ofNat stop))->it<U.next->it≠wn->
  (its.filter ua≠[]\/0<r)->(k+5)*2 ^ r<=1000->j+r<100000->U.next+40*r+1200<room->
  (∀σ' kvs' x' num' its' ns' JK k' j' c',LS w wn md ac b l q cc JK σ' kvs' x' num' its' ns' k' j' c'->its'.filter ua≠[]->k'+5<=1000->c<=c'->c'<=c+r->j<=j'->j'<=j+r->U.next<=σ'.next->σ'.next<=U.next+40*r->(∀y,y<U.next->y≠q->y≠it->y≠wn->y≠b->y≠l->σ'.get y=U.get y)->P .next σ')->
  RW (cH (ev (C0 re ct) FL n) (d+6) (.eF ⟨q,q,[(bM,cc)],929⟩ (.nm iz ak) it DJ) U) P:=by
 intro r;induction r with
 |zero=>
  intro i n j k U kvs x li num c its ns hi hn ala hit lit KD hne hk hj hr q0;have hn:n=(m+59)+1:=by exact agx hn
  subst hn;refine aV (CD (C:=(C0 re ct)) hit (by show¬(i:Int)<(stop:Int);exact λh=>iJ (Int.ofNat_lt.mp h) hi)) λσ1 e1 u1=>?_;have x1:q≠it:=bx ala.gq hit nofun
  have x2:cc≠it:=bx ala.gc hit nofun
  have x3:b≠it:=bx ala.B.gb hit nofun
  have x4:l≠it:=bx ala.B.gl hit nofun
  refine jB ala.W.ex λuH mk wK=>?_;have h1:=wK.a1;have h2:=wK.a2;have h3:=wK.a3;have h4:=wK.a4;have h5:=wK.a5;have dO:=wK.kI;have kp:=u1.kp (N0:=U.next) hit (trivial);have n1:=u1.nx;have H1:=ala.move (j':=j) n1 kp (u1.get x1 ala.gq) (λ_ _=>rfl) (u1.fr _ x2) (ala.W.upd u1 ⟨(bx h1 hit nofun).symm,(bx h2 hit nofun).symm,(bx dO hit nofun).symm⟩) (ala.B.keep (aR (ao n1) rfl) (u1.fr _ x3) (u1.fr _ x4));have hk':k+5<=1000:=by rw[Nat.pow_zero,Nat.mul_one]at hk;exact hk
  clear hk;refine Hp e1 (q0 σ1 kvs x num its ns li k j c H1 (hne.resolve_right (vE 0)) hk' (yj _) (afS) (cN _) (cN _) (aR (ao n1) rfl) (aR (aT (aD n1) aU) rfl) λy hy _ h _ _ _=>u1.fr y h)
 |succ r ih=>
  intro i n j k U kvs x li num c its ns hi hn ala hit lit KD hne hk hj hr q0;have hn:n=(m+r)+61:=by exact ajT hn
  subst hn;have hk2:(2*k+5+5)*2 ^ r<=1000:=by rw[LZ]at hk;rw[show 2*k+5+5=(k+5)*2 from by exact ae0,Nat.mul_assoc,LV 2];exact hk
  have p1:1<=2 ^ r:=Nat.one_le_two_pow;have sO:2*k+5+5<=1000:=eo (Nat.le_mul_of_pos_right _ p1) hk2;clear hk p1;refine aV (Ck (C:=(C0 re ct)) hit (by show(i:Int)<(stop:Int);exact Dk hi)) λσ1 e1 u1=>?_;have x1:q≠it:=bx ala.gq hit nofun
  have x2:cc≠it:=bx ala.gc hit nofun
  have x3:b≠it:=bx ala.B.gb hit nofun
  have x4:l≠it:=bx ala.B.gl hit nofun
  refine jB ala.W.ex λuH mk Jk=>?_;have g1:=Jk.a1;have g2:=Jk.a2;have uU:=Jk.kI;have AG:=u1.kp (N0:=U.next) hit (trivial);have n1:=u1.nx;have q1:=u1.get x1 ala.gq;have yq:cc≠q:=bx ala.gc ala.gq nofun
  have yb:b≠q:=bx ala.B.gb ala.gq nofun
  have yl:l≠q:=bx ala.B.gl ala.gq nofun
  have wq:w≠q:=bx g1 ala.gq nofun
  have nq:=ala.DS;have mq:md≠q:=bx uU ala.gq nofun
  refine HQ e1 q1 λσ2 u2=>?_;have n2:=u2.nx;have vg:=AG.trans (u2.kp (N0:=U.next) q1 ala.uO);have q2:σ2.get q=_:=u2.self;have H2:=ala.move (j':=j) (show σ2.next=U.next by exact cO (aR (aT (aD n2) (aD n1)) rfl) (aR (aT (ao n1) (ao n2)) rfl)) vg q2 (λz hz=>dJ hz _) (by rw[u2.fr cc yq,u1.fr cc x2]) ((ala.W.upd u1 ⟨(bx g1 hit nofun).symm,(bx g2 hit nofun).symm,(bx uU hit nofun).symm⟩).upd u2 ⟨wq.symm,nq,mq.symm⟩) (ala.B.keep (aR (aT (ao n1) (ao n2)) rfl) (by rw[u2.fr b yb,u1.fr b x3]) (by rw[u2.fr l yl,u1.fr l x4]));have xr:σ2.get it=aa (.gX (.ofNat (i+1)) (.ofNat stop)):=(u2.fr it x1.symm).trans u1.self;refine bW (ku (eV (λ_ _ _ _ _=>rfl) (gf (dc (cI (aW (wB (c:=cc) rfl H2.gc (aW (cM (bG ⟨show iE (C0 re ct) (.adr 905) σ2=ah from uf,tY (w:=1) H2.B (WD hj) (cX (aT (aD n2) (aT aU (aT (aK (aD n1)) (bD hr)))) rfl) λv σ3 hv B3 n3 f3=>cM ⟨_,Dd (j:=0),_,rfl,?_⟩⟩))))))))));have Kg:=H2.lt;have cb:cc≠b:=bx H2.gc H2.B.gb nofun
  have cl:cc≠l:=bx H2.gc H2.B.gl nofun
  have H3:=H2.move (j':=j+1) n3 (Kp.sQ H2.B f3) ((f3 q yb.symm yl.symm).trans q2) (λ_ _=>rfl) (f3 cc cb cl) (H2.W.sQ H2.B (aR (ao n3) rfl) f3) B3;have J6:σ3.get it=_:=(f3 it x3.symm x4.symm).trans xr;have sH:bN (putN kvs iz (.int (.lit (.ofNat i)))) iz=aa (.int (.lit (.ofNat i))):=gF _ _ _;have fin:∀{f:Flow} {cz:ES},(f= .next/\∃kvs' x' its' ns' z8,LS w wn md ac b l q cc z8 cz kvs' x' (c+1) its' ns' (2*k+5) (j+1) (c+1)/\its'.filter ua≠[]/\σ3.next<=cz.next/\cz.next<=σ3.next+30/\∀y,y<σ3.next->y≠q->y≠wn->cz.get y=σ3.get y)->
    Cont (C0 re ct) FL (m+r+59) (d+6) ⟨q,q,[(bM,cc)],929⟩ [] (λf σ3=>match f with
     | .ret v=>P (.ret v) σ3
     | .brk=>P .next σ3
     |_=>RW (cH (ev (C0 re ct) FL (m+r+60)) (d+6) (.eF ⟨q,q,[(bM,cc)],929⟩ (.nm iz ak) it DJ) σ3) P) f cz:=by
   rintro f cz ⟨rfl,kvs',x',its',ns',z8,AZ,hne',jh,ge10,Uh⟩;refine kE ?_;refine ih (i:=i+1) (vh hi) (agi) AZ ((Uh it (aA (aT (aq lit) (aT (ao n1) (aT (ao n2) (ao n3)))) rfl) x1.symm KD).trans J6) (aA (aT (aq lit) (aT (ao n1) (aT (ao n2) (aT (ao n3) (aM jh))))) rfl) KD (.inl hne') hk2 (QC hj) (akr hr n1 n2 n3 ge10) λσ' kvs' x' num' its' ns' JK k' j' c' v1 v2 v3 v4 v5 v6 v7 v8 v9 v10=>?_;refine q0 σ' kvs' x' num' its' ns' JK k' j' c' v1 v2 v3 (ye v4) (ajZ v5) (Xi v6) (Jf v7) (aga n1 n2 n3 jh v8) (akg n1 n2 n3 ge10 v9) λy hy h1 h2 h3 h4 h5=>?_;rw[v10 y (aA (aT (aq hy) (aT (ao n1) (aT (ao n2) (aT (ao n3) (aM jh))))) rfl) h1 h2 h3 h4 h5,Uh y (aA (aT (aq hy) (aT (ao n1) (aT (ao n2) (ao n3)))) rfl) h1 h3,f3 y h4 h5,u2.fr y h1,u1.fr y h2]
  by_cases hv0:v=0
  ·rw[decide_eq_true hv0];exact(YE (m:=m+r) (d:=d) H3 sH (SX sO) (cX (aT (aD n3) (aT aU (aT (aK (aD n2)) (aT (aK (aD n1)) (bD hr))))) rfl)).mono λf cz z=>fin z
  ·rw[decide_eq_false hv0];exact(XD (m:=m+r) (d:=d) H3 sH (SX sO) (cX (aT (aD n3) (aT aU (aT (aK (aD n2)) (aT (aK (aD n1)) (bD hr))))) rfl)).mono λf cz z=>fin z
end
section
variable{C:EC}{FL:Ev->Nat->List AV->ES->R Out}{m d n:Nat}{cx:CX}{U σ':ES}
theorem aa7{c:CE}{P:AV->ES->Prop}(h:RW (bw (ev C FL n) d cx c U) λu σ1=>σ1.next<room/\∀x σ',cV x (.slice .none u) σ1 σ'->P (.ref x) σ'):RW (bw (ev C FL (n+1)) d cx (.slice af (aa c)) U) P:=
 fP (XM (h.mono λu σ1 ⟨h1,h2⟩=>h2 _ _ (cV.of h1)))
where
 XM {I:Type} {r:R I} {P:I->ES->Prop} (h:RW r P):RW r P:=h
noncomputable def fm(xs:List Int):List AV:=xs.map λi=>.int (.lit i)
theorem abd{q fr it acc lx code:Nat}{xs:List Int}{P:Unit->ES->Prop}:∀(r:Nat) {i n:Nat} {U:ES} {kvs:List (Nat×AV)} {ns:List Nat},i+r=xs.length->n=m+30+r->U.get q=aa (.ns kvs)->U.get it=aa (.jO lx i)->U.get lx=aa (.list (fm xs))->U.get acc=aa (.list (cK ns))->acc≠lx->ns.length+r<=100000->
  (∀σ' kvs',σ'.get q=aa (.ns kvs')->σ'.get acc=aa (.list (cK (ns++(xs.drop i).map Fx)))->σ'.next=U.next->(∀y,y≠it->y≠q->y≠acc->σ'.get y=U.get y)->P () σ')->
  RW (jz (ev C FL n (d+2) (.comp ⟨q,fr,[],code⟩ (.call (.az (.bi 0)) [.loc Fq]) Fq ak it af acc) U)) P:=by
 intro r;induction r with
 |zero=>
  intro i n U kvs ns hi hn hq hit hlx hacc qt hy k;have hn:n=(m+29)+1:=by exact JN hn
  subst hn;refine aV (N6 (C:=C) hit hlx (Ex (by unfold fm;rw[tN];exact aR (Al hi) rfl))) λσ1 e1 u1=>?_;have x1:q≠it:=bx hq hit nofun
  have x2:acc≠it:=bx hacc hit nofun
  refine HD e1 (k σ1 kvs (u1.get x1 hq) ?_ u1.nx λy h1 _ _=>u1.fr y h1);rw[Ew (aR (Al hi) rfl),List.map_nil,lJ];exact u1.get x2 hacc
 |succ r ih=>
  intro i n U kvs ns hi hn hq hit hlx hacc qt hy k;have hn:n=(m+r)+31:=by exact J3 hn
  subst hn;have hlt:i<xs.length:=by exact aA (aT aU (VM hi)) rfl
  have hx:(fm xs)[i]?=aa (.int (.lit xs[i])):=by unfold fm;rw[List.getElem?_map,qF hlt];rfl
  refine aV (MS (C:=C) hit hlx hx) λσ1 e1 u1=>?_;have x1:q≠it:=bx hq hit nofun
  have x2:acc≠it:=bx hacc hit nofun
  have x3:lx≠it:=bx hlx hit nofun
  have y1:acc≠q:=bx hacc hq nofun
  have y2:lx≠q:=bx hlx hq nofun
  have q1:=u1.get x1 hq;refine GZ e1 q1 λσ2 u2=>?_;have q2:σ2.get q=_:=u2.self;have n2:σ2.next=U.next:=by rw[u2.nx,u1.nx]
  have Dr:σ2.get acc=_:=u2.get y1 (u1.get x2 hacc);have tC:σ2.get lx=_:=u2.get y2 (u1.get x3 hlx);have xr:σ2.get it=_:=u2.get x1.symm u1.self;have hd:xs.drop i=xs[i]::xs.drop (i+1):=Et hlt;refine⟨nofun,λ_=>dc (cI (aW (aP q2 (gF _ _ _) (bG ⟨rfl,kZ (v:=.int (.lit (.ofNat (xs[i]).natAbs))) (σ1:=σ2) ?_ ⟨cK ns,Dr,Nat.ble_eq.mpr (by rw[kO];exact Vb hy),λσ3 u3=>?_⟩⟩))))⟩
  ·show aa (AV.int (.lit (fq ((xs[i]).natAbs:Nat))),σ2)=_;rw[iK];rfl
  have n3:=u3.nx;refine ih (i:=i+1) (ns:=ns++[(xs[i]).natAbs]) (vh hi) (Ec) (u3.get y1.symm q2) (u3.get x2.symm xr) (u3.get qt.symm tC) (by rw[<-NK];exact u3.self) qt (by rw[fX,jC];exact DP hy) λbT nG w1 w2 w3 w4=>?_;refine k bT nG w1 ?_ (cO (aR (aT (aD w3) (aT (aD n3) (aD n2))) rfl) (aR (aT (ao n2) (aT (ao n3) (ao w3))) rfl)) λy h1 h2 h3=>by rw[w4 y h1 h2 h3,u3.fr y h3,u2.fr y h2,u1.fr y h1]
  rw[w2,hd,iw,tF];rfl
theorem ad1{w2:Nat}{xs:List Int}(h1:C.fn 898=aa Hs)(h2:C.spec 898=af)(h3:C.lists w2=aa (fm xs))(hx:xs.length<=1000)(hn:200<=n)(hr:U.next+20<room):
  RW (dW (ev C FL n) (d+4) (.adr 898) [.adr w2] U) λv σ'=>∃b l,v= .ref b/\σ'.get b=aa (.list [.ref l,.int (.lit 0)])/\σ'.get l=aa (.list (cK ((xs.take 40).map Fx)))/\b≠l/\U.next<=σ'.next/\b<σ'.next/\l<σ'.next/\U.next<=b/\U.next<=l/\∀y,y<U.next->σ'.get y=U.get y:=by
 obtain⟨n,rfl⟩:∃k,n=k+200:=⟨n- 200,by exact yN (m6 hn)⟩;refine jw h1 h2 rfl rfl rfl rfl (aA (bD hr) rfl) λq σ1 u1=>?_;have hq:=u1.nm;have n1:=u1.nx;have q1:σ1.get q=_:=u1.self;refine bW (kU (iC (aW (G3 (cl:=[]) rfl (kD (aP q1 rfl (aa7 (cM ⟨by exact aA (aT (aL n1) (bD hr)) rfl,λx2 σ2 u2=>?_⟩))))))));have e2:=u2.nm;have n2:=u2.nx;have fF:=aT (aL n2) (aT (aL n1) (bD hr));have ahU:rX C (.adr w2) (.ref x2) σ2=aa (.ref (σ2.add (.list (fm (xs.take 40)))).1,(σ2.add (.list (fm (xs.take 40)))).2):=by
  show(C.lists w2).bind _=_;rw[h3];show(σ2.gS x2).bind _=_;rw[QB u2.self];show cond (fits (fm xs).length) (jH _ _) af=_;rw[show fits (fm xs).length=ah from Nat.ble_eq.mpr (by unfold fm;rw[tN];exact cL (cC hx) rfl)];show(DK (fm xs) .none (.int (.lit 40))).map (λys=>((AV.ref (σ2.add (.list ys)).1,(σ2.add (.list ys)).2):AV×ES))=_;have hc:DK (fm xs) .none (.int (.lit 40))=aa (fm (xs.take 40)):=by
   show aa (((fm xs).drop 0).take ((match cZ 40 (fm xs).length with|true=>40|false=>(fm xs).length)- 0))=_;rw[Bw,Nat.sub_zero,kY];have hl:(fm xs).length=xs.length:=tN ..
   by_cases h:40<(fm xs).length
   ·rw[decide_eq_true h];dsimp only;unfold fm;rw[List.map_take]
   ·rw[decide_eq_false h];dsimp only;rw[WE (cN _),WE (afc hl h)]
  rw[hc];rfl
 have u3:=cV.of (U:=σ2) (o:=.list (fm (xs.take 40))) (aA fF rfl);generalize (σ2.add (.list (fm (xs.take 40)))).1=x3 at*;generalize (σ2.add (.list (fm (xs.take 40)))).2=σ3 at*;have e3:=u3.nm;have n3:=u3.nx;refine dB (M0 (C:=C) u3.self (aA (aT (aL n3) fF) rfl)) λit bA e4 u4=>?_;have h4:=u4.nm;have n4:=u4.nx;have bg:=aT (au n1) (aT (au n2) (aT (au n3) (au n4)));refine⟨_,_,ahU,it,bA,e4,by exact cX (aT (aL n4) (aT (aL n3) fF)) rfl,λacc q' bT fz u5 u6=>?_⟩;have h5:=u5.nm;have n5:=u5.nx;have h6:=u6.nm;have n6:=u6.nx;have Ve:=u6.get (aB (aT (aD h4) (aT (au n4) (aT (au n5) (ao h6)))) rfl) (u5.get (aB (aT (aD h4) (aT (au n4) (ao h5))) rfl) u4.self);refine⟨by rw[Ve];rfl,?_⟩;have Sw:(xs.take 40).length<=40:=by rw[Bq];exact RP
 refine abd (m:=n+166-(xs.take 40).length) (xs:=xs.take 40) (xs.take 40).length (i:=0) (ns:=[]) (HK) (ajy Sw) u6.self Ve (u6.get (aB (aT (aD e3) (aT (au n3) (aT (au n4) (aT (au n5) (ao h6))))) rfl) (u5.get (aB (aT (aD e3) (aT (au n3) (aT (au n4) (ao h5)))) rfl) (u4.get (aB (aT (aD e3) (aT (au n3) (ao h4))) rfl) u3.self))) (u6.get (aB (aT (aD h5) (aT (au n5) (ao h6))) rfl) u5.self) (bI (aT (aD e3) (aT (au n3) (aT (au n4) (ao h5)))) rfl) (by show 0+_<=100000;exact aim Sw) λdP DN w1 w2' n7 f7=>?_;refine⟨DN,w1,λdR u8=>?_⟩;have n8:=u8.nx;have bY:=aT (au n5) (aT (au n6) (aT (ao n7) (ao n8)));have Iu:dR.get acc=aa (.list (cK ((xs.take 40).map Fx))):=u8.get (aB (aT (aD h5) (aT (au n5) (ao h6))) rfl) (by rw[w2',xW,Bw]);refine aW (cM (bG ⟨rfl,by exact aA (aT (aD n8) (aT (aD n7) (aT (aL n6) (aT (aL n5) (aT (aL n4) (aT (aL n3) fF)))))) rfl,λb i0 u9=>?_⟩));have h9:=u9.nm;have n9:=u9.nx;refine lQ (kP ⟨b,acc,rfl,u9.self,u9.get (aB (aT (aD h5) (aT bY (ao h9))) rfl) Iu,by exact bI (aT (aD h5) (aT bY (ao h9))) rfl,by exact aR (aT bg (aT bY (au n9))) rfl,by exact aA (aT (aD h9) (au n9)) rfl,by exact aA (aT (aD h5) (aT bY (au n9))) rfl,by exact aR (aT bg (aT bY (ao h9))) rfl,by exact aR (aT bg (ao h5)) rfl,λy hy=>?_⟩);have eW:=aT (aq hy) (aT bg (aT (au n5) (ao h6)));rw[u9.fr y (aB (aT (aq hy) (aT bg (aT bY (ao h9)))) rfl),u8.fr y (aB eW rfl),f7 y (aB (aT (aq hy) (aT (au n1) (aT (au n2) (aT (au n3) (ao h4))))) rfl) (aB eW rfl) (aB (aT (aq hy) (aT bg (ao h5))) rfl),u6.fr y (aB eW rfl),u5.fr y (aB (aT (aq hy) (aT bg (ao h5))) rfl),u4.fr y (aB (aT (aq hy) (aT (au n1) (aT (au n2) (aT (au n3) (ao h4))))) rfl),u3.fr y (aB (aT (aq hy) (aT (au n1) (aT (au n2) (ao e3)))) rfl),u2.fr y (aB (aT (aq hy) (aT (au n1) (ao e2))) rfl),u1.fr y (aB (aT (aq hy) (ao hq)) rfl)]
end
end Mine
end
section
namespace Mine
open PySem PySem.W PySem.Calls PyProof.Rows
noncomputable def ajb(num n8:Int)(k:Nat):Int:=match aH k 7 with
 |true=>num
 |false=>n8
noncomputable def dD(w:bX)(h0_:cy)(os:jL)(rest:List Nat)(cnt:Nat)(num n8:Int):WS where
 prog:=PySem.Challenge.rw_pq0494_01.row.prog
 w:=w
 h0_:=h0_
 K:=cJ w
 th:=ajb num n8
 os:=os
 fr:=[]
 tabs:=yQ.map (·.2)
 rest:=rest
 cnt:=cnt
 qual:=Hg (gJ w)
 lam:=λe sc c=>sd sc=ah/\∃f,cE fk f sc e=aa c
structure Base(w:bX)(h0_:cy):Prop where
 K:(gJ w).In h0_
 lim:h0_.NoLimit
 sys:∃o,h0_.get? sysModules=aa o
 glob:∃mg mb,h0_.Ns eY mg/\h0_.Ns eK mb/\(∀x,x≠jc "__name__" ->mb x=bootBuiltins x)/\
  ∃bm o,mg "__builtins__" =aa (.ref bm)/\bm≠eK/\h0_.get? bm=aa o/\o.cls= .type "module" /\o.dict=aa eK/\o.data= .plain
 code:∀q∈yQ,CodeHd h0_ q.1 q.2
theorem Cw{l:List Nat}{a:Nat}(h:l.any (aH a)=ah):a∈l:=by refine aV (List.any_eq_true.mp h) λx hx e=>?_;rw[cG e];exact hx
section
variable{w:bX}{h0_:cy}{os:jL}{rest:List Nat}{cnt:Nat}{num n8:Int}{sym:Nat->Nat->Option (List Nat)}
theorem acO(p:bX){c:Nat}(h:(br sym).fC c=ah):zW (cJ p) c=ah:=List.all_eq_true.mp (acG p) c (Cw h)
theorem Om(p:bX){c a:Nat}{r:Option Nat}(h:(br sym).fC c=ah)(e:(br sym).cls c a=aa r):DC (cJ p) c a r=ah:=by
 have e:(match clsTree.get c with|some l=>l.get a|none=>af)=aa r:=e;cases ht:clsTree.get c with
 |none=>rw[ht]at e;exact aN e
 |some t=>rw[ht]at e;have h2:=dz.r6 (aaz p) ht;rw[show UJ c=ah from h]at h2;exact dz.r6 h2 e
theorem PG(p:bX){a:Nat}{fi:FI}(e:(br sym).fn a=aa fi):keepIn (cJ p) (.ref a)=ah/\typeIn (cJ p) (.ref a)=aa (.type "function"):=by have h:=dz.r6 (acF p) (show jN.get a=aa fi from e);rw[bJ]at h;exact⟨h.1,eq_of_beq h.2⟩
theorem yI{K:Nat}(h:(br sym).isExc K=ah):K=570:=cG h
theorem clsTree_570:clsTree.get 570=aa yR:=by kernel_rfl
theorem Oo(p:bX){a:Nat}{r:Option Nat}(e:(br sym).cls 570 a=aa r):wG (cJ p) a r=ah:=by have e:(match clsTree.get 570 with|some l=>l.get a|none=>af)=aa r:=e;rw[clsTree_570]at e;exact dz.r6 (aaf p) e
theorem abD{K a f:Nat}(e:(br sym).rB K a=aa f):a=dZ/\((K=40/\f=37)\/(K=550/\f=547)):=by
 have e:(match aH a dZ&&(aH K 40||aH K 550)with
  |true=>(match clsTree.get K with
   |some l=>(match l.get a with
    |some (aa f)=>aa f
    |_=>af)
   |none=>af)
  |false=>af)=aa f:=e
 cases hb:aH a dZ&&(aH K 40||aH K 550)with
 |false=>rw[hb]at e;exact aN e
 |true=>
  rw[hb]at e;rw[bJ,Bool.or_eq_true]at hb;have ha:=cG hb.1;subst ha;refine⟨rfl,?_⟩;rcases hb.2 with hk|hk
  ·have hk:=cG hk;subst hk;rw[show clsTree.get 40=aa GP from by kernel_rfl]at e;dsimp only at e;rw[show GP.get dZ=aa (aa 37)from by kernel_rfl]at e
   (injection e with e;subst e);exact .inl ⟨rfl,rfl⟩
  ·have hk:=cG hk;subst hk;rw[show clsTree.get 550=aa GB from by kernel_rfl]at e;dsimp only at e;rw[show GB.get dZ=aa (aa 547)from by kernel_rfl]at e
   (injection e with e;subst e);exact .inr ⟨rfl,rfl⟩
theorem aaQ:nm dZ= "__init__" :=by kernel_rfl
set_option tactic.hygienic true in
theorem DO{spec:aG->Option Spec}{lists:aG->Option (List AV)}(hls:∀t xs,lists t=aa xs->∃items,h0_.IsList t items/\aO (VG (dD w h0_ os rest cnt num n8)) xs items.toList)(B:Base w h0_):
  o8 (dD w h0_ os rest cnt num n8) {br sym with spec:=spec,lists:=lists} fk:=by
 have X:Frag.In (cJ w) h0_:=aa0 B.K;have ob:=ZP w;rw[bJ,beq_iff_eq,beq_iff_eq]at ob;have ex:=adj w;unfold DL at ex;simp only[bJ,beq_iff_eq]at ex;obtain⟨⟨⟨⟨⟨⟨⟨⟨⟨e1,e2⟩,e3⟩,e4⟩,e5⟩,e6⟩,e7⟩,e8⟩,e9⟩,qz⟩:=ex;obtain⟨mg,mb,g1,g2,g3,bm,o,g4,g5,g6,g7,g8,g9⟩:=B.glob;have OW:∀{c:Nat},(br sym).fC c=ah->_:=λ{c} h=>by have:=acO (sym:=sym) w h;unfold zW at this;simp only[bJ,beq_iff_eq]at this;exact this
 refine{
  K:=X
  lim:=B.lim
  sys:=B.sys
  tups:=λt xs e=>Oa B.K (List.all_eq_true.mp (abP w) (t,xs) (yD e))
  oj:=λt kvs e=>aan B.K (List.all_eq_true.mp (aaH w) (t,kvs) (yD e)) (Zo (yD e))
  lists:=hls
  inst:=λc h=>t6.of (OW h).1.1.1.1.1.1.1.1.1
  Ir:=λc a h e=>by have:=Om (sym:=sym) w h e;unfold DC at this;dsimp only at this;rw[bJ,beq_iff_eq,beq_iff_eq]at this;exact this
  IM:=λc a f h e=>by have:=Om (sym:=sym) w h e;unfold DC at this;dsimp only at this;rw[bJ,beq_iff_eq,beq_iff_eq]at this;exact this
  own:=λc h=>⟨(OW h).1.1.1.1.1.1.1.1.2,(OW h).1.1.1.1.1.1.1.2,(OW h).1.1.1.1.1.1.2,ob.1,ob.2,(OW h).1.1.1.1.1.2⟩
  TX:=λa b v e=>by
   have e:(match mH yX a,I8 b with|some l,ah=>aa (l.any (aH b))|_,_=>af)=aa v:=e;split at e
   ·rename_i l hl hb
    (injection e with e;subst e)
    have:=List.all_eq_true.mp (List.all_eq_true.mp (abG w) (a,l) (yD hl)) b (Cw hb);exact eq_of_beq this
   ·exact aN e
  zQ:=λc h=>by have:=List.all_eq_true.mp (abN w) c (by have:=Cw (l:=[40,62,82,228,140,181]) h;exact this);simp only[bJ,beq_iff_eq]at this;exact⟨this.1.1.1,this.1.1.2,this.1.2,this.2⟩
  DE:=λc h=>⟨(OW h).1.1.2,(OW h).1.2,(OW h).2⟩
  mP:=λT hT ak7 hU=>by
   have h1:T∈Dj:=by rcases hT with rfl|rfl|rfl|rfl<;>decide
   have h2:ak7∈CY:=by rcases hU with rfl|rfl|rfl<;>decide
   exact eq_of_beq (List.all_eq_true.mp (List.all_eq_true.mp (ab1 w) T h1) ak7 h2)
  glob:=⟨mg,mb,g1,g2,λk a e=>Ξ X g1 g3 (dz.r6 (aby w) e)⟩
  may:=λa h=>by
   have h:(match jN.get a with|some _=>ah|none=>[40,62,82,228,140,181,889,570].any (aH a))=ah:=h;cases hf:jN.get a with
   |some fi=>exact(PG (sym:=sym) w (a:=a) hf).1
   |none=>
    rw[hf]at h
    by_cases Sk:a=570
    ·subst Sk;exact e8
    ·have:(br sym).fC a=ah:=by
      have hm:=Cw h;show [40,62,82,228,140,181,889].any (aH a)=ah;simp only[iy,gQ,or_false]at hm;rcases hm with rfl|rfl|rfl|rfl|rfl|rfl|rfl|rfl<;>first|rfl|exact absurd rfl Sk
     exact(OW this).1.1.1.2
  exc:=λK h=>by rw[yI (sym:=sym) h];exact⟨e1,e2,e3,e4,e5,e6,e7⟩
  Dv:=λK a h e=>by rw[yI (sym:=sym) h]at e ⊢;have:=Oo (sym:=sym) w (a:=a) (r:=af) e;unfold wG at this;dsimp only at this;rw[bJ,beq_iff_eq,beq_iff_eq]at this;exact this
  rB:=λK a f e=>by
   have VB:∀{c f:Nat},sG (cJ w) c f=ah->specialIn (cJ w) (.ref c) "__getattribute__" =aa (aa (.builtin "type.__getattribute__"))/\readsIn (cJ w) c (.type "type")=ah/\findCls (cJ w) (.ref c) (.type "type") (nm dZ)=aa (.val (.ref f)):=λ{c f} h=>by unfold sG at h;rw[bJ,bJ,beq_iff_eq]at h;refine⟨h.1.1,h.1.2,?_⟩;rw[aaQ];exact MD h.2
   obtain⟨rfl,hh⟩:=abD (sym:=sym) e;rcases hh with⟨rfl,rfl⟩|⟨rfl,rfl⟩
   ·exact VB (ag7 w)
   ·exact VB (adu w)
  QY:=by have h:=aaa w;exact MD h
  bmain:=⟨mg,bm,o,g1,g4,g5,λq=>?_,g6,g7,g8,g9⟩
  IF:=λe sc c f h1 h2=>⟨h1,f,h2⟩
  Ua:=λe sc c h=>h
  RU:=λK h=>by rw[yI (sym:=sym) h];exact e9
  wF:=λK' K b e=>by
   have e:(match aH K' 570&&aH K 570 with|true=>aa ah|false=>af)=aa b:=e;split at e
   ·rename_i hb
    rw[bJ]at hb
    (injection e with e;subst e)
    rw[cG hb.1,cG hb.2];exact qz
   ·exact aN e
  fn:=λa fi e _=>aeK (F:=gJ w) B.K rfl rfl rfl B.code (dz.r6 (aez w) e) (by have h1:=dz.get_map (f:=λa _=>compiled (gJ w) a) (show jN.get a=aa fi from e);have h2:=dz.get_map (f:=λ(_:Nat) (fi:FI)=>aa fi.body) (show jN.get a=aa fi from e);rw[ZO w,h2]at h1;exact(aX h1).symm)
  makes:=λK h=>(OW h).1.1.1.1.2
  J7:=λa fi e=>(PG (sym:=sym) w e).2
  II:=λK h=>by rw[yI (sym:=sym) h];obtain⟨a1,a2,a3,a4,a5,a6,a7,a8,a9,kI,D3,qw,Eb,a14,Av,hh⟩:=abV w;exact .mk _ _ _ _ _ _ _ _ _ _ _ _ _ _ _ (X _ _ hh)
  Ti:=λK f h e=>by rw[yI (sym:=sym) h]at e ⊢;have:=Oo (sym:=sym) w (a:=dZ) (r:=aa f) e;unfold wG at this;dsimp only at this;rw[show(!aH dZ dZ)=ak from rfl,Bool.false_or,beq_iff_eq]at this;exact this
  SW:=rfl}
 rw[q]at g6;obtain⟨o',es,ep,q1,q2,_⟩:=g1;rw[g6]at q1;obtain rfl:=aX q1;rw[g9]at q2
 contradiction
theorem Aw(B:Base w h0_):o8 (dD w h0_ os rest cnt num n8) (br sym) fk:=DO (spec:=(br sym).spec) (lists:=λ_=>af) nofun B
end
noncomputable def jl:List (Nat×AO)->Tr
 | []=>.nil
 |p::l=>Tr.put 40 (jl l) p.1 p.2
theorem r5:∀{l:List (Nat×AO)} {y:Nat} {o:AO},(jl l).get y=aa o->(y,o)∈l
 | [],y,o,h=>by exact aN h
 |p::l,y,o,h=>by
  have g:=Tr.r7 p.2 40 (jl l) p.1 y
  by_cases e:y=p.1
  ·subst e;rcases g.2 with q|q
   ·rw[show(jl (p::l)).get p.1=_ from q]at h;(injection h with h;subst h);exact .head _
   ·rw[show(jl (p::l)).get p.1=_ from q]at h;exact .tail _ (r5 h)
  ·rw[show(jl (p::l)).get y=_ from g.1 e]at h;exact .tail _ (r5 h)
noncomputable def gO:List (Nat×Nat)->Nat->Nat
 | [],y=>y
 |p::l,y=>match aH p.1 y with
  |true=>p.2
  |false=>gO l y
structure gx where
 o7:Int
 e8:Option Int
noncomputable def gx.n8(f:gx)(num n8:Int):Int:=match f.e8 with
 |some e=>num+e
 |none=>n8
noncomputable def IC(f:gx)(a b:AI):Bool:=match a,b with
 | .lit i,.lit j=>iP i j
 | .var k i,.var l j=>(match aH k 7 with
  |true=>(match aH l 7 with
   |true=>iP i (j+f.o7)
   |false=>(match f.e8 with
    |some e=>iP i (j+e)
    |none=>ak))
  |false=>(match f.e8,aH l 7 with
   |none,ak=>iP i j
   |_,_=>ak))
 |_,_=>ak
noncomputable def wD(f:gx)(π:List (Nat×Nat))(n2:Nat)(a b:AV):Bool:=match b with
 | .top=>ah
 | .none=>a.isNil
 | .bool p=>(se a).any λq=>p==q
 | .int j=>(mO a).any λi=>IC f i j
 | .str s=>(mQ a).any λt=>k9 t s
 | .ref y=>(fU a).any λx=>aH x (gO π y)&&cZ y n2
 | .adr k=>(lu a).any λl=>aH l k
 | .bi k=>(AU a).any λl=>aH l k
 | .ty k=>(vd a).any λl=>aH l k
noncomputable def oi{I H:Type}(f:I->H->Bool):List I->List H->Bool
 | [],[]=>ah
 |a::l,b::m=>match f a b with
  |true=>oi f l m
  |false=>ak
 |_,_=>ak
noncomputable def Sb(f:gx)(π:List (Nat×Nat))(n2:Nat)(a b:Nat×AV):Bool:=aH a.1 b.1&&wD f π n2 a.2 b.2
noncomputable def Ud(a b:AK):Bool:=match a,b with
 | .str s,.str t=>k9 s t
 |_,_=>ak
noncomputable def Si(f:gx)(π:List (Nat×Nat))(n2:Nat)(a b:AK×AV):Bool:=Ud a.1 b.1&&wD f π n2 a.2 b.2
noncomputable def HF(π:List (Nat×Nat))(n2:Nat)(a b:Nat×Nat×Nat):Bool:=aH a.1 b.1&&aH a.2.1 b.2.1&&aH a.2.2 (gO π b.2.2)&&cZ b.2.2 n2
noncomputable def SK(k:Nat)(i:Int)(xs:List AV):Bool:=(l1 xs).any λa=>(iH a).any λj=>aH k 1&&iP j i
noncomputable def ajB(f:gx)(π:List (Nat×Nat))(n2:Nat)(x y:Option AV):Bool:=x.any λx=>y.any λy=>wD f π n2 x y
noncomputable def Ai(f:gx)(π:List (Nat×Nat))(n2 jj:Nat)(a b:AO):Bool:=
 (uB b).elim ((D4 b).elim ((uC b).elim ((zk b).elim ((zY b).elim ((zp b).elim ((zF b).elim ((Af b).elim ((oCell b).any λy=>(oCell a).any λx=>ajB f π n2 x y)
  λq=>(uB a).any λxs=>SK q.1 q.2 xs)
  λj'=>(zF a).any λj=>aH j jj&&aH j' 0)
  λq=>(zp a).any λp=>aH p.2 jj&&aH q.2 0&&aH p.1 (gO π q.1)&&cZ q.1 n2)
  λys=>(zY a).any λxs=>oi (HF π n2) xs ys)
  λq=>(zk a).any λp=>aH p.1 q.1&&aH p.2 (gO π q.2)&&cZ q.2 n2)
  λys=>(uC a).any λxs=>oi (Si f π n2) xs ys)
  λys=>(D4 a).any λxs=>oi (Sb f π n2) xs ys)
  λys=>(uB a).any λxs=>oi (wD f π n2) xs ys
theorem gW{a b:Nat}(h:aH a b=ah):a=b:=cG h
theorem uu{a b:Nat}(h:cZ a b=ah):a<b:=by rw[kY]at h;exact of_decide_eq_true h
theorem G9:∀{s t:List Nat},k9 s t=ah->s=t
 | [],[],_=>rfl
 |a::l,b::m,h=>by
  have h:(match aH a b with|true=>k9 l m|false=>ak)=ah:=h;cases e:aH a b with
  |true=>rw[e]at h;rw[gW e,G9 h]
  |false=>rw[e]at h;exact cB h
 | [],_::_,h=>by exact cB h
 |_::_,[],h=>by exact cB h
theorem yz{I H:Type}{f:I->H->Bool}:∀{l:List I} {m:List H},oi f l m=ah->aO (λa b=>f a b=ah) l m
 | [],[],_=>.nil
 |a::l,b::m,h=>by
  have h:(match f a b with|true=>oi f l m|false=>ak)=ah:=h;cases e:f a b with
  |true=>rw[e]at h;exact .cons e (yz h)
  |false=>rw[e]at h;exact cB h
 | [],_::_,h=>by exact cB h
 |_::_,[],h=>by exact cB h
theorem aO.comp{I H γ:Type}{R:I->H->Prop}{S:I->γ->Prop}{T:H->γ->Prop}(k:∀a b c,R a b->S a c->T b c){l:List I}{m:List H}{n:List γ}(h1:aO R l m)(h2:aO S l n):aO T m n:=by
 induction h1 generalizing n with
 |nil=>cases h2;exact .nil
 |cons h _ ih=>cases h2 with|cons h' h2=>exact .cons (k _ _ _ h h') (ih h2)
section
variable{w:bX}{h0_:cy}{os:jL}{rest:List Nat}{cnt:Nat}{num n8:Int}{f:gx}{π:List (Nat×Nat)}{n n2 jj:Nat}{Y:Nat->aG}
theorem acr{a b:AI}(h:IC f a b=ah):a.at (dD w h0_ os rest cnt num n8)=b.at (dD w h0_ os (rest.drop jj) (cnt+jj) (num+f.o7) (f.n8 num n8)):=by
 cases a with
 |lit i=>cases b with
  |lit j=>have h:iP i j=ah:=h;rw[kq]at h;exact of_decide_eq_true h
  |var l j=>exact cB h
 |var k i=>cases b with
  |lit j=>exact cB h
  |var l j=>
   unfold IC at h;dsimp only at h;show(match aH k 7 with|true=>num|false=>n8)+i=(match aH l 7 with|true=>num+f.o7|false=>f.n8 num n8)+j;cases hk:aH k 7 with
   |true=>
    rw[hk]at h;dsimp only at h ⊢;cases hl:aH l 7 with
    |true=>rw[hl]at h;dsimp only at h ⊢;rw[kq]at h;rw[of_decide_eq_true h,yd j,ya]
    |false=>
     rw[hl]at h;dsimp only at h ⊢;unfold gx.n8;cases he:f.e8 with
     |none=>rw[he]at h;exact cB h
     |some e=>rw[he]at h;dsimp only at h ⊢;rw[kq]at h;rw[of_decide_eq_true h,yd j,ya]
   |false=>
    rw[hk]at h;dsimp only at h ⊢;unfold gx.n8;cases he:f.e8 with
    |some e=>rw[he]at h;exact cB h
    |none=>
     rw[he]at h;cases hl:aH l 7 with
     |true=>rw[hl]at h;exact cB h
     |false=>rw[hl]at h;dsimp only at h ⊢;rw[kq]at h;have:=of_decide_eq_true h;exact aeJ this
theorem Cy{a b:AV}{v:ay}(h:wD f π n2 a b=ah)(q:VR (dD w h0_ os rest cnt num n8) n Y a v):VR (dD w h0_ os (rest.drop jj) (cnt+jj) (num+f.o7) (f.n8 num n8)) n2 (λy=>Y (gO π y)) b v:=by
 cases b with
 |top=>exact trivial
 |none=>exact Ab h q rfl
 |bool p=>obtain⟨x,hx,h⟩:=er h;exact vBool hx q (by rw[eq_of_beq h];rfl)
 |int j=>obtain⟨x,hx,h⟩:=er h;exact vInt hx q λt=>⟨t,by rw[acr (w:=w) (h0_:=h0_) (os:=os) (rest:=rest) (cnt:=cnt) (n8:=n8) (num:=num) (jj:=jj) h]⟩
 |str l=>obtain⟨x,hx,h⟩:=er h;exact vStr hx q λt=>⟨t,by rw[G9 h]⟩
 |ref y=>obtain⟨x,hx,h⟩:=er h;rw[bJ]at h;exact oB hx q ⟨uu h.2,by rw[gW h.1]⟩
 |adr k=>obtain⟨x,hx,h⟩:=er h;exact ru hx q (by rw[gW h];rfl)
 |bi k=>obtain⟨x,hx,h⟩:=er h;exact J1 hx q (by rw[gW h];rfl)
 |ty k=>obtain⟨x,hx,h⟩:=er h;exact AA hx q (by rw[gW h];rfl)
section
variable{o:Obj}{xs ys:List AV}
theorem ZR(h:oi (wD f π n2) xs ys=ah)(q:OR (dD w h0_ os rest cnt num n8) n Y (.list xs) o):OR (dD w h0_ os (rest.drop jj) (cnt+jj) (num+f.o7) (f.n8 num n8)) n2 (λy=>Y (gO π y)) (.list ys) o:=
 dB q λvs m e q=>⟨vs,m,e,by refine aO.comp (λa b c z1 z2=>?_) (yz h) q;exact Cy z1 z2⟩
theorem acn{xs ys:List (Nat×AV)}(h:oi (Sb f π n2) xs ys=ah)(q:OR (dD w h0_ os rest cnt num n8) n Y (.ns xs) o):OR (dD w h0_ os (rest.drop jj) (cnt+jj) (num+f.o7) (f.n8 num n8)) n2 (λy=>Y (gO π y)) (.ns ys) o:=
 dB q λes m e q=>⟨es,m,e,aO.comp (λa b c z1 z2=>by have z1:(_&&_)=ah:=z1;rw[bJ]at z1;exact⟨by rw[<-gW z1.1];exact z2.1,Cy z1.2 z2.2⟩) (yz h) q⟩
theorem abl{a b:AK}{W W':WS}(h:Ud a b=ah):a.at W=b.at W':=by
 cases a with
 |int i=>exact cB h
 |str s=>cases b with
  |int i=>exact cB h
  |str t=>exact congrArg (λl=>Sum.inl (strOf l)) (G9 h)
theorem ZK{xs ys:List (AK×AV)}(h:oi (Si f π n2) xs ys=ah)(q:OR (dD w h0_ os rest cnt num n8) n Y (.dict xs) o):OR (dD w h0_ os (rest.drop jj) (cnt+jj) (num+f.o7) (f.n8 num n8)) n2 (λy=>Y (gO π y)) (.dict ys) o:=
 aV q λps e q=>⟨ps,e,aO.comp (λa b c z1 z2=>by have z1:(_&&_)=ah:=z1;rw[bJ]at z1;exact⟨z2.1.trans (abl z1.1),Cy z1.2 z2.2⟩) (yz h) q⟩
theorem aac{xs ys:List (Nat×Nat×Nat)}(A:aO (λa b=>HF π n2 a b=ah) xs ys):(xs.flatMap λp=>[rawInt p.1,rawInt p.2.1,eB (Y p.2.2)])=(ys.flatMap λp=>[rawInt p.1,rawInt p.2.1,eB (Y (gO π p.2.2))])/\∀p∈ys,p.2.2<n2:=by
 induction A with
 |nil=>exact⟨rfl,λp hp=>nomatch hp⟩
 |cons h _ ih=>
  have h:(_&&_&&_&&_)=ah:=h;rw[bJ,bJ,bJ]at h;refine⟨by rw[rP,rP,ih.1,gW h.1.1.1,gW h.1.1.2,gW h.1.2],λp hp=>?_⟩;rcases List.mem_cons.mp hp with rfl|hp
  ·exact uu h.2
  ·exact ih.2 p hp
theorem abb{xs ys:List (Nat×Nat×Nat)}(h:oi (HF π n2) xs ys=ah)(q:OR (dD w h0_ os rest cnt num n8) n Y (.tab xs) o):OR (dD w h0_ os (rest.drop jj) (cnt+jj) (num+f.o7) (f.n8 num n8)) n2 (λy=>Y (gO π y)) (.tab ys) o:=by obtain⟨t1,t2⟩:=aac (Y:=Y) (yz h);exact fS q λps q1 q2 _=>⟨ps,q1,q2.trans t1,t2⟩
theorem aaT{k:Nat}{i:Int}(h:SK k i xs=ah)(q:OR (dD w h0_ os rest cnt num n8) n Y (.list xs) o):OR (dD w h0_ os (rest.drop jj) (cnt+jj) (num+f.o7) (f.n8 num n8)) n2 (λy=>Y (gO π y)) (.rep k i) o:=by obtain⟨a,ha,h⟩:=er h;obtain⟨j,hj,h⟩:=er h;rw[bJ,kq]at h;refine dB q λvs m q2 q3=>⟨vs,m,q2,?_⟩;rw[gW h.1,<-of_decide_eq_true h.2];exact aO.l1 ha q3 λv q=>uE hj q λt=>.cons ⟨t,rfl⟩ .nil
end
theorem Gy{a b:AO}{o:Obj}(h:Ai f π n2 jj a b=ah)(q:OR (dD w h0_ os rest cnt num n8) n Y a o):OR (dD w h0_ os (rest.drop jj) (cnt+jj) (num+f.o7) (f.n8 num n8)) n2 (λy=>Y (gO π y)) b o:=by
 refine oS (P:=(· =ah)) h (λys hb h=>?_) λ_ h=>oS (P:=(· =ah)) h (λys hb h=>?_) λ_ h=>oS (P:=(· =ah)) h (λys hb h=>?_) λ_ h=>oS (P:=(· =ah)) h (λp hb h=>?_) λ_ h=>oS (P:=(· =ah)) h (λys hb h=>?_) λ_ h=>oS (P:=(· =ah)) h (λp hb h=>?_) λ_ h=>oS (P:=(· =ah)) h (λp hb h=>?_) λ_ h=>oS (P:=(· =ah)) h (λp hb h=>?_) λ_ h=>?_
 ·obtain⟨xs,ha,h⟩:=er h;rw[vL ha]at q;rw[vL hb];exact ZR h q
 ·obtain⟨xs,ha,h⟩:=er h;rw[GH ha]at q;rw[GH hb];exact acn h q
 ·obtain⟨xs,ha,h⟩:=er h;rw[Cf ha]at q;rw[Cf hb];exact ZK h q
 ·obtain⟨r,ha,h⟩:=er h;rw[Ce ha]at q;rw[Ce hb];rw[bJ,bJ]at h;exact Dz q λq1 q2 q3 q4=>⟨by rw[<-gW h.1.1];exact q1,by rw[q2,gW h.1.2],uu h.2,q4⟩
 ·obtain⟨xs,ha,h⟩:=er h;rw[Ci ha]at q;rw[Ci hb];exact abb h q
 ·obtain⟨r,ha,h⟩:=er h;rw[F0 ha]at q;rw[F0 hb];rw[bJ,bJ,bJ]at h;refine CN q λq1 vs m t q2 q3=>⟨uu h.2,vs,m,t,q2,?_⟩;rw[q3,gW h.1.2,gW h.1.1.1,gW h.1.1.2];show [_,yw ((cnt:Int)+(jj:Int)) t]=[_,yw (((cnt+jj:Nat):Int)+((0:Nat):Int)) t];rw[show((cnt+jj:Nat):Int)+((0:Nat):Int)=(cnt:Int)+(jj:Int)from by exact agZ]
 ·obtain⟨r,ha,h⟩:=er h;rw[FW ha]at q;rw[FW hb];rw[bJ]at h;refine dB q λvs m q2 q3=>?_;rw[gW h.1]at q3;rw[gW h.2];exact⟨vs,m,q2,q3⟩
 ·obtain⟨xs,ha,h⟩:=er h;rw[vL ha]at q;rw[Cq hb];exact aaT h q
 ·obtain⟨y,hb,h⟩:=er h;obtain⟨x,ha,h⟩:=er h;obtain⟨x,hx,h⟩:=er h;obtain⟨y,hy,h⟩:=er h;rw[FT ha,hx]at q;rw[FT hb,hy];refine aV q λv' q1 q2=>⟨v',q1,?_⟩;cases v' with
  |none=>exact q2.elim
  |some v'=>exact Cy h q2
noncomputable def CP:List Nat->Bool
 | []=>ah
 |a::l=>match l.any (aH a)with
  |true=>ak
  |false=>CP l
theorem MZ{I:Type}{g:I->Nat}:∀{l:List I},CP (l.map g)=ah->∀p q,p∈l->q∈l->g p=g q->p=q
 | [],_,p,q,hp,_,_=>by cases hp
 |a::l,h,p,q,hp,hq,e=>by
  have h:(match(l.map g).any (aH (g a))with|true=>ak|false=>CP (l.map g))=ah:=h;cases ha:(l.map g).any (aH (g a))with
  |true=>rw[ha]at h;exact cB h
  |false=>
   rw[ha]at h;have no:∀x∈l,g a≠g x:=λx hx z=>by have:=List.any_eq_false.mp ha (g x) (List.mem_map.mpr ⟨x,hx,rfl⟩);rw[z,fT,decide_eq_true rfl]at this;exact this rfl
   rcases List.mem_cons.mp hp with hp1|hp1<;>rcases List.mem_cons.mp hq with hq1|hq1
   ·rw[hp1,hq1]
   ·rw[hp1]at e;exact absurd e (no q hq1)
   ·rw[hq1]at e;exact absurd e.symm (no p hp1)
   ·exact MZ h p q hp1 hq1 e
noncomputable def wI(f:gx)(π:List (Nat×Nat))(jj n2:Nat)(U:ES)(l2:List (Nat×AO)):Bool:=
 (l2.all λp=>match U.get (gO π p.1)with
  |some o=>Ai f π n2 jj o p.2&&cZ p.1 n2
  |none=>ak)&&CP (l2.map λp=>gO π p.1)
set_option tactic.hygienic true in
theorem Rel.sim{U:ES}{l2:List (Nat×AO)}{s:aE}(h:wI f π jj n2 U l2=ah)(R:Rel (dD w h0_ os rest cnt num n8) U.st Y s):
  Rel (dD w h0_ os (rest.drop jj) (cnt+jj) (num+f.o7) (f.n8 num n8)) (ES.mk (jl l2) n2).st (λy=>Y (gO π y)) s:=by
 unfold wI at h;rw[bJ]at h;obtain⟨h1,h2⟩:=h;have at':∀{x o},(ES.mk (jl l2) n2).st.get x=aa o->(x,o)∈l2/\x<n2/\∃o',U.get (gO π x)=aa o'/\Ai f π n2 jj o' o=ah:=by
  intro x o hx;have hm:=r5 hx;have:=List.all_eq_true.mp h1 _ hm;dsimp only at this;split at this
  ·rename_i o' ho
   rw[bJ]at this;exact⟨hm,uu this.2,o',ho,this.1⟩
  ·exact cB this
 refine⟨R.base,λx o hx=>?_,λx o hx=>?_,λx y o p hx hy e=>?_,λx o hx=>(at' hx).2.1,R.gens,R.os⟩
 ·refine wo (at' hx) λ_ _ o' ho hk=>?_;refine aV (R.obj _ _ ho) λr r1 r2=>?_;exact⟨r,r1,Gy hk r2⟩
 ·refine wo (at' hx) λ_ _ o' ho hk=>?_;exact R.new _ _ ho
 ·refine wo (at' hx) λm1 _ o1 JF _=>?_;refine wo (at' hy) λm2 _ o2 ho2 _=>?_;have:=MZ h2 _ _ m1 m2 (R.inj _ _ _ _ JF ho2 e);exact congrArg Prod.fst this
noncomputable def allR{I:Type}(f:I->ES->Bool)(r:R I):Bool:=@R.rec I (λ_=>Bool) f (λ_ _=>ak) (λ_ _ a b=>@ee (λ_=>Bool) ak b a) ak r
theorem GG{I:Type}{f:I->ES->Bool}{r:R I}(h:allR f r=ah):RW r λa U=>f a U=ah:=by
 induction r with
 |ok a U=>exact h
 |exc x U=>exact cB h
 |alt a b dh dj=>
  have h:@ee (λ_=>Bool) ak (allR f b) (allR f a)=ah:=h;cases ha:allR f a with
  |false=>rw[ha]at h;exact cB h
  |true=>rw[ha]at h;exact⟨dh ha,dj h⟩
 |stuck=>exact cB h
theorem RW.pr{I H:Type}{W:WS}{U:ES}{Y:Nat->aG}{h:cy}{V:Nat->(Nat->aG)->I->H->Prop}{Q:H->aE->Prop}{E:ay->aE->Prop}{P:I->ES->Prop}{r:R I}(z:RW r P)
  (k:∀a σ' ρ' s' b,P a σ'->Rel W σ'.st ρ' s'->Ext W U.st Y h σ'.st ρ' s'.heap->V σ'.next ρ' a b->Q b s'):PR W U.st Y h V Q E r:=by
 induction r with
 |ok a σ'=>exact λρ' s' b R X v=>k _ _ _ _ _ z R X v
 |exc x σ'=>exact z.elim
 |alt a b dh dj=>exact⟨dh z.1,dj z.2⟩
 |stuck=>exact z.elim
end
section
variable{C:EC}{FL:Ev->Nat->List AV->ES->R Out}{n d:Nat}{U:ES}{b l w m:Nat}{xs:List Nat}
theorem Cm{x:Nat}{a v:AV}(h:U.get x=aa (.list [a,v])):rX C (.ref x) (.int (.lit 1)) U=aa (v,U):=pT (i:=1) h rfl (by decide)
theorem Nm{x:Nat}{a v:AV}(h:U.get x=aa (.list [a,v])):rX C (.ref x) (.int (.lit 0)) U=aa (a,U):=pT (i:=0) h rfl (by decide)
theorem aj8{x:Nat}{a v u:AV}(h:U.get x=aa (.list [a,v])):tW (.ref x) (.int (.lit 1)) u U=aa (U.put x (.list [a,u])):=Ny h
theorem I2{i j:Nat}(h:j<1000000000000):rD .Mult (.int (.lit (.ofNat i))) (.int (.lit (.ofNat j))) U=aa (.int (.lit (.ofNat (i*j))),U):=by show(match ltI (-18446744073709551616) (.ofNat j),ltI (.ofNat j) 18446744073709551616 with|true,ah=>aa (AV.int (.lit (fq (gU i*gU j))),U)|_,_=>af)=_;rewrite[gG,gG,decide_eq_true (by show(-18446744073709551616:Int)<(j:Int);exact aiG),decide_eq_true (by show(j:Int)<18446744073709551616;exact ajr h),iK];rfl
theorem IV{i j:Nat}:rD .Add (.int (.lit (.ofNat i))) (.int (.lit (.ofNat j))) U=aa (.int (.lit (.ofNat (i+j))),U):=by show(aa (AV.int (.lit (fq (gU i+gU j))),U))=_;rw[iK];rfl
theorem Ji{i j:Nat}(h:0<j):rD .Mod (.int (.lit (.ofNat i))) (.int (.lit (.ofNat j))) U=aa (.int (.lit (.ofNat (i % j))),U):=by show(match ltI 0 (.ofNat j)with|true=>aa (AV.int (.lit (fq (Gb (gU i) (gU j)))),U)|false=>af)=_;rw[gG,decide_eq_true (by show(0:Int)<(j:Int);exact Int.natCast_pos.mpr h),iK,show Gb (gU i) (gU j)=gU (i % j)from(Int.ofNat_fmod i j).symm]
theorem Zw{x:Nat}{a:AV}{ws:List AV}(hf:ws.length<1000000):qd x (.list (a::ws)) f9 [.int (.lit 0)] U=aa (a,U.put x (.list ws)):=by show uI x (a::ws) 0 U=_;unfold uI;rw[show fits (a::ws).length=ah from Nat.ble_eq.mpr (by rw[lH];exact qp (eX hf) rfl)];rfl
theorem adE{C:EC}{FL:Ev->Nat->List AV->ES->R Out}{n n' d:Nat}{cx:CX}{l l':List CS}{v:AV}{P:Flow->ES->Prop}(h:P (.ret v) U):Cont C FL n d cx l (Cont C FL n' d cx l' P) (.ret v) U:=h
noncomputable def H6(xs:List Nat)(m:Nat):Nat:=match xs with
 |x::_=>x
 | []=>(3*(m+1)*(m+1)+5*(m+1)) % 89
theorem J'(h1:C.fn 905=aa CQ)(h2:C.spec 905=af)(hb:U.get b=aa (.list [.ref l,.int (.lit (.ofNat m))]))(hl:U.get l=aa (.list (cK xs)))(lb:b<U.next)(ll:l<U.next)(VC:b≠l)(hm:m<100000000000)(hx:xs.length<1000000)(hr:U.next+10<room):
  RW (dW (ev C FL (n+20)) (d+1) (.adr 905) [.ref b,.int (.lit (.ofNat (w+1)))] U) λv σ'=>v= .int (.lit (.ofNat (H6 xs m % (w+1))))/\σ'.get b=aa (.list [.ref l,.int (.lit (.ofNat (m+1)))])/\σ'.get l=aa (.list (cK xs.tail))/\
   U.next<=σ'.next/\∀y,y<U.next->y≠b->y≠l->σ'.get y=U.get y:=by
 refine jw h1 h2 rfl rfl rfl rfl (aA (bD hr) rfl) λq σ1 u1=>?_;have hq:=u1.nm;have n1:=u1.nx;have q1:σ1.get q=_:=u1.self;have b1:=u1.get (aB (aT (aq lb) (ao hq)) rfl) hb;have l1:=u1.get (aB (aT (aq ll) (ao hq)) rfl) hl;refine bW (gV (jt (kD (aP q1 rfl (cM ⟨_,_,Cm b1,cM ⟨_,_,IV (i:=m) (j:=1),Ds (aP q1 rfl (cM ⟨_,aj8 b1,?_⟩))⟩⟩)))));have u2:=Upd.of (o:=.list [.ref l,.int (.lit (.ofNat (m+1)))]) b1;generalize σ1.put b (.list [.ref l,.int (.lit (.ofNat (m+1)))])=σ2 at*;have n2:=u2.nx;have q2:σ2.get q=_:=u2.get (bI (aT (aq lb) (ao hq)) rfl) q1;have b2:=u2.self;have l2:=u2.get VC.symm l1;refine bW (ku (eV (λ_ _ _ _ _=>rfl) (gf (kD (aP q2 rfl (cM ⟨_,_,Nm b2,iC (bG ⟨rfl,by exact aA (aT (aD n2) (aT (aL n1) (bD hr))) rfl,λx3 σ3 u3=>?_⟩)⟩))))));have h3:=u3.nm;have bg:=aT (au n1) (aT (ao n2) (ao h3));have n3:=u3.nx;have q3:σ3.get q=_:=u3.get (aB (aT (aD hq) bg) rfl) q2;have b3:=u3.get (aB (aT (aq lb) bg) rfl) b2;have l3:=u3.get (aB (aT (aq ll) bg) rfl) l2;have Tg:∀y,y<U.next->y≠b->y≠l->σ3.get y=U.get y:=λy hy h1 h2=>by rw[u3.fr y (aB (aT (aq hy) bg) rfl),u2.fr y h1,u1.fr y (aB (aT (aq hy) (ao hq)) rfl)]
 cases xs with
 |nil=>refine⟨ak,Ng l3 u3.self,ak,rfl,qh ?_⟩;refine bW (kU (jt (jt (jt (jt (jt (cM (kD (aP q3 rfl (cM ⟨_,_,Cm b3,.int (.lit (.ofNat (3*(m+1)))),σ3,I2 (i:=3) (Ar (eX hm) rfl),?_⟩))))))))));refine kD (aP q3 rfl (cM ⟨_,_,Cm b3,.int (.lit (.ofNat (3*(m+1)*(m+1)))),σ3,I2 (Ar (eX hm) rfl),?_⟩));refine jt (cM (kD (aP q3 rfl (cM ⟨_,_,Cm b3,.int (.lit (.ofNat (5*(m+1)))),σ3,I2 (i:=5) (Ar (eX hm) rfl),_,_,IV,?_⟩))));refine cM ⟨_,_,Ji (j:=89) (by decide),?_⟩;refine aP q3 rfl ⟨_,_,Ji (IP),?_⟩;exact lQ (kP ⟨rfl,b3,l3,by exact aR (aT (au n1) (aT (ao n2) (au n3))) rfl,Tg⟩)
 |cons a xs=>
  refine⟨ah,?_,ah,rfl,?_⟩
  ·show(fG σ3 8 (.ref l) (.ref x3)).map (!·)=_;rw[we l3 u3.self];rfl
  refine bW (kU (jt (kR (kD (aP q3 rfl (cM ⟨_,_,Nm b3,zh l3 rfl (aW (cM (bG ⟨_,_,_,l3,Zw (ws:=cK xs) (by rw[kO];rw[lH]at hx;exact kH (Eo hx) rfl),?_⟩)))⟩))))));have u4:=Upd.of (o:=.list (cK xs)) l3;generalize σ3.put l (.list (cK xs))=bA at*;have n4:=u4.nx;have q4:bA.get q=_:=u4.get (bI (aT (aq ll) (ao hq)) rfl) q3;refine aP q4 rfl ⟨_,_,Ji (IP),adE (kP ⟨rfl,u4.get VC b3,u4.self,by exact aR (aT (au n1) (aT (ao n2) (aT (au n3) (ao n4)))) rfl,λy hy h1 h2=>(u4.fr y h2).trans (Tg y hy h1 h2)⟩)⟩
end
section
variable{W:WS}{n n':Nat}{Y zm:Nat->aG}
theorem VR.back{a:AV}{v v0:ay}(h0:VR W n zm a v0)(h:VR W n' Y a v):VR W n Y a v:=by
 cases a<;>first|exact h|skip
 exact⟨h0.1,h.2⟩
theorem aO.back{I H γ:Type}{R0:I->γ->Prop}{R S:I->H->Prop}(k:∀a b c,R0 a c->R a b->S a b){l:List I}{m:List H}{m0:List γ}(h0:aO R0 l m0)(h:aO R l m):aO S l m:=by
 induction h generalizing m0 with
 |nil=>exact .nil
 |cons h _ ih=>cases h0 with|cons h0 hs=>exact .cons (k _ _ _ h0 h) (ih hs)
theorem OR.back{a:AO}{o o0:Obj}(h0:OR W n zm a o0)(h:OR W n' Y a o):OR W n Y a o:=by
 cases a with
 |list xs=>refine dB h0 λxA m0 _ k0=>?_;try clear h0;refine dB h λvs m h2 h3=>?_;try clear h;exact⟨vs,m,h2,aO.back (R0:=VR W n zm) (R:=VR W n' Y) (S:=VR W n Y) (λ_ _ _ z0 z=>VR.back z0 z) k0 h3⟩
 |tup xs=>refine HM h0 λ_ xA m0 _ k0=>?_;try clear h0;refine HM h λh1 vs m h2 h3=>?_;try clear h;exact⟨h1,vs,m,h2,aO.back (R0:=VR W n zm) (R:=VR W n' Y) (S:=VR W n Y) (λ_ _ _ z0 z=>VR.back z0 z) k0 h3⟩
 |ns kvs=>refine dB h0 λxA m0 _ k0=>?_;try clear h0;refine dB h λes m h2 h3=>?_;try clear h;exact⟨es,m,h2,aO.back (λa b q z0 z=>⟨z.1,VR.back z0.2 z.2⟩) k0 h3⟩
 |dict kvs=>refine aV h0 λxA _ k0=>?_;try clear h0;refine aV h λps h1 h3=>?_;try clear h;exact⟨ps,h1,aO.back (λa b q z0 z=>⟨z.1,VR.back z0.2 z.2⟩) k0 h3⟩
 |inst C d=>refine Dz h0 λ_ _ k0 _=>?_;try clear h0;refine Dz h λh1 h2 h3 h4=>?_;try clear h;exact⟨h1,h2,k0,h4⟩
 |cell v=>
  refine aV h0 λv0 _ k0=>?_;try clear h0
  refine aV h λv' h1 h2=>?_;try clear h
  refine⟨v',h1,?_⟩;cases v<;>cases v'<;>cases v0<;>first|exact h2|exact k0.elim|exact VR.back k0 h2
 |jO x i=>refine cU h0 λ_ _ k0=>?_;try clear h0;refine cU h λh1 h2 h3=>?_;try clear h;exact⟨h1,h2,k0⟩
 |nD x i=>refine iY h0 λ_ v0 _ k0=>?_;try clear h0;refine iY h λh1 v h2 h3=>?_;try clear h;exact⟨h1,v,h2,VR.back k0 h3⟩
 |slice l u=>refine za h0 λ_ a0 b0 _ k0 k1=>?_;try clear h0;refine za h λh1 a b h2 h3 h4=>?_;try clear h;exact⟨h1,a,b,h2,VR.back k0 h3,VR.back k1 h4⟩
 |exc C d a tb=>
  refine Gm h0 λ_ k2 _ k4 xA _ _ k7=>?_;try clear h0
  refine Gm h λh1 h2 h3 h4 vs h5 h6 h7=>?_;try clear h
  refine⟨h1,by
   cases d with
   |none=>exact h2
   |some d=>exact⟨h2.1,k2.2⟩,h3,k4,vs,h5,h6,?_⟩
  cases tb with
  |none=>exact h7
  |some t=>exact⟨k7.1,h7.2⟩
 |fQ fl=>
  refine iY h0 λ_ xA _ k7=>?_;try clear h0
  refine iY h λh1 vs h5 h7=>?_;try clear h
  refine⟨h1,vs,h5,?_⟩;cases fl with
  |none=>exact h7
  |some t=>exact⟨k7.1,h7.2⟩
 |fn own cells code b=>
  refine F7 h0 λk0 _ _ akP _ _ _ k3 _=>?_;try clear h0
  refine F7 h λh1 body scope clos pm ct h2 h3 h4=>?_;try clear h
  exact⟨k0,body,scope,clos,pm,ct,h2,aO.back (λa b q z0 z=>⟨z.1,z.2.1,z0.2.2⟩) k3 h3,h4⟩
 |tab made=>refine fS h0 λ_ _ _ k0=>?_;try clear h0;refine fS h λps h1 h2 h3=>?_;try clear h;exact⟨ps,h1,h2,k0⟩
 |gw l j=>obtain⟨k0,_⟩:=h0;refine CN h λh2 vs m t h3 h4=>?_;try clear h;exact⟨k0,vs,m,t,h3,h4⟩
 |lY c=>exact h
 |gX a c=>exact h
 |code own=>exact h
 |gZ j=>exact h
 |rep k i=>refine dB h0 λxA m0 _ k0=>?_;try clear h0;refine dB h λvs m h2 h3=>?_;try clear h;exact⟨vs,m,h2,aO.back (R0:=VR W n zm) (R:=VR W n' Y) (S:=VR W n Y) (λ_ _ _ z0 z=>VR.back z0 z) k0 h3⟩
 |iD=>exact h
 |any=>exact h
theorem forget{U σ1 σ' nO:St}{ρ':Nat->aG}{s s':aE}{h:cy}(R:Rel W U Y s)(R':Rel W σ' ρ' s')(X:Ext W σ1 Y h σ' ρ' s'.heap)(hd:∀x p,σ1.get x=aa p->∃q,U.get x=aa q)(hm:∀x q,U.get x=aa q->∃o,nO.get x=aa o/\(isNs q=ah->isNs o=ah))
  (ht:∀x o,nO.get x=aa o->∃q o',U.get x=aa q/\σ'.get x=aa o'/\∀r,OR W σ'.next ρ' o' r->OR W U.next ρ' o r) (n1:σ1.next=U.next) (nt:nO.next=U.next):Rel W nO ρ' s'/\Ext W U Y h nO ρ' s'.heap:=by
 refine⟨⟨R'.base,λx o e=>?_,λx o e=>?_,λx y o p hx hy=>?_,λx o e=>?_,R'.gens,R'.os⟩,⟨by exact aR (ao nt) rfl,λx hx=>X.ag x (aA (aT (aq hx) (ao n1)) rfl),hm,λx o e=>?_,λb o e hn hf=>X.keep b o e (λx p hx=>?_) hf,λb o e hn hf=>X.slot b o e (λx p hx=>?_) hf,X.there⟩⟩
 ·refine fE (ht x o e) λq o' h1 h2 h3=>?_;refine aV (R'.obj _ _ h2) λr r1 r2=>?_;rw[nt];exact⟨r,r1,h3 r r2⟩
 ·refine fE (ht x o e) λq o' h1 h2 h3=>?_;exact R'.new _ _ h2
 ·refine fE (ht x o hx) λ_ o1 _ h1 _=>?_;refine fE (ht y p hy) λ_ o2 _ h2 _=>?_;exact R'.inj _ _ _ _ h1 h2
 ·refine fE (ht x o e) λq o' h1 h2 h3=>?_;rw[nt];exact R.lt _ _ h1
 ·refine fE (ht x o e) λq o' h1 h2 h3=>?_;exact .inl ⟨q,h1⟩
 ·obtain⟨q,hq⟩:=hd x p hx;exact hn x q hq
 ·obtain⟨q,hq⟩:=hd x p hx;exact hn x q hq
end
section
variable{w:bX}{h0_:cy}{os:jL}{rest:List Nat}{cnt:Nat}{num n8:Int}{sym:Nat->Nat->Option (List Nat)}
theorem abF{W:WS}{n:Nat}{Y:Nat->aG}{vs:List ay}{xs:List Nat}(h:vP vs (xs.map gU)):aO (VR W n Y) (cK xs) vs:=by
 induction xs generalizing vs with
 |nil=>cases h;exact .nil
 |cons x xs ih=>cases h with|cons _ t h=>exact .cons ⟨t,rfl⟩ (ih h)
theorem Of{W:WS}{n:Nat}{Y:Nat->aG}{vs:List ay}{xs:List Nat}(h:aO (VR W n Y) (cK xs) vs):vP vs (xs.map gU):=by
 induction xs generalizing vs with
 |nil=>cases h;exact .nil
 |cons x xs ih=>
  cases h with
  |cons h1 h2=>obtain⟨t,rfl⟩:=h1;exact .cons _ t (ih h2)
theorem aaS{j:Nat}:H6 (rest.drop j) (cnt+j)=dG rest cnt j:=by
 unfold H6 dG;cases h:rest[j]? with
 |none=>rw[Ew (List.getElem?_eq_none_iff.mp h)]
 |some x=>obtain⟨hl,rfl⟩:=List.getElem?_eq_some_iff.mp h;rw[Et hl]
theorem Rel.adq{W:WS}{U σ1:St}{Y:Nat->aG}{s:aE}(R:Rel W U Y s)(nx:σ1.next=U.next)(h:∀x o,σ1.get x=aa o->∃q,U.get x=aa q/\∀r,OR W U.next Y q r->OR W U.next Y o r):Rel W σ1 Y s:=by
 refine⟨R.base,λx o e=>?_,λx o e=>?_,λx y o p hx hy=>?_,λx o e=>?_,R.gens,R.os⟩
 ·refine aV (h x o e) λq h1 h2=>?_;refine aV (R.obj _ _ h1) λr r1 r2=>?_;rw[nx];exact⟨r,r1,h2 r r2⟩
 ·refine aV (h x o e) λq h1 h2=>?_;exact R.new _ _ h1
 ·refine aV (h x o hx) λq h1 _=>?_;refine aV (h y p hy) λq' h1' _=>?_;exact R.inj _ _ _ _ h1 h1'
 ·refine aV (h x o e) λq h1 h2=>?_;rw[nx];exact R.lt _ _ h1
noncomputable def CW(sym:Nat->Nat->Option (List Nat)):EC:={br sym with spec:=λ_=>af}
theorem NL{W:WS}{FL:Ev->Nat->List AV->ES->R Out}:uh W (CW sym) fk FL:=⟨λh=>(aN h),λ_ h=>(aN h)⟩
section
variable{W:WS}{C:EC}{U:ES}{Y:Nat->aG}{h:cy}{Q:ay->aE->Prop}{E:ay->aE->Prop}
theorem abx{f:Nat->R Out}{l:List Nat}:∀{i:Nat},PR W U.st Y h (VO W) Q E (Ug f i l)->∀x∈i::l,PR W U.st Y h (VO W) Q E (f x):=by
 induction l with
 |nil=>intro i p x hx;rw[List.mem_singleton.mp hx];exact p
 |cons i1 l ih=>
  intro i p x hx;rcases List.mem_cons.mp hx with q|q
  ·rw[q];exact p.1
  ·exact ih p.2 x q
theorem Zd{as:List AV}{s:aE}{G:Prop}(p:PR W U.st Y s.heap (VO W) Q E (CL C as U))
  (k:∀b v l j,as=[.ref b,.int (.lit (.ofNat (v+1)))]->U.get b=aa (.gw l j)->U.get l=aa (.gZ j)->j<100000->U.next<999999000->PR W U.st Y s.heap (VO W) Q E (GV C b l j v U)->G):G:=by
 refine bZ p λpr hp p1=>bZ p1 λb hb p2=>bZ p2 λm hm p3=>oE hm λi hi em=>bZ p3 λv hv p4=>bZ p4 λq hq p5=>oE hq λob hob eb=>bZ p5 λj' hj' p6=>oE hj' λol wZ el=>jA p6 λc pp=>?_;rw[bJ,bJ]at c;rw[F0 eb]at hob;rw[FW el,<-gW c.2]at wZ;exact k b v q.1 q.2 (by rw[Pz hp,kh hb,qT hi,yK em,ZN hv]) hob wZ (uu c.1.1) (uu c.1.2) pp
theorem Θ{b l j v:Nat}(hs:∀v j is,sym (v+1) j=aa is->dG rest cnt j % (v+1)∈is){s:aE}(p:PR W U.st Y s.heap (VO W) Q E (GV (br sym) b l j v U)):PR W U.st Y s.heap (VO W) Q E (zv b l j U (.lit (.ofNat (dG rest cnt j % (v+1))))):=by
 refine oS (P:=PR W U.st Y s.heap (VO W) Q E) p (λis e p=>?_) λ_ p=>PR.ways p _ (EH (yo _ (BG _)));have hm:=hs v j is e;cases is with
 |nil=>cases hm
 |cons i is=>exact abx p _ hm
theorem OL{a:Nat}{sp:Spec}(h:(br sym).spec a=aa sp):a=905/\sp= .next:=by
 have h:(match aH a 905 with|true=>aa Spec.next|false=>af)=aa sp:=h;cases e:aH a 905 with
 |true=>rw[e]at h;exact⟨gW e,(aX h).symm⟩
 |false=>rw[e]at h;exact aN h
end
theorem Ca(B:Base w h0_)(hs:∀v j is,sym (v+1) j=aa is->dG rest cnt j % (v+1)∈is)(hc:cnt<=10000000000)(hrl:rest.length<1000000){FL:Ev->Nat->List AV->ES->R Out}:uh (dD w h0_ os rest cnt num n8) (br sym) fk FL where
 flat:=λ_ h=>nomatch (OL h).2
 next:=λ{d a as vs A U Y s Q E} h R F va p=>by
  refine Zd p λb v l j has gb gl hj hn pp=>?_;have pp:=Θ (cnt:=cnt) hs pp;rw[(OL h).1];rw[has]at va;have mS:l≠b:=bx gl gb nofun
  have lb:b<U.next:=R.lt _ _ gb
  have ll:l<U.next:=R.lt _ _ gl
  have u1:=Upd.of (o:=.list [.ref l,.int (.lit (.ofNat (cnt+j)))]) gb;have u2:=Upd.of (o:=.list (cK (rest.drop j))) (u1.get mS gl);generalize sC:(U.put b (.list [.ref l,.int (.lit (.ofNat (cnt+j)))])).put l (.list (cK (rest.drop j)))=σ1 at u2;generalize U.put b (.list [.ref l,.int (.lit (.ofNat (cnt+j)))])=σa at u1 u2;have tu:σ1.next=U.next:=by rw[u2.nx,u1.nx]
  have VT:σ1.get b=_:=u2.get mS.symm u1.self;have UH:=u2.self;have jQ:∀y,y≠b->y≠l->σ1.get y=U.get y:=λy h1 h2=>by rw[u2.fr y h2,u1.fr y h1]
  have R1:Rel (dD w h0_ os rest cnt num n8) σ1.st Y s:=by
   refine R.adq tu λx o e=>?_;have e:σ1.get x=aa o:=e
   by_cases jm:x=l
   ·subst jm;rw[UH]at e
    (injection e with e;subst e)
    refine⟨_,gl,λr hr=>?_⟩;refine dB hr λvs m h1 h2=>?_;try clear hr
    exact⟨vs,m,h1,abF h2⟩
   by_cases hxb:x=b
   ·subst hxb;rw[VT]at e
    (injection e with e;subst e)
    refine⟨_,gb,λr hr=>?_⟩;refine CN hr λh0 vs m t h1 h2=>?_;try clear hr
    refine⟨vs,m,h1,?_⟩;rw[h2];exact .cons ⟨h0,rfl⟩ (.cons ⟨t,rfl⟩ .nil)
   ·exact⟨o,(jQ x hxb jm).symm.trans e,λ_ z=>z⟩
  have F1:eu (dD w h0_ os rest cnt num n8) (d+1) A σ1.st Y s.heap:=by
   obtain⟨f1,f2,f3,⟨fl,f4,f5,f6⟩,f7⟩:=F;refine⟨f1,f2,f3,⟨fl,f4,f5,λenv he L hL=>?_⟩,λt ht=>⟨by rw[show σ1.st.next=σ1.next from rfl,tu];exact(f7 t ht).1,(f7 t ht).2⟩⟩;refine fE (f6 env he L hL) λx o e hi hr=>?_;have e:U.get x=aa o:=e;refine⟨x,o,(jQ x (λq=>?_) λq=>?_).trans e,hi,hr⟩
   ·rw[q,gb]at e;obtain rfl:=aX e;exact cB hi
   ·rw[q,gl]at e;obtain rfl:=aX e;exact cB hi
  have va1:aO (VR (dD w h0_ os rest cnt num n8) σ1.next Y) [.ref b,.int (.lit (.ofNat (v+1)))] vs:=by rw[tu];exact va
  have N:=bL.all (DO (sym:=sym) (rest:=rest) (cnt:=cnt) (num:=num) (n8:=n8) (os:=os) (spec:=λ_=>af) (lists:=λ_=>af) nofun B) (NL (sym:=sym) (FL:=FL)) 20;have ll1:(rest.drop j).length<=rest.length:=by rw[xS];exact aji
  refine N.zE (fi:=CQ) (Ih (sym:=sym)) R1 F1 va1 (PR.cA (RW.pr (J' (C:=CW sym) (FL:=FL) (n:=0) (d:=d) (w:=v) (m:=cnt+j) (xs:=rest.drop j) (Ih (sym:=sym)) rfl VT UH (aA (aT (aq lb) (ao tu)) rfl) (aA (aT (aq ll) (ao tu)) rfl) mS.symm (aeU hc hj) (kH (aT (aM ll1) (eX hrl)) rfl) (by show σ1.next+10<1000000000;exact Ar (aT (aD tu) (eX hn)) rfl)) λa σ' ρ' s' bv P R' X' V=>?_));refine Rh P λdQ pb pl ple pfr=>?_;try clear P;subst dQ
  rw[aaS]at V;have w1:=Upd.of (o:=.gw l (j+1)) gb;have w2:=Upd.of (o:=.gZ (j+1)) (w1.get mS gl);unfold zv at pp;generalize akZ:(U.put b (.gw l (j+1))).put l (.gZ (j+1))=nO at w2 pp;generalize U.put b (.gw l (j+1))=σb at w1 w2;have nxt:nO.next=U.next:=by rw[w2.nx,w1.nx]
  have UC:nO.get b=_:=w2.get mS.symm w1.self;have Vt:=w2.self;have So:∀y,y≠b->y≠l->nO.get y=U.get y:=λy h1 h2=>by rw[w2.fr y h2,w1.fr y h1]
  obtain⟨Rt,Xt⟩:=forget (nO:=nO.st) R R' X' (λx q e=>by
   have e:σ1.get x=aa q:=e
   by_cases jm:x=l
   ·exact⟨_,by rw[jm];exact gl⟩
   by_cases hxb:x=b
   ·exact⟨_,by rw[hxb];exact gb⟩
   ·exact⟨q,(jQ x hxb jm).symm.trans e⟩) (λx q e=>by
   have e:U.get x=aa q:=e
   by_cases jm:x=l
   ·subst jm;rw[gl]at e;(injection e with e;subst e);exact⟨_,Vt,nofun⟩
   by_cases hxb:x=b
   ·subst hxb;rw[gb]at e;(injection e with e;subst e);exact⟨_,UC,nofun⟩
   ·exact⟨q,(So x hxb jm).trans e,id⟩) (λx o e=>by
   have e:nO.get x=aa o:=e
   by_cases jm:x=l
   ·subst jm;rw[Vt]at e
    (injection e with e;subst e)
    refine⟨_,_,gl,pl,λr hr=>?_⟩;refine dB hr λvs m h1 h2=>?_;try clear hr
    refine⟨vs,m,h1,?_⟩;have:=Of h2;rw[List.tail_drop]at this;exact this
   by_cases hxb:x=b
   ·subst hxb;rw[UC]at e
    (injection e with e;subst e)
    refine⟨_,_,gb,pb,λr hr=>?_⟩;refine dB hr λvs m h1 h2=>?_;try clear hr
    cases hv:vs.toList with
    |nil=>rw[hv]at h2;cases h2
    |cons v1 vt=>
     rw[hv]at h2;cases h2 with
     |cons k1 k2=>
      cases k2 with
      |cons k3 k4=>cases k4;obtain⟨_,rfl⟩:=k1;obtain⟨t,rfl⟩:=k3;exact⟨ll,vs,m,t,h1,hv⟩
   ·have e:U.get x=aa o:=(So x hxb jm).symm.trans e;refine⟨o,o,e,(pfr x (by rw[tu];exact R.lt _ _ e) hxb jm).trans ((jQ x hxb jm).trans e),λr hr=>?_⟩;refine aV (R.obj _ _ e) λr0 _ hr0=>?_;exact OR.back hr0 hr) tu nxt
  exact pp ρ' s' bv Rt Xt ⟨_,rfl,V⟩
end
end Mine
end
section
namespace Mine
open PySem PySem.W PySem.Calls PyProof.Rows PySem.SeqAt PySem.F
section
variable{W W':WS}{C:EC}{g:Nat->Option AV}{d:Nat}{A:cR}{sc:cu}{cx:CX}{env:Env}{U U1_:ES}{Y cF:Nat->aG}{s s1_:aE}{E:ay->aE->Prop}
variable{ih:Ev}{f:Nat}
theorem aab(O:Oki W C g){a:aG}{fi:FI}{as:List AV}{vs:List ay}{Q:ay->aE->Prop}(P:wM W C g a fi)(hc0:fi.cells=[])(hd0:fi.dflt=[])(R0:Rel W U.st Y s)(F:eu W (d+1) A U.st Y s.heap)(va:aO (VR W U.next Y) as vs){σ3:ES}{kvs:List (Nat×AV)}
  (hb:bindAll ⟨(U.add (.ns [])).1,(U.add (.ns [])).1,[],a⟩ [] fi.params as (U.add (.ns [])).2=aa σ3) (uX:σ3.get (U.add (.ns [])).1=aa (.ns kvs))
  (k:∀{fd body o env dg s3},W.h0_.get? a=aa o->o.data= .func fd->fd.body= .stmts body->aZ W C d (A.deeper env) fd.scope ⟨(U.add (.ns [])).1,(U.add (.ns [])).1,[],a⟩ env σ3 dg s3->iF (A.deeper env) env->
   aC (model W.prog W.w) (A.deeper env) (execs body env) (λfl s'=>∃v,fl= .ret v/\Q v s') (λ_ _=>False) s3):fj (model W.prog W.w) A (.call (.ref a) ⟨vs,[]⟩) (om Q E) s:=by
 obtain⟨o,fd,body,f,nms,p1,p2,p3,p4,p5,p6,p7,p8,p9,xC,sN,sW,oW,rF,uZ,sV,xE,xj,xh⟩:=P;have hcd:=sN.keeps R0.base;refine KZ (by have:=F.hd;exact Ut this) (R0.base _ _ p1) p2 p6 p7 p3 hcd ?_;generalize hq:(U.add (.ns [])).1=q at*;rw[hc0]at rF uZ;rw[hd0]at sV xE;have lp:=vM oW;have lb:=Fj hb;have la:=va.length;obtain⟨ds,hds,hdl,hdr⟩:∃ds:List ay,ds=[]/\ds.length=0/\∀{Q':Option (Array ay)->aE->Prop} {E':ay->aE->Prop},(∀r:Option (Array ay),(r.getD #[]).toList=ds->Q' r s)->aC (model W.prog W.w) A.in1 (seqItems? fd.defaults) Q' E' s:=by
  rcases sV with⟨q1,q2⟩|⟨t,items,q1,q2,q3⟩
  ·refine⟨[],rfl,rfl,λ{Q' E'} h=>?_⟩;rw[q1];exact aF (bu (bu (h af rfl)))
  ·refine⟨[],rfl,rfl,λ{Q' E'} h=>?_⟩;refine qk q2 λot o1 o2 nn o3=>?_;try clear q2
   rw[q1];refine rS (R0.base _ _ o1) o3 (h (aa items) ?_);cases hv:items.toList with
   |nil=>exact hv
   |cons _ _=>rw[hv]at q3;cases q3
 subst hds;have z0:([]:List ay).length=0:=rfl;refine BS sW (ds:=[]) (aR (aT (ao la) (aT (ao lb) (aD lp))) rfl) (Uq lp lb la) (TF z0) hdr ?_;rw[p8,p9,xC];refine yg (ks:=[]) rF R0 .nil λbU s2 gj R2 X2 A2 l2=>?_;have hac:eN [] [] (U.add (.ns [])).2=([],(U.add (.ns [])).2):=rfl;rw[hac]at R2 X2 A2 l2;rw[hq]at l2 ⊢;dsimp only at R2 X2 A2 l2;generalize (U.add (.ns [])).2=σ2 at*;have F2:=F.ext X2 R0.lt;have EN:jg W σ2.next bU fd.scope ⟨q,q,[],a⟩ (newEnv fd.scope (bU q) eY gj (fd.qualname++ ".<locals>.") (aa a) fd.code af eK):=
  ⟨λid=>.inl rfl,p5,rfl,rfl,⟨rfl,l2⟩,⟨rfl,l2⟩,A2⟩
 have vals:aO (VR W σ2.next bU) as (vs++([]:List ay).drop (([]:List ay).length-(nms.length- vs.length))):=by rw[E0,lJ];exact va.mono λ_ _=>X2.vr
 refine aF (E1 (cells:=[]) _ (λ_ _ _=>rfl) oW uZ EN R2 vals (by rw[E0,lJ];exact cO (aR (aT (ao lp) (aT (aD lb) (aD la))) rfl) (aR (aT (ao la) (aT (ao lb) (aD lp))) rfl)) hb λs3 R3 X3=>?_);refine bu ⟨O.lim.keeps R3.base,LY ?_⟩;have mV:=X2.trans R0.lt R2.lt X3;have F3:=F.ext mV R0.lt;have FD:eu W d (A.deeper (newEnv fd.scope (bU q) eY gj (fd.qualname++ ".<locals>.") (aa a) fd.code af eK)) σ3.st bU s3.heap:=eu.deeper F3 R3 rfl uX rfl p5;have SD:aZ W C d (A.deeper (newEnv fd.scope (bU q) eY gj (fd.qualname++ ".<locals>.") (aa a) fd.code af eK)) fd.scope ⟨q,q,[],a⟩ (newEnv fd.scope (bU q) eY gj (fd.qualname++ ".<locals>.") (aa a) fd.code af eK) σ3 bU s3:=
  ⟨R3,EN.mono X3.le X3.ag,FD,λtb htb=>by refine iY (xh tb htb) λq1 c q2 q3=>?_;obtain⟨q4,q5⟩:=FD.tb tb q1;exact⟨q4,xj.symm,c,q2,by rw[q5];exact q3⟩⟩
 have TD:iF (A.deeper (newEnv fd.scope (bU q) eY gj (fd.qualname++ ".<locals>.") (aa a) fd.code af eK)) (newEnv fd.scope (bU q) eY gj (fd.qualname++ ".<locals>.") (aa a) fd.code af eK):=by obtain⟨_,_,_,⟨l,h4,_⟩,_⟩:=F;exact⟨l,by show A.frames.map (_:: ·)=_;rw[h4];rfl⟩
 refine eL (k p1 p2 p3 SD TD) (λfl s' h=>?_) λ_ _ h=>h.elim;obtain⟨v,rfl,h⟩:=h;exact h
theorem Rel.re{U σ2:St}{π:Nat->Nat}(R:Rel W U Y s)(e0:W'.h0_=W.h0_)(e1:W'.os=W.os)(h:∀y o2,σ2.get y=aa o2->y<σ2.next/\∃o,U.get (π y)=aa o/\∀r,OR W U.next Y o r->OR W' σ2.next (λy=>Y (π y)) o2 r)
  (inj:∀x y o p,σ2.get x=aa o->σ2.get y=aa p->π x=π y->x=y):Rel W' σ2 (λy=>Y (π y)) s:=by
 refine⟨λb o e=>R.base b o (by rw[<-e0];exact e),λx o e=>?_,λx o e=>?_,λx y o p hx hy z=>?_,λx o e=>(h x o e).1,R.gens,R.os.trans e1.symm⟩
 ·refine iY (h x o e) λ_ q h1 h2=>?_;refine aV (R.obj _ _ h1) λr r1 r2=>?_;exact⟨r,r1,h2 r r2⟩
 ·refine iY (h x o e) λ_ q h1 h2=>?_;rw[e0];exact R.new _ _ h1
 ·refine iY (h x o hx) λ_ q h1 _=>?_;refine iY (h y p hy) λ_ q' h2 _=>?_;exact inj x y o p hx hy (R.inj _ _ _ _ h1 h2 z)
theorem aZ.re{C':EC}{σ2:ES}{π:Nat->Nat}(S:aZ W C d A sc cx env U Y s)(R:Rel W' σ2.st (λy=>Y (π y)) s)(e0:W'.h0_=W.h0_)(et:W'.tabs=W.tabs)(hA:A.frames=aa [env])(hc:cx.cells=[])(hl:π cx.loc=cx.loc/\cx.loc<σ2.next)(hf:cx.fr=cx.loc)(hns:∃o,σ2.get cx.loc=aa o/\isNs o=ah)
  (ht:∀t∈W.tabs,π t=t/\t<σ2.next) (hT:C'.tabOf cx.code=af):aZ W' C' d A sc cx env σ2 (λy=>Y (π y)) s:=by
 obtain⟨n1,n2,n3,n4,n5,n6,n7⟩:=S.N;obtain⟨f1,f2,f3,⟨l,f4,f5,f6⟩,f7⟩:=S.F;rw[hA]at f4;obtain rfl:=aX f4;refine⟨R,⟨n1,n2,n3,n4,⟨by rw[hl.1];exact n5.1,hl.2⟩,⟨by rw[hf,hl.1,<-hf];exact n6.1,by rw[hf];exact hl.2⟩,?_⟩,⟨f1,f2,f3,⟨[env],hA,by rw[e0];exact f5,λenv' he L hL=>?_⟩,λt rM=>?_⟩,λtb h=>by rw[hT]at h;exact aN h⟩
 ·rw[hc]at n7 ⊢;cases h:env.cells with
  |nil=>exact .nil
  |cons _ _=>rw[h]at n7;cases n7
 ·rcases List.mem_cons.mp he with rfl|he
  ·refine aV hns λo ho hi=>?_;try clear hns
   refine⟨cx.loc,o,ho,hi,?_⟩;rw[n6.1]at hL
   (injection hL with hL;subst hL)
   rw[hl.1,hf]
  ·cases he
 ·rw[et]at rM;exact⟨(ht t rM).2,by rw[(ht t rM).1];exact(f7 t rM).2⟩
end
end Mine
end
section
set_option backward.match.sparseCases true
namespace Mine
open PySem PySem.W PySem.Calls PyProof.Rows PySem.SeqAt PySem.F
noncomputable section
theorem L8{env:Env}{bq:List fR}:∀{bp:List fR},execs (bp++bq) env=(execs bp env >>= λf=>match f with| .next=>execs bq env|f=>pure f)
 | []=>by rw[xW];show _=(pure Ls >>= _);rw[pure_bind]
 |st::bp=>by
  rw[tK];show(exec st env >>= λf=>match f with| .next=>execs (bp++bq) env|f=>pure f)=((exec st env >>= λf=>match f with| .next=>execs bp env|f=>pure f) >>= _);rw[bind_assoc]
  congr 1
  funext f
  cases f with
  |next=>exact L8
  |cont=>rw[pure_bind]
  |brk=>rw[pure_bind]
  |ret v=>rw[pure_bind]
theorem Zu{M:Model}{A:cR}{env:Env}{bp bq:List fR}{Q:gA->aE->Prop}{E:ay->aE->Prop}{s:aE}(h:aC M A (execs bp env) (λf s'=>f= .next/\aC M A (execs bq env) Q E s') E s):aC M A (execs (bp++bq) env) Q E s:=by rw[L8];refine aF (eL h (λf s' h'=>?_) λ_ _ h=>h);obtain⟨rfl,h'⟩:=h';exact h'
theorem Zs{I H:Type}{k:I->Option H}{q p:List H}:∀{l:List I},bB k l=aa (p++q)->∃l1 l2,l=l1++l2/\bB k l1=aa p/\bB k l2=aa q:=by
 induction p with
 |nil=>exact λ{l} h=>⟨[],l,rfl,rfl,h⟩
 |cons b p ih=>
  intro l h;cases l with
  |nil=>cases h
  |cons a l=>refine fE (qR h) λb' m h1 h2 h3=>?_;cases h3;obtain⟨l1,l2,rfl,h4,h5⟩:=ih h2;refine⟨a::l1,l2,rfl,?_,h5⟩;show(k a).bind (λb=>(bB k l1).map λm=>b::m)=_;rw[h1,h4];rfl
section
variable{W W':WS}{C:EC}{g:Nat->Option AV}{d:Nat}{A:cR}{sc:cu}{cx:CX}{env:Env}{U U1_:ES}{Y cF:Nat->aG}{s s1_:aE}{E:ay->aE->Prop}
variable{ih:Ev}{f:Nat}
theorem ZT(O:Oki W C g){a:aG}{fi:FI}{as:List AV}{vs:List ay}{Q:ay->aE->Prop}(P:wM W C g a fi)(hd0:fi.dflt=[])(R0:Rel W U.st Y s)(F:eu W (d+1) A U.st Y s.heap)(va:aO (VR W U.next Y) as vs){q:Nat}{σ1 σ2 σ3:ES}{cells:List (Nat×Nat)}{kvs:List (Nat×AV)}
  (hq:U.add (.ns [])=(q,σ1)) (DV:eN fi.cells [] σ1=(cells,σ2)) (hb:bindAll ⟨q,q,cells,a⟩ fi.cells fi.params as σ2=aa σ3) (uX:σ3.get q=aa (.ns kvs))
  (k:∀{f sc body env dg s3},bB (cS g f sc) body=aa fi.body->aZ W C d (A.deeper env) sc ⟨q,q,cells,a⟩ env σ3 dg s3->Ext W U.st Y s.heap σ3.st dg s3.heap->iF (A.deeper env) env->
   aC (model W.prog W.w) (A.deeper env) (execs body env) (λfl s'=>∃v,fl= .ret v/\Q v s') (λ_ _=>False) s3):fj (model W.prog W.w) A (.call (.ref a) ⟨vs,[]⟩) (om Q E) s:=by
 obtain⟨o,fd,body,f,nms,p1,p2,p3,p4,p5,p6,p7,p8,p9,xC,sN,sW,oW,rF,uZ,sV,xE,xj,xh⟩:=P;have hcd:=sN.keeps R0.base;refine KZ (by have:=F.hd;exact Ut this) (R0.base _ _ p1) p2 p6 p7 p3 hcd ?_;have g4:=E7 fi.cells [] σ1;rw[DV]at g4;rw[hd0]at sV xE;have lp:=vM oW;have lb:=Fj hb;have la:=va.length;obtain⟨ds,hds,hdl,hdr⟩:∃ds:List ay,ds=[]/\ds.length=0/\∀{Q':Option (Array ay)->aE->Prop} {E':ay->aE->Prop},(∀r:Option (Array ay),(r.getD #[]).toList=ds->Q' r s)->aC (model W.prog W.w) A.in1 (seqItems? fd.defaults) Q' E' s:=by
  rcases sV with⟨q1,q2⟩|⟨t,items,q1,q2,q3⟩
  ·refine⟨[],rfl,rfl,λ{Q' E'} h=>?_⟩;rw[q1];exact aF (bu (bu (h af rfl)))
  ·refine⟨[],rfl,rfl,λ{Q' E'} h=>?_⟩;refine qk q2 λot o1 o2 nn o3=>?_;try clear q2
   rw[q1];refine rS (R0.base _ _ o1) o3 (h (aa items) ?_);cases hv:items.toList with
   |nil=>exact hv
   |cons _ _=>rw[hv]at q3;cases q3
 subst hds;have z0:([]:List ay).length=0:=rfl;refine BS sW (ds:=[]) (aR (aT (ao la) (aT (ao lb) (aD lp))) rfl) (Uq lp lb la) (TF z0) hdr ?_;rw[p8,p9,xC];refine yg (ks:=fi.cells) rF R0 .nil λbU s2 gj R2 X2 A2 l2=>?_;rw[hq]at R2 X2 A2 l2 ⊢;dsimp only at R2 X2 A2 l2 ⊢;rw[DV]at R2 X2 A2 l2;dsimp only at R2 X2 A2 l2;have F2:=F.ext X2 R0.lt;have EN:jg W σ2.next bU fd.scope ⟨q,q,cells,a⟩ (newEnv fd.scope (bU q) eY gj (fd.qualname++ ".<locals>.") (aa a) fd.code af eK):=
  ⟨λid=>.inl rfl,p5,rfl,rfl,⟨rfl,l2⟩,⟨rfl,l2⟩,A2⟩
 have vals:aO (VR W σ2.next bU) as (vs++([]:List ay).drop (([]:List ay).length-(nms.length- vs.length))):=by rw[E0,lJ];exact va.mono λ_ _=>X2.vr
 refine aF (E1 (cells:=fi.cells) _ (λ_ _ _=>rfl) oW uZ EN R2 vals (by rw[E0,lJ];exact cO (aR (aT (ao lp) (aT (aD lb) (aD la))) rfl) (aR (aT (ao la) (aT (ao lb) (aD lp))) rfl)) hb λs3 R3 X3=>?_);refine bu ⟨O.lim.keeps R3.base,LY ?_⟩;have mV:=X2.trans R0.lt R2.lt X3;have F3:=F.ext mV R0.lt;have FD:eu W d (A.deeper (newEnv fd.scope (bU q) eY gj (fd.qualname++ ".<locals>.") (aa a) fd.code af eK)) σ3.st bU s3.heap:=eu.deeper F3 R3 rfl uX rfl p5;have SD:aZ W C d (A.deeper (newEnv fd.scope (bU q) eY gj (fd.qualname++ ".<locals>.") (aa a) fd.code af eK)) fd.scope ⟨q,q,cells,a⟩ (newEnv fd.scope (bU q) eY gj (fd.qualname++ ".<locals>.") (aa a) fd.code af eK) σ3 bU s3:=
  ⟨R3,EN.mono X3.le X3.ag,FD,λtb htb=>by refine iY (xh tb htb) λq1 c q2 q3=>?_;obtain⟨q4,q5⟩:=FD.tb tb q1;exact⟨q4,xj.symm,c,q2,by rw[q5];exact q3⟩⟩
 have TD:iF (A.deeper (newEnv fd.scope (bU q) eY gj (fd.qualname++ ".<locals>.") (aa a) fd.code af eK)) (newEnv fd.scope (bU q) eY gj (fd.qualname++ ".<locals>.") (aa a) fd.code af eK):=by obtain⟨_,_,_,⟨l,h4,_⟩,_⟩:=F;exact⟨l,by show A.frames.map (_:: ·)=_;rw[h4];rfl⟩
 refine eL (k p4 SD mV TD) (λfl s' h=>?_) λ_ _ h=>h.elim;obtain⟨v,rfl,h⟩:=h;exact h
theorem aZ.KG{C':EC}{σ2:ES}{π:Nat->Nat}{Jc:Env}(S:aZ W C d A sc cx env U Y s)(R:Rel W' σ2.st (λy=>Y (π y)) s)(e0:W'.h0_=W.h0_)(et:W'.tabs=W.tabs)(eq:W'.qual=W.qual)(hA:A.frames=aa [env,Jc])(hc:∀p∈cx.cells,π p.2=p.2/\p.2<σ2.next)(hl:π cx.loc=cx.loc/\cx.loc<σ2.next)(hf:cx.fr=cx.loc)(hns:∃o,σ2.get cx.loc=aa o/\isNs o=ah)
  (h1:∀L,Jc.frame=aa L->∃x o,σ2.get x=aa o/\isNs o=ah/\Y (π x)=L)
  (ht:∀t∈W.tabs,π t=t/\t<σ2.next) (hT:C'.tabOf cx.code=C.tabOf cx.code) (hTm:∀tb,C.tabOf cx.code=aa tb->tb∈W.tabs):aZ W' C' d A sc cx env σ2 (λy=>Y (π y)) s:=by
 obtain⟨n1,n2,n3,n4,n5,n6,n7⟩:=S.N;obtain⟨f1,f2,f3,⟨l,f4,f5,f6⟩,f7⟩:=S.F;rw[hA]at f4;obtain rfl:=aX f4;refine⟨R,⟨n1,n2,n3,n4,⟨by rw[hl.1];exact n5.1,hl.2⟩,⟨by rw[hf,hl.1,<-hf];exact n6.1,by rw[hf];exact hl.2⟩,?_⟩,⟨f1,f2,f3,⟨[env,Jc],hA,by rw[e0];exact f5,λenv' he L hL=>?_⟩,λt rM=>?_⟩,λtb h=>?_⟩
 ·have:∀(l:List (Nat×Nat)) (m:List (Str×aG)),(∀p∈l,π p.2=p.2/\p.2<σ2.next)->aO (λ(p:Nat×Nat) (q:Str×aG)=>q.1=nm p.1/\q.2=Y p.2/\p.2<U.next) l m->aO (λ(p:Nat×Nat) (q:Str×aG)=>q.1=nm p.1/\q.2=Y (π p.2)/\p.2<σ2.next) l m:=by
   intro l m hl h;induction h with
   |nil=>exact .nil
   |cons h _ ih=>refine .cons ⟨h.1,?_,(hl _ (.head _)).2⟩ (ih λp hp=>hl p (.tail _ hp));rw[(hl _ (.head _)).1];exact h.2.1
  exact this _ _ hc n7
 ·rcases List.mem_cons.mp he with rfl|he
  ·refine aV hns λo ho hi=>?_;try clear hns
   refine⟨cx.loc,o,ho,hi,?_⟩;rw[n6.1]at hL
   (injection hL with hL;subst hL)
   show Y (π cx.loc)=_;rw[hl.1,hf]
  ·rcases List.mem_cons.mp he with rfl|he
   ·exact h1 L hL
   ·cases he
 ·rw[et]at rM;exact⟨(ht t rM).2,by rw[(ht t rM).1];exact(f7 t rM).2⟩
 ·rw[hT]at h;refine cU (S.T tb h) λa1 a2 a3=>?_;have hm:=ht tb (hTm tb h);exact⟨hm.2,by rw[eq];exact a2,by rw[e0];show∃c,env.code=_/\CodeHd W.h0_ c (Y (π tb));rw[hm.1];exact a3⟩
theorem YV(O:Okd W C g)(N:bL W C g ih){fa:aG}{es:List aS}{cs:List CE}{pos:Pos}{Q:ay->aE->Prop}(S:aZ W C d A sc cx env U Y s)(hc:bB (cE g f sc) es=aa cs)
  {P:List AV->ES->Prop} (h:RW (ia ih d cx cs U) P) (hm:C.may fa=ah) (k:∀{vs σ1 bF s1 b1},P vs σ1->aZ W C d A sc cx env σ1 bF s1->Ext W U.st Y s.heap σ1.st bF s1.heap->aO (VR W σ1.next bF) vs b1->aC (model W.prog W.w) A (call (.ref fa) b1) Q E s1):
  aC (model W.prog W.w) A (callWith pos (.ref fa) [] (backTo pos (starEach es env)) []) Q E s:=by
 refine Fg (P:=wu W (.ref fa)) (by rw[vK hc];rfl) BQ (BR hc (wg N hc S (RW.pr h λvs σ1 bF s1 b1 p R1 X1 V1=>?_)));exact⟨MT O (fv:=.adr fa) R1 rfl hm,k p (S.ext R1 X1) X1 V1⟩
end
end
end Mine
end
section
namespace Mine
open PySem
section
variable{C:EC}{FL:Ev->Nat->List AV->ES->R Out}{n d:Nat}{cx:CX}{U:ES}
theorem YF{I:Type}{r:R I}{k:I->ES->R Out}{P:Flow->ES->Prop}(h:RW (jk (bindR r k)) P):RW r λa U=>RW (jk (k a U)) P:=by
 induction r with
 |ok a U=>exact h
 |exc x U=>exact h
 |alt a b dh dj=>exact⟨dh h.1,dj h.2⟩
 |stuck=>exact h
theorem QT{rest:List CS}{P:Flow->ES->Prop}:∀(pre:List CS) {n:Nat} {U:ES},RW (cH (ev C FL (n+pre.length)) d (.s cx pre) U) (λf σ2=>f= .next/\RW (cH (ev C FL n) d (.s cx rest) σ2) P)->RW (cH (ev C FL (n+pre.length)) d (.s cx (pre++rest)) U) P
 | [],0,U,h=>h.elim
 | [],n+1,U,h=>h.2
 |s::l,n,U,h=>by
  refine bW ?_;have h2:=YF (r:=kr C (ev C FL (n+l.length)) d cx s U) h;refine h2.mono λf σ1 z=>?_;cases f with
  |next=>exact QT l z
  |cont=>exact absurd z.1 nofun
  |brk=>exact absurd z.1 nofun
  |ret v=>exact absurd z.1 nofun
end
noncomputable def zG:List (AK×AV):=[(.str [79,98,106,101,99,116],.ref 1019),(.str [66,97,115,105,99,79,98,106,101,99,116],.ref 1032),(.str [67,108,97,115,115],.ref 1045),(.str [77,111,100,117,108,101],.ref 1058),(.str [75,101,114,110,101,108],.ref 1091)]
noncomputable def uz:List (AK×AV):=zG++[(.str [65,114,114,97,121],.ref 1129),(.str [69,110,117,109,101,114,97,98,108,101],.ref 1148)]
noncomputable def sq:List (Nat×AO):=[(931,.tab []),(936,.tab []),(943,.tab []),(948,.tab [])]
noncomputable def l3(lg:Bool):List (Nat×AO):=sq++[(1000,.ns [(fO,.top),(jF,.bool lg),(aJ,.ref 1006),(bM,.ref 1002)]),(1002,.gw 1003 0),(1003,.gZ 0),
 (1004,.dict []),(1005,.ns (mL (.lit 6))),(1006,.inst 889 1005),(1008,.dict []),(1010,.dict zG)]
noncomputable def S3(lg:Bool):ES:=⟨jl (l3 lg),1115⟩
noncomputable def Wb(lg:Bool)(wm:Nat):ES:=(((((S3 lg).add (.ns [])).2.add (.cell af)).2.put 1115 (.ns [(aJ,.ref 1006)])).put 1116 (.cell (aa (.ref 1002)))).put 1115 (.ns [(aJ,.ref 1006),(iU,.int (.lit (.ofNat (wm+1))))])
noncomputable def DZ:List CS:=match zd.body with
 |s::t::_=>[s,t]
 |_=>[]
noncomputable def shT:List CS:=match zd.body with
 |_::_::l=>l
 |_=>[]
noncomputable def Se:CX:=⟨1115,1115,[(bM,1116)],929⟩
noncomputable def Ke(re:List Nat)(ct:Nat)(lg:Bool)(wm:Nat):R Flow:=cH (ev (C0 re ct) gK 6999) 39 (.s Se DZ) (Wb lg wm)
noncomputable def ahM(r:R Flow):ES:=match r with
 | .ok _ U=>U
 |_=>⟨.nil,0⟩
noncomputable def Kq(re:List Nat)(ct:Nat)(lg:Bool)(wm:Nat):ES:=ahM (Ke re ct lg wm)
structure ShF(re:List Nat)(ct:Nat)(lg:Bool)(wm:Nat)(U:ES):Prop where
 nx:U.next=1170
 q:U.get 1115=aa (.ns [(aJ,.ref 1006),(iU,.int (.lit (.ofNat (wm+1)))),(cY,.ref 1165),(bf,.ref 1119)])
 cc:U.get 1116=aa (.cell (aa (.ref 1002)))
 li:U.get 1119=aa (.list [.int (.lit (.ofNat (dG re ct 0 % 9))),.int (.lit (.ofNat (dG re ct 1 % 9)))])
 l:U.get 1163=aa (.list [.int (.lit (.ofNat (dG re ct 0 % 9))),.int (.lit (.ofNat (dG re ct 1 % 9)))])
 d:U.get 1164=aa (.ns (Ct (.int (.lit 7)) (.ref 1129) 1168++[(bf,.ref 1163)]))
 x:U.get 1165=aa (.inst 82 1164)
 wn:U.get 1005=aa (.ns (mL (.lit 9)))
 w:U.get 1006=aa (.inst 889 1005)
 md:U.get 1010=aa (.dict uz)
 b:U.get 1002=aa (.gw 1003 2)
 bl:U.get 1003=aa (.gZ 2)
 tabs:U.get 931=aa (.tab [])/\U.get 936=aa (.tab [])/\U.get 943=aa (.tab [])/\U.get 948=aa (.tab [])
 law:U.get 1000=aa (.ns [(fO,.top),(jF,.bool lg),(aJ,.ref 1006),(bM,.ref 1002)])
 nat:U.get 1004=aa (.dict [])
 rE:U.get 1008=aa (.dict [])
theorem ae5(re:List Nat)(ct:Nat)(lg:Bool)(wm:Nat):Ke re ct lg wm= .ok .next (Kq re ct lg wm)/\ShF re ct lg wm (Kq re ct lg wm):=by
 refine⟨?_,?_,?_,?_,?_,?_,?_,?_,?_,?_,?_,?_,?_,⟨?_,?_,?_,?_⟩,?_,?_,?_⟩
 all_goals kernel_rfl
section
variable{re:List Nat}{ct wm:Nat}{lg:Bool}
structure mJ(lg:Bool)(U:ES):Prop where
 md:U.get 1010=aa (.dict uz)
 t1:U.get 931=aa (.tab [])
 t2:U.get 936=aa (.tab [])
 t3:U.get 943=aa (.tab [])
 t4:U.get 948=aa (.tab [])
 law:U.get 1000=aa (.ns [(fO,.top),(jF,.bool lg),(aJ,.ref 1006),(bM,.ref 1002)])
 nat:U.get 1004=aa (.dict [])
 rE:U.get 1008=aa (.dict [])
theorem mJ.keep{U σ':ES}(h:mJ lg U)(k:∀y,y<1115->y≠1005->y≠1002->y≠1003->σ'.get y=U.get y):mJ lg σ':=
 ⟨(k _ (by decide) (by decide) (by decide) (by decide)).trans h.md,(k _ (by decide) (by decide) (by decide) (by decide)).trans h.t1,(k _ (by decide) (by decide) (by decide) (by decide)).trans h.t2,(k _ (by decide) (by decide) (by decide) (by decide)).trans h.t3,
 (k _ (by decide) (by decide) (by decide) (by decide)).trans h.t4,(k _ (by decide) (by decide) (by decide) (by decide)).trans h.law,(k _ (by decide) (by decide) (by decide) (by decide)).trans h.nat,(k _ (by decide) (by decide) (by decide) (by decide)).trans h.rE⟩
theorem afe:(C0 re ct).fn 929=aa zd:=by kernel_rfl
theorem adX:(C0 re ct).may 929=ah:=by kernel_rfl
theorem acj:findD (.str [65,114,114,97,121]) uz=aa (aa (.ref 1129)):=by kernel_rfl
theorem afN{C:EC}{i:Int}{U:ES}:jv C .Eq (.int (.lit i)) (.int (.lit i)) U=aa ah:=by show aa (iP i i)=_;rw[kq,decide_eq_true rfl]
inductive Ku(lg:Bool)(σ':ES):Prop
 |mk (c':Int) (j':Nat) (W:di σ' 1006 1005 1010 1129 c') (h1:9<=c') (h2:c'<=29) (B:dY σ' 1002 1003 j') (h3:j'<=10) (h4:1170<=σ'.next) (h5:σ'.next<=100000) (h6:mJ lg σ'):Ku lg σ'
structure SHp(lg:Bool)(v:AV)(σ':ES):Prop where
 e:v= .bool ah
 p:Ku lg σ'
theorem Zp(hw:wm<=6):
  RW (dW (ev (C0 re ct) gK 7000) 40 (.adr 929) [.ref 1006,.ref 1002,.int (.lit (.ofNat (wm+1)))] (S3 lg)) (SHp lg):=by
 refine Qj (kc:=bM) afe rfl rfl rfl rfl rfl rfl (show 1115+1<1000000000 by decide) ?_;show RW (cH (ev (C0 re ct) gK (6997+DZ.length)) 39 (.s Se (DZ++shT)) (Wb lg wm)) _;refine QT DZ ?_;show RW (Ke re ct lg wm) _;obtain⟨e0,F⟩:=ae5 re ct lg wm;rw[e0];refine⟨rfl,?_⟩;generalize Kq re ct lg wm=U at F;have nx:=F.nx;have B0:dY U 1002 1003 2:=⟨F.b,F.bl,by exact⟨lD (oQ nx) rfl,lD (oQ nx) rfl⟩⟩;have rm:(1000000000:Nat)=room:=rfl;refine bW (Gx (dc (cI (aW (jt (cM (dc (cI (aW (wB (c:=1116) rfl F.cc (aW (aP F.q rfl (bG ⟨show iE (C0 re ct) (.adr 905) U=ah from uf,tY (w:=wm) B0 (by decide) (cX (aT (xB nx) (AP rm)) rfl) λv σ2 hv B2 n2 f2=>?_⟩)))))))))))));refine dB (Co (C:=(C0 re ct)) (U:=σ2) (i:=.ofNat (1+v)) (by show(-1000000000000:Int)<((1+v:Nat):Int);exact Q8) (by show((1+v:Nat):Int)<1000000000000;exact QO hw hv) (aA (aT (aD n2) (aT (xB nx) (AP rm))) rfl)) λr3 σ3 e3 u3=>?_;have h3:=u3.nm;have n3:=u3.nx;refine dB (Cr (C:=(C0 re ct)) u3.self (by show(-1000000000000:Int)<((1+v:Nat):Int);exact Q8) (by show((1+v:Nat):Int)<1000000000000;exact QO hw hv) (aA (aT (aL n3) (aT (aD n2) (aT (xB nx) (AP rm)))) rfl)) λit bA e4 u4=>?_;have h4:=u4.nm;have n4:=u4.nx;have bg:=aT (oQ nx) (aT (ao n2) (aT (au n3) (au n4)));refine⟨.int (.lit (.ofNat (1+v))),σ2,IV,bG ⟨rfl,sA e3 ⟨it,bA,e4,?_⟩⟩⟩;have qx:∀y,y<1170->y≠1002->y≠1003->bA.get y=U.get y:=λy hy h1 h2=>by rw[u4.fr y (aB (aT (eX hy) (aT (oQ nx) (aT (ao n2) (aT (au n3) (ao h4))))) rfl),u3.fr y (aB (aT (eX hy) (aT (oQ nx) (aT (ao n2) (ao h3)))) rfl),f2 y h1 h2]
 have W4:di bA 1006 1005 1010 1129 9:=⟨⟨mL (.lit 9),uz,(qx _ (by decide) (by decide) (by decide)).trans F.w,(qx _ (by decide) (by decide) (by decide)).trans F.wn,rfl,rfl,by decide,rfl,rfl,rfl,rfl,(qx _ (by decide) (by decide) (by decide)).trans F.md,acj,rfl⟩,by exact⟨lD bg rfl,lD bg rfl,lD bg rfl⟩⟩;have B4:dY bA 1002 1003 3:=B2.keep (aR (aT (au n3) (au n4)) rfl) (by rw[u4.fr _ (aju nx n2 n3 h4),u3.fr _ (afW h3 n3 n4 bg)]) (by rw[u4.fr _ (aiz nx n2 n3 h4),u3.fr _ (af7 h3 n3 n4 bg)]);have H4:LS 1006 1005 1010 1129 1002 1003 1115 1116 1119 bA _ 1165 7 (cK [dG re ct 0 % 9,dG re ct 1 % 9]) [dG re ct 0 % 9,dG re ct 1 % 9] 2 3 9:=
  ⟨(qx _ (by decide) (by decide) (by decide)).trans F.q,rfl,rfl,rfl,rfl,(qx _ (by decide) (by decide) (by decide)).trans F.cc,(qx _ (by decide) (by decide) (by decide)).trans F.li,
   ⟨1164,1168,1163,⟨(qx _ (by decide) (by decide) (by decide)).trans F.x,(qx _ (by decide) (by decide) (by decide)).trans F.d⟩,(qx _ (by decide) (by decide) (by decide)).trans F.l,by exact lD bg rfl,by exact lD bg rfl,by exact lD bg rfl⟩,
   λh st hs=>CM BU,λy hy=>.inl (BU y hy),by decide,W4,B4,by decide,by exact⟨lD bg rfl,lD bg rfl,lD bg rfl⟩,⟨by show 2<=3;decide,by show 2<=2;decide⟩⟩
 have Y4:mJ lg bA:=by have k:∀y,y<1115->y≠1005->y≠1002->y≠1003->bA.get y=U.get y:=λy h1 _ h3 h4=>qx y (kH (eX h1) rfl) h3 h4;exact mJ.keep ⟨F.md,F.tabs.1,F.tabs.2.1,F.tabs.2.2.1,F.tabs.2.2.2,F.law,F.nat,F.rE⟩ k
 have hp:2 ^ (1+v)<=2 ^ 7:=Nat.pow_le_pow_right (by decide) (ahK hw hv);refine Yk (re:=re) (ct:=ct) (m:=6936-(1+v)) (d:=33) (stop:=1+v) (1+v) (i:=0) (agm) (ai4 hw hv) H4 u4.self (aA (aT (aD h4) (au n4)) rfl) (JA (aT (oQ nx) (aT (ao n2) (aT (au n3) (ao h4)))) rfl) (.inr (aeI)) (agp hp) (agh hw hv) (aii hw nx rm hv n2 n3 n4) λbT nG x5 Ad TR D7 sU k5 j5 c5 H5 Un sS cl5 cg5 jl5 jg5 sL Au fr5=>?_;have nQ:=H5.lt;have Y5:mJ lg bT:=Y4.keep λy h1 h2 h3 z4=>fr5 y (ag6 bg h1) (iJ h1) (af3 h4 n4 bg h1) h2 h3 z4;refine Ot (bW (ku (eV (λ_ _ _ _ _=>rfl) (gf (iL (dc (cI (aW (aP H5.gq H5.A8 (aW (aP H5.gq H5.w7 (aW (iC (aW (qY (bG ⟨rfl,by exact ajd hw nx rm hv n2 n3 n4 Au,λa6 fz u6=>?_⟩))))))))))))))));have h6:=u6.nm;have n6:=u6.nx;have Jx:Kp bT.next bT fz:=u6.kp (cN _)
 have T6:=H5.T.keep Jx (show bT.next<=fz.next by exact aR (au n6) rfl);have O6:dN fz.next fz (-1) 1 [Ad] TR (cK D7) k5:=(H5.S 1 [Ad] (λs hs=>by rcases List.mem_cons.mp hs with rfl|hs;exact yj _;cases hs)).imp λ_ _ _ z=>z.keep Jx (aR (au n6) rfl)
 have U5:=H5.sz;refine bG ⟨show iE (C0 re ct) (.adr 505) fz=ah from Hx,(EK (m:=6911- k5) (d:=32) (ajp sS) u6.self (aA (aT (aD h6) (au n6)) rfl) (.inr (.inl ⟨rfl,rfl⟩)) T6.th (H5.W.new u6) O6 (cL (cC U5.1) rfl) (cL (UG sS) rfl) (aiI hw nx rm hv n2 n3 n4 sS Au n6)).mono λv7 dP z=>?_⟩;obtain⟨x7,Em,U3,l7,dQ,t7,y7,W7,z1,z2,z3,z4,z5,z6,g7⟩:=z;subst dQ;have a7:=g7.le;have b7:=g7.ge;have qu:∀y,y<bT.next->y≠1005->dP.get y=bT.get y:=λy hy h=>by rw[g7.fr y (aA (aT (aq hy) (au n6)) rfl) h,u6.fr y (aB (aT (aq hy) (ao h6)) rfl)]
 have q7:=(qu 1115 (lD (uV nQ.2.1) rfl) (by decide)).trans H5.gq;have AB:sU≠1005:=by obtain⟨uH,mk,g1,g2,_⟩:=H5.W.ex;exact bx H5.gi g2 nofun
 have VL:=(qu sU (aA (aq nQ.2.2) rfl) AB).trans H5.gi;refine⟨x7,82,Em,_,_,rfl,t7.x,fM (sym:=gv re ct),ng (sym:=gv re ct),t7.d,rfl,rfl,aP q7 H5.AY ⟨ak,by show(fG dP 8 (.ref l7) (.ref sU)).map (!·)=_;rw[CC y7 VL vN];rfl,ak,rfl,qh ?_⟩⟩;have kp7:Kp bT.next bT dP:=Jx.trans (g7.kp (aR (au n6) rfl) (H5.W.new u6).nt)
 have B7:dY dP 1002 1003 j5:=H5.B.keep (aR (aT (au n6) (aM a7)) rfl) (qu _ (lD (uV nQ.2.1) rfl) (by decide)) (qu _ (lD (uV nQ.2.1) rfl) (by decide));refine bW (gV (dc (cI (aW (aP q7 H5.A8 (aW (aP q7 H5.w7 (aW (iC (bG ⟨rfl,by exact aia hw nx rm hv n2 n3 n4 sS Au n6 b7,λa8 dR u8=>?_⟩))))))))));have h8:=u8.nm;have n8:=u8.nx;have bY:=aT (au n6) (aT (aM a7) (au n8));have JR:Kp bT.next bT dR:=kp7.trans (u8.kp (aR (aT (au n6) (aM a7)) rfl))
 refine qU ((H5.T.keep JR (cN _)).ex) λdd fd lx t8 xu VD Kg fy=>?_;have O8:dN dR.next dR (-1) 1 [Ad] TR (cK D7) k5:=(H5.S 1 [Ad] (λs hs=>by rcases List.mem_cons.mp hs with rfl|hs;exact yj _;cases hs)).imp λ_ _ _ z=>z.keep JR (aR bY rfl)
 have W8:=W7.new u8;refine bG ⟨show iE (C0 re ct) (.adr 510) dR=ah from adW,(abu (m:=6903- k5) (d:=31) (akc sS) W8 u8.self (aA (aT (aD h8) (au n8)) rfl) t8 xu (aA (aT (aq VD) bY) rfl) (aA (aT (aq Kg) bY) rfl) (aA (aT (aq fy) bY) rfl) (λx hx=>(H5.F x hx).QF JR (aR bY rfl)) Un O8 (cL (cC U5.1) rfl) (cL (UG sS) rfl) (aj9 hw nx rm hv n2 n3 n4 sS Au n6 b7 n8)).mono λv9 i0 z=>?_⟩;obtain⟨ig,l9,W9,V0,ge9,nM⟩:=z;subst ig;have q8:=u8.get (aiX nQ n6 a7 h8) q7;have DQ:=u8.get (aB (aT (aq nQ.2.2) (aT (au n6) (aT (aM a7) (ao h8)))) rfl) VL;have VJ:1115≠lx:=bx q8 xu nofun
 have aiK:sU≠lx:=λe=>by rw[e,xu]at DQ;cases DQ;refine Un (List.filter_eq_nil_iff.mpr λa ha=>?_);obtain⟨i,rfl⟩:=vN a ha;exact nofun
 have q9:=(nM 1115 (lD (aT (uV nQ.2.1) bY) rfl) VJ).trans q8;refine qo q9 λcz dM=>?_;have kJ:=dM.nx;have mT:cz.get 1115=aa (.ns (putN nG vz (.ref x5))):=dM.self;have QG:bN (putN nG vz (.ref x5)) cY=aa (.ref x5):=(dJ (by decide) _).trans H5.w7;have afg:bN (putN nG vz (.ref x5)) bf=aa (.ref sU):=(dJ (by decide) _).trans H5.AY;have ag2:bN (putN nG vz (.ref x5)) vz=aa (.ref x5):=gF _ _ _;have nxl:x5≠lx:=bx t8.x xu nofun
 have ndl:dd≠lx:=bx t8.d xu nofun
 have nxq:x5≠1115:=bx t8.x q8 nofun
 have ndq:dd≠1115:=λe=>by have:=t8.d;rw[e,q8]at this;injection aX this with ek;exact lV (a:=AV.int (.lit Ad)) ((congrArg (bN · bR) ek).symm.trans H5.uO)
 have JU:cz.get x5=_:=(dM.fr x5 nxq).trans ((nM x5 (aA (aT (aq VD) bY) rfl) nxl).trans t8.x);have Jw:cz.get dd=_:=(dM.fr dd ndq).trans ((nM dd (aA (aT (aq Kg) bY) rfl) ndl).trans t8.d);have nlq:lx≠1115:=VJ.symm;have UQ:=dM.get nlq l9;have ajP:cz.get sU=_:=(dM.fr sU (bx DQ q8 nofun)).trans ((nM sU (aA (aT (aq nQ.2.2) bY) rfl) aiK).trans DQ);refine bW (kU (HH (gf (iL (aP mT QG ⟨x5,82,dd,_,_,rfl,JU,fM (sym:=gv re ct),ng (sym:=gv re ct),Jw,rfl,rfl,aP mT afg ⟨ah,CC UQ ajP vN,ah,rfl,λ_=>?_,nofun⟩⟩)))));refine gf (iL (aP mT ag2 ⟨x5,82,dd,_,_,rfl,JU,fM (sym:=gv re ct),tU (sym:=gv re ct),Jw,rfl,rfl,iL (aP mT QG ⟨x5,82,dd,_,_,rfl,JU,fM (sym:=gv re ct),tU (sym:=gv re ct),Jw,rfl,rfl,⟨ah,afN,?_⟩⟩)⟩));have nsl:∀y p,dR.get y=aa p->(∀xs,p≠ .list xs)->y≠lx:=λy p h1 h2=>bx h1 xu (h2 _);have old:∀y p,y<1115->y≠1005->bT.get y=aa p->(∀xs,p≠ .list xs)->cz.get y=aa p:=λy p h1 h2 h3 h4=>by have e8:dR.get y=aa p:=(u8.get (aB (aT (eX h1) (aT (uV nQ.2.1) (aT (au n6) (aT (aM a7) (ao h8))))) rfl) ((qu y (aA (aT (eX h1) (uV nQ.2.1)) rfl) h2).trans h3));rw[dM.fr y (show y≠1115 by exact AR (eX h1) rfl),nM y (aA (aT (eX h1) (aT (uV nQ.2.1) bY)) rfl) (nsl y p e8 h4)];exact e8
 refine jB (id W9.ex) λuH mk ak6=>?_;have W10:=W9.upd dM (by show 1115≠1006/\1115≠1005/\1115≠1010;decide);refine lQ (kP ⟨rfl,_,j5,W10,by exact EV cl5,by exact ajS hw hv cg5,⟨old _ _ (agj) (ahx) H5.B.gb nofun,old _ _ (agJ) (afr) H5.B.gl nofun,by exact ae4 nQ bY V0 kJ⟩,by exact aka hw hv jg5,by exact agW bg sL bY V0 kJ,by exact ah9 hw nx hv n2 n3 n4 sS Au n6 b7 n8 ge9 kJ,?_⟩);exact⟨old _ _ (by decide) (by decide) Y5.md nofun,old _ _ (by decide) (by decide) Y5.t1 nofun,old _ _ (by decide) (by decide) Y5.t2 nofun,old _ _ (by decide) (by decide) Y5.t3 nofun,old _ _ (by decide) (by decide) Y5.t4 nofun,old _ _ (by decide) (by decide) Y5.law nofun,old _ _ (by decide) (by decide) Y5.nat nofun,old _ _ (by decide) (by decide) Y5.rE nofun⟩
end
section
variable{re:List Nat}{ct:Nat}{lg:Bool}
noncomputable def fD:CX:=⟨1000,1000,[],958⟩
noncomputable def Jb:CS:=.iff (.iZ (.dU (.call (.az (.adr 929)) [.loc aJ,.loc bM,.ite (.loc jF) (.int 7) (.int 2)]))
  (.dU (.call (.az (.adr 924)) [.loc aJ,.loc bM,.sub (.list [.int 9,.int 1100]) (.call (.az (.ty 4)) [.gu (.loc jF) (.cmp (.call (.az (.adr 905)) [.loc bM,.int 3]) .Eq (.int 2))])]))) [.ret (.tt ak)] []
structure wW(lg:Bool)(U:ES):Prop where
 ex:∃c j,di U 1006 1005 1010 1129 c/\dY U 1002 1003 j/\j<=40
 nx:1170<=U.next
 st:mJ lg U
theorem abz:RW (kr (C0 re ct) (ev (C0 re ct) gK 7004) 40 fD Jb (S3 lg)) λf σ'=>f= .next/\wW lg σ':=by
 have rm:(1000000000:Nat)=room:=rfl;have q0:(S3 lg).get fD.loc=aa (.ns [(fO,.top),(jF,.bool lg),(aJ,.ref 1006),(bM,.ref 1002)]):=by kernel_rfl
 have fin:∀{σ3:ES} {wm j3:Nat} {c:Int},wm<1100->di σ3 1006 1005 1010 1129 c->c<=29->dY σ3 1002 1003 j3->j3<=20->1170<=σ3.next->σ3.next<=200000->mJ lg σ3->
   RW (dW (ev (C0 re ct) gK 7000) 40 (.adr 924) [.ref 1006,.ref 1002,.int (.lit (.ofNat (wm+1)))] σ3) λv bA=>v= .bool ah/\wW lg bA:=by
  intro σ3 wm j3 c h1 W hc B hj n1 n2 ak8;refine(Xn (n:=1000) (d:=28) W B (agg hj) h1 (ahm hc) (agT rm n2)).mono λv bA z=>?_;obtain⟨rfl,c',j',W4,_,_,B4,_,_,g⟩:=z;have a4:=g.le;exact⟨rfl,⟨c',j',W4,B4,by exact ahu hj (by assumption)⟩,by exact xx (aT (rI n1) (aM a4)) rfl,ak8.keep λy h1 h2 h3 h4=>g.fr y (aA (aT (eX h1) (rI n1)) rfl) (lU (h2) (lU (h3) (h4)))⟩
 have sec:∀{σ1:ES},Ku lg σ1->
   RW (fK (ev (C0 re ct) gK 7003) 40 fD (.dU (.call (.az (.adr 924)) [.loc aJ,.loc bM,.sub (.list [.int 9,.int 1100]) (.call (.az (.ty 4)) [.gu (.loc jF) (.cmp (.call (.az (.adr 905)) [.loc bM,.int 3]) .Eq (.int 2))])])) σ1) λt bA=>t=ak/\wW lg bA:=by
  rintro σ1 ⟨c',j',W1,c1,c2,B1,hj,n1,n2,Y1⟩;have l1:σ1.get fD.loc=_:=Y1.law;refine uA (eV (λ_ _ _ _ _=>rfl) (dc (cI (aW (aP l1 rfl (aW (aP l1 rfl (aW (kD (iC (aW (cM (aW (cM (bG ⟨rfl,by exact aA (aT (cC n2) (AP rm)) rfl,λx2 σ2 u2=>?_⟩)))))))))))))));have h2:=u2.nm;have e2:=u2.nx;have l2:σ2.get fD.loc=_:=u2.get (show 1000≠x2 by exact ajf n1 h2) Y1.law;have W2:=W1.new u2;have B2:=B1.new u2;have Y2:mJ lg σ2:=Y1.keep λy h1 _ _ _=>u2.fr y (aB (aT (eX h1) (aT (rI n1) (ao h2))) rfl);have out:∀{σ3:ES} {wm j3:Nat} {v:AV},v= .int (.lit (.ofNat (wm+1)))->wm<1100->di σ3 1006 1005 1010 1129 c'->dY σ3 1002 1003 j3->j3<=20->1170<=σ3.next->σ3.next<=200000->mJ lg σ3->
    RW (ia (ev (C0 re ct) gK 7000) 40 fD [] σ3) (λvs bA=>iE (C0 re ct) (.adr 924) bA=ah/\RW (dW (ev (C0 re ct) gK 7000) 40 (.adr 924) (.ref 1006:: .ref 1002::v::vs) bA) λv bT=>Sm (mE v) λt=>(λt fz=>(!t)=ak/\wW lg fz) t bT):=by
   intro σ3 wm j3 v hv h1 W B hj n1 n2 ak8;subst hv;refine bG ⟨by kernel_rfl,(fin h1 W c2 B hj n1 n2 ak8).mono λv bT z=>?_⟩;obtain⟨rfl,z⟩:=z;exact⟨ah,rfl,rfl,z⟩
  refine dc (cI (aW (HH (aP l2 rfl ⟨lg,rfl,λh=>?_,λh=>?_⟩))))
  ·refine gf (dc (cI (aW (aP l2 rfl (aW (cM (bG ⟨show iE (C0 re ct) (.adr 905) σ2=ah from uf,tY (w:=2) B2 (kH (cC hj) rfl) (cX (aT (aL e2) (aT (cC n2) (AP rm))) rfl) λv σ3 hv B3 n3 f3=>cM ⟨_,Dd (j:=2),?_⟩⟩)))))));have W3:=W2.sQ B2 (aR (ao n3) rfl) f3;have Y3:mJ lg σ3:=Y2.keep λy h1 h2 h3 h4=>f3 y h3 h4;have x3:σ3.get x2=_:=(f3 x2 (JA (aT (rI n1) (ao h2)) rfl) (JA (aT (rI n1) (ao h2)) rfl)).trans u2.self
   by_cases hv2:v=2
   ·rw[decide_eq_true hv2];exact bG ⟨rfl,sA (v:=.int (.lit 1)) (σ1:=σ3) rfl ⟨_,_,pT (i:=1) x3 rfl (by decide),out (wm:=1099) rfl (by decide) W3 B3 (qp (cC hj) rfl) (xx (aT (rI n1) (aT (au e2) (ao n3))) rfl) (cL (aT (aD n3) (aT (aL e2) (cC n2))) rfl) Y3⟩⟩
   ·rw[decide_eq_false hv2];exact bG ⟨rfl,sA (v:=.int (.lit 0)) (σ1:=σ3) rfl ⟨_,_,pT (i:=0) x3 rfl (by decide),out (wm:=8) rfl (by decide) W3 B3 (qp (cC hj) rfl) (xx (aT (rI n1) (aT (au e2) (ao n3))) rfl) (cL (aT (aD n3) (aT (aL e2) (cC n2))) rfl) Y3⟩⟩
  ·subst h;exact bG ⟨rfl,sA (v:=.int (.lit 0)) (σ1:=σ2) rfl ⟨_,_,pT (i:=0) u2.self rfl (by decide),out (wm:=8) rfl (by decide) W2 B2 (cL (cC hj) rfl) (xx (aT (rI n1) (au e2)) rfl) (cL (aT (aL e2) (cC n2)) rfl) Y2⟩⟩
 refine ku (zP (uA (eV (λ_ _ _ _ _=>rfl) (dc (cI (aW (aP q0 rfl (aW (aP q0 rfl (aW (zD (eV (λ_ _ _ _ _=>rfl) (aP q0 rfl ⟨lg,rfl,?_⟩)))))))))))));have go:∀{wm:Nat} {v:AV},v= .int (.lit (.ofNat (wm+1)))->wm<=6->RW (ia (ev (C0 re ct) gK 7000) 40 fD [] (S3 lg)) λvs σ1=>iE (C0 re ct) (.adr 929) σ1=ah/\RW (dW (ev (C0 re ct) gK 7000) 40 (.adr 929) (.ref 1006:: .ref 1002::v::vs) σ1) λv σ2=>Sm (mE v) λt=>
   (((!t)=ah->RW (cH (ev (C0 re ct) gK 7004) 40 (.s fD (cond ah [.ret (.tt ak)] [])) σ2) λf σ'=>f= .next/\wW lg σ')/\((!t)=ak->RW (fK (ev (C0 re ct) gK 7003) 40 fD (.dU (.call (.az (.adr 924)) [.loc aJ,.loc bM,.sub (.list [.int 9,.int 1100]) (.call (.az (.ty 4)) [.gu (.loc jF) (.cmp (.call (.az (.adr 905)) [.loc bM,.int 3]) .Eq (.int 2))])])) σ2) λt σ1=>RW (cH (ev (C0 re ct) gK 7004) 40 (.s fD (cond t [.ret (.tt ak)] [])) σ1) λf σ'=>f= .next/\wW lg σ')):=by
  intro wm v hv hw;subst hv;refine bG ⟨show iE (C0 re ct) (.adr 929) (S3 lg)=ah from adX,(Zp hw).mono λv σ2 z=>?_⟩;obtain⟨rfl,z⟩:=z;refine⟨ah,rfl,nofun,λ_=>(sec z).mono λt bA z=>?_⟩;obtain⟨rfl,z⟩:=z;exact qh ⟨rfl,z⟩
 cases lg with
 |true=>exact cM (go (wm:=6) rfl (by decide))
 |false=>exact cM (go (wm:=1) rfl (by decide))
end
noncomputable def jf:AO:=.ns [(fO,.top),(jF,.top),(aJ,.ref 1006),(bM,.ref 1002)]
noncomputable def vX(a b c:List (Nat×Nat×Nat)):List (Nat×AO):=[(931,.tab a),(943,.tab b),(948,.tab c),(936,.tab [])]
noncomputable def HO(name:AV)(num:AV):AO:=.ns [(bR,num),(eg,.top),(mh,.top),(mC,.top),(kN,.top),(j0,.top),(cW,name),(iQ,.top),(iu,.top),(jq,.top),(pH,.top),(pD,.top),(nW,.top),(jE,.top),(jX,.top),(lI,.top),(pQ,.top)]
noncomputable def xw(tabs:List (Nat×AO))(made:List (AK×AV))(more:List (Nat×AO)):List (Nat×AO):=tabs++[(1000,jf),(1002,.gw 1003 0),(1003,.gZ 0),(1004,.dict []),(1005,.ns (mL (.var 7 0))),(1006,.inst 889 1005),(1008,.dict []),(1010,.dict made)]++more
noncomputable def Dc:List (Nat×AO):=[(1171,.inst 228 1172),(1172,HO (.str [65,114,103,117,109,101,110,116,69,114,114,111,114]) .top)]
noncomputable def RO:List (Nat×AO):=Dc++[(1182,.inst 228 1183),(1183,HO .top (.int (.var 8 0)))]
noncomputable def Ig:List (AK×AV):=uz++[(.str [65,114,103,117,109,101,110,116,69,114,114,111,114],.ref 1171),(.str [83,116,97,110,100,97,114,100,69,114,114,111,114],.ref 1173),(.str [69,120,99,101,112,116,105,111,110],.ref 1174),(.str [83,116,114,105,110,103],.ref 1175),(.str [67,111,109,112,97,114,97,98,108,101],.ref 1176)]
noncomputable def Ql:List (AK×AV):=Ig++[(.str [73,110,100,101,120,69,114,114,111,114],.ref 1181)]
noncomputable def PB:List (AK×AV):=Ig++[(.str [73,110,116,101,103,101,114],.ref 1182),(.str [78,117,109,101,114,105,99],.ref 1184),(.str [84,121,112,101,69,114,114,111,114],.ref 1185)]
noncomputable def t1:List (Nat×Nat×Nat):=[(727,20,1177),(729,20,1178)]
noncomputable def t2:List (Nat×Nat×Nat):=[(774,24,1179)]
noncomputable def t3:List (Nat×Nat×Nat):=[(777,30,1180)]
noncomputable def lA:List (Nat×AO):=xw (vX [] [] []) uz []
noncomputable def lB:List (Nat×AO):=xw (vX t1 [] []) Ig Dc
noncomputable def lX:List (Nat×AO):=xw (vX t1 t2 []) Ql Dc
noncomputable def lT:List (Nat×AO):=xw (vX t1 t2 []) PB RO
noncomputable def kG:List (Nat×AO):=xw (vX t1 t2 t3) Ql Dc
noncomputable def kL:List (Nat×AO):=xw (vX t1 t2 t3) PB RO
noncomputable def stN(l:List (Nat×AO)):ES:=⟨jl l,1190⟩
noncomputable def Iv(old new:AV):List (Nat×Nat):=match new,old with
 | .ref y,.ref x=>(match aH y x with
  |true=>[]
  |false=>[(y,x)])
 |_,_=>[]
noncomputable def Dt{I H γ:Type}(f:I->H->List γ):List I->List H->List γ
 |a::l,b::m=>f a b++Dt f l m
 |_,_=>[]
noncomputable def Su(y x:Nat):List (Nat×Nat):=match aH y x with
 |true=>[]
 |false=>[(y,x)]
noncomputable def Tf(old new:AO):List (Nat×Nat):=match new,old with
 | .dict ys,.dict xs=>Dt (λa b=>Iv b.2 a.2) ys xs
 | .inst _ y,.inst _ x=>Su y x
 | .tab ys,.tab xs=>Dt (λ(a b:Nat×Nat×Nat)=>Su a.2.2 b.2.2) ys xs
 |_,_=>[]
noncomputable def zO(U:ES):List (Nat×AO)->List (Nat×Nat)->List (Nat×Nat)
 | [],π=>π
 |p::l,π=>zO U l (match U.get (gO π p.1)with
  |some o=>Tf o p.2++π
  |none=>π)
noncomputable def lastOf(U:ES):Int:=match U.get 1005 with
 |some (.ns kvs)=>(match bN kvs kM with
  |some (.int (.var _ a))=>a
  |_=>0)
 |_=>0
noncomputable def xm(U:ES):Nat:=match U.get 1002 with
 |some (.gw _ j)=>j
 |_=>0
noncomputable def Td(U:ES):Option Int:=match U.get 1010 with
 |some (.dict kvs)=>(match findD (.str [73,110,116,101,103,101,114]) kvs with
  |some (aa (.ref x))=>(match U.get x with
   |some (.inst _ d)=>(match U.get d with
    |some (.ns kvs)=>(match bN kvs bR with
     |some (.int (.var k a))=>(match aH k 7 with
      |true=>aa a
      |false=>af)
     |_=>af)
    |_=>af)
   |_=>af)
  |_=>af)
 |_=>af
noncomputable def O9(π:List (Nat×Nat)):Bool:=[1000,931,936,943,948].all λt=>aH (gO π t) t
noncomputable def nH(l:List (Nat×AO))(U:ES):Bool:=match zO U l []with
 |π=>wI ⟨lastOf U,Td U⟩ π (xm U) 1190 U l&&O9 π&&fB (xm U) 100
noncomputable def Ei(a:AV):Bool:=@Option.rec Bool (λ_=>Bool) ak (λb=>b) (se a)
theorem RK{a:AV}(h:Ei a=ah):a= .bool ah:=by
 unfold Ei at h;cases e:se a with
 |none=>rw[e]at h;exact cB h
 |some b=>rw[e]at h;rw[FY e,show b=ah from h]
noncomputable def DF(o:Out):Bool:=@Out.rec (λ_=>Bool) Ei (λ_=>ak) (λ_=>ak) ak o
theorem OY{o:Out}:DF o=ah->o= .v (.bool ah):=@Out.rec (λo=>DF o=ah->o= .v (.bool ah)) (λ_ h=>congrArg Out.v (RK h)) (λ_ h=>cB h) (λ_ h=>cB h) (λh=>cB h) o
noncomputable def ql(l:List (Nat×AO))(o:Out)(U:ES):Bool:=DF o&&nH l U
noncomputable def ow(l l':List (Nat×AO))(o:Out)(U:ES):Bool:=DF o&&(nH l U||nH l' U)
noncomputable def lC(l:List (Nat×List Nat))(w j:Nat):Option (List Nat):=match l[j]? with
 |some p=>(match aH p.1 w with
  |true=>aa p.2
  |false=>af)
 |none=>af
noncomputable def iX(l:List (Nat×List Nat))(st:List (Nat×AO))(f:Nat)(more:List AV):R Out:=ev (br (lC l)) gK 3000 40 (.call (.adr f) ([.ref 1006,.ref 1002]++more)) (stN st)
theorem aaw:allR (ql lB) (iX [(2,[0]),(30,[0,1,2,3,4,5,6,7,8,9,10,11])] lA 934 [.int (.lit 30)])=ah:=by decide+kernel
theorem abh:allR (ql lB) (iX [(2,[0]),(30,[12,13,14,15,16,17,18,19,20])] lA 934 [.int (.lit 30)])=ah:=by decide+kernel
theorem aar:allR (ql lB) (iX [(2,[0]),(30,[21,22,23,24,25,26,27,28,29])] lA 934 [.int (.lit 30)])=ah:=by decide+kernel
theorem aam:allR (ql lB) (iX [(2,[1]),(30,[0,1,2,3,4,5,6,7,8,9,10,11])] lA 934 [.int (.lit 30)])=ah:=by decide+kernel
theorem aap:allR (ql lB) (iX [(2,[1]),(30,[12,13,14,15,16,17,18,19,20])] lA 934 [.int (.lit 30)])=ah:=by decide+kernel
theorem aa4:allR (ql lB) (iX [(2,[1]),(30,[21,22,23,24,25,26,27,28,29])] lA 934 [.int (.lit 30)])=ah:=by decide+kernel
theorem aaG:allR (ow lX lT) (iX [(3,[0]),(3,[0])] lB 946 [])=ah:=by decide+kernel
theorem aag:allR (ow lX lT) (iX [(3,[0]),(3,[1])] lB 946 [])=ah:=by decide+kernel
theorem abf:allR (ow lX lT) (iX [(3,[0]),(3,[2])] lB 946 [])=ah:=by decide+kernel
theorem aaD:allR (ow lX lT) (iX [(3,[1]),(3,[0])] lB 946 [])=ah:=by decide+kernel
theorem aaJ:allR (ow lX lT) (iX [(3,[1]),(3,[1])] lB 946 [])=ah:=by decide+kernel
theorem abe:allR (ow lX lT) (iX [(3,[1]),(3,[2])] lB 946 [])=ah:=by decide+kernel
theorem aaY:allR (ow lX lT) (iX [(3,[2]),(3,[0])] lB 946 [])=ah:=by decide+kernel
theorem aaP:allR (ow lX lT) (iX [(3,[2]),(3,[1])] lB 946 [])=ah:=by decide+kernel
theorem aal:allR (ow lX lT) (iX [(3,[2]),(3,[2])] lB 946 [])=ah:=by decide+kernel
theorem below_1:allR (ql kG) (iX [] lX 951 [])=ah:=by decide+kernel
theorem below_2:allR (ql kL) (iX [] lT 951 [])=ah:=by decide+kernel
noncomputable def Hj:List (Nat×Nat):=[(lK,1195),(fh,1194),(mj,1193),(lN,1192),(aJ,1191)]
noncomputable def AQ:CX:=⟨1190,1190,Hj,941⟩
noncomputable def Je:List CS:=nk.body.take 10
noncomputable def Dp:List CS:=nk.body.drop 10
noncomputable def Ka(l:List (Nat×AO)):Nat×ES:=(stN l).add (.ns [])
noncomputable def J2(l:List (Nat×AO)):List (Nat×Nat)×ES:=eN nk.cells [] (Ka l).2
noncomputable def bd9(l:List (Nat×AO)):Option ES:=bindAll AQ nk.cells nk.params [.ref 1006,.ref 1002] (J2 l).2
noncomputable def JD(l:List (Nat×AO)):ES:=match bd9 l with
 |some U=>U
 |none=>⟨.nil,0⟩
noncomputable def jT(dl:List (Nat×List Nat))(l:List (Nat×AO)):R Flow:=cH (ev (br (lC dl)) gK 3000) 39 (.s AQ Je) (JD l)
noncomputable def t4:List (Nat×Nat×Nat):=[(740,0,1197),(741,0,1198),(743,0,1199),(744,0,1200),(745,0,1201),(747,0,1202),(748,0,1203),(750,0,1204)]
noncomputable def Pf:List (AK×AV):=[(.str [79,98,106,101,99,116],.top),(.str [66,97,115,105,99,79,98,106,101,99,116],.top),(.str [67,108,97,115,115],.top),(.str [77,111,100,117,108,101],.top),(.str [75,101,114,110,101,108],.top),(.str [65,114,114,97,121],.ref 1129),(.str [69,110,117,109,101,114,97,98,108,101],.top),
 (.str [65,114,103,117,109,101,110,116,69,114,114,111,114],.ref 1171),(.str [83,116,97,110,100,97,114,100,69,114,114,111,114],.top),(.str [69,120,99,101,112,116,105,111,110],.top),(.str [83,116,114,105,110,103],.ref 1175),(.str [67,111,109,112,97,114,97,98,108,101],.top)]
noncomputable def afn(v:Bool):List (AK×AV):=match v with
 |false=>Pf++[(.str [73,110,100,101,120,69,114,114,111,114],.top),(.str [73,110,116,101,103,101,114],.top),(.str [78,117,109,101,114,105,99],.top),(.str [82,97,110,103,101],.top)]
 |true=>Pf++[(.str [73,110,116,101,103,101,114],.top),(.str [78,117,109,101,114,105,99],.top),(.str [84,121,112,101,69,114,114,111,114],.top),(.str [82,97,110,103,101],.top)]
noncomputable def lE(v:Bool)(wy:Nat):List (Nat×AO):=[(931,.tab t1),(943,.tab t2),(948,.tab t3),(936,.tab t4),(1000,jf),(1005,.ns (mL (.var 7 0))),(1006,.inst 889 1005),(1010,.dict (afn v)),
 (1171,.inst 228 1172),(1172,HO (.str [65,114,103,117,109,101,110,116,69,114,114,111,114]) .top),(1190,.ns [(bM,.top),(rU,.top),(tX,.top),(vG,.int (.lit 0)),(rZ,.int (.lit wy))]),
 (1191,.cell (aa (.ref 1006))),(1193,.cell (aa (.ref 1196))),(1196,.inst 82 1205),(1205,.ns [(bR,.top),(eg,.top),(mh,.top),(mC,.top),(kN,.bool ak),(j0,.top),(bf,.ref 1206)]),(1206,.rep 1 7)]
noncomputable def Ak(v:Bool)(wy:Nat):ES:=⟨jl (lE v wy),1210⟩
noncomputable def ahv(old new:AO):List (Nat×Nat):=match new,old with
 | .cell (aa y),.cell (aa x)=>Iv x y
 | .ns ys,.ns xs=>Dt (λ(a b:Nat×AV)=>Iv b.2 a.2) ys xs
 |_,_=>Tf old new
noncomputable def zH(U:ES):List (Nat×AO)->List (Nat×Nat)->List (Nat×Nat)
 | [],π=>π
 |p::l,π=>zH U l (match U.get (gO π p.1)with
  |some o=>ahv o p.2++π
  |none=>π)
noncomputable def Pc:List Nat:=[1000,931,936,943,948,1190,1191,1192,1193,1194,1195]
noncomputable def PX(π:List (Nat×Nat)):Bool:=Pc.all λt=>aH (gO π t) t
noncomputable def Jh(v:Bool)(wy:Nat)(U:ES):Bool:=match zH U (lE v wy) []with
 |π=>wI ⟨lastOf U,af⟩ π 0 1210 U (lE v wy)&&PX π
noncomputable def ji(v:Bool)(f:Flow)(U:ES):Bool:=match f with
 | .next=>Jh v 0 U||Jh v 1 U
 |_=>ak
noncomputable def z9(v:Bool)(wy:Nat):R Flow:=cH (ev (br (lC [])) gK 3000) 39 (.s AQ Dp) (Ak v wy)
noncomputable def zy(o:Option AO):Bool:=(o.bind zY).isSome
noncomputable def Kh(f:Flow):Bool:=@Flow.rec (λ_=>Bool) ak ak ak Ei f
theorem afE{f:Flow}:Kh f=ah->f= .ret (.bool ah):=@Flow.rec (λf=>Kh f=ah->f= .ret (.bool ah)) (λh=>cB h) (λh=>cB h) (λh=>cB h) (λ_ h=>congrArg Flow.ret (RK h)) f
noncomputable def uy(f:Flow)(U:ES):Bool:=Kh f&&(zy (U.get 931)&&zy (U.get 943)&&zy (U.get 948)&&zy (U.get 936))
theorem aak:allR uy (z9 ak 0)=ah:=by decide+kernel
theorem aaU:allR uy (z9 ak 1)=ah:=by decide+kernel
theorem aav:allR uy (z9 ah 0)=ah:=by decide+kernel
theorem abg:allR uy (z9 ah 1)=ah:=by decide+kernel
theorem Yx:allR (ji ak) (jT [(4,[0]),(2,[0]),(8,[0,1,2,3,4,5,6,7]),(2,[0,1])] kG)=ah:=by decide+kernel
theorem Yy:allR (ji ak) (jT [(4,[0]),(2,[1]),(8,[0,1,2,3,4,5,6,7]),(2,[0,1])] kG)=ah:=by decide+kernel
theorem Yw:allR (ji ak) (jT [(4,[1]),(2,[0]),(8,[0,1,2,3,4,5,6,7]),(2,[0,1])] kG)=ah:=by decide+kernel
theorem Yc:allR (ji ak) (jT [(4,[1]),(2,[1]),(8,[0,1,2,3,4,5,6,7]),(2,[0,1])] kG)=ah:=by decide+kernel
theorem XR:allR (ji ak) (jT [(4,[2]),(2,[0]),(8,[0,1,2,3,4,5,6,7]),(2,[0,1])] kG)=ah:=by decide+kernel
theorem YC:allR (ji ak) (jT [(4,[2]),(2,[1]),(8,[0,1,2,3,4,5,6,7]),(2,[0,1])] kG)=ah:=by decide+kernel
theorem X8:allR (ji ak) (jT [(4,[3]),(2,[0]),(8,[0,1,2,3,4,5,6,7]),(2,[0,1])] kG)=ah:=by decide+kernel
theorem Yt:allR (ji ak) (jT [(4,[3]),(2,[1]),(8,[0,1,2,3,4,5,6,7]),(2,[0,1])] kG)=ah:=by decide+kernel
theorem XW:allR (ji ah) (jT [(4,[0]),(2,[0]),(8,[0,1,2,3,4,5,6,7]),(2,[0,1])] kL)=ah:=by decide+kernel
theorem XZ:allR (ji ah) (jT [(4,[0]),(2,[1]),(8,[0,1,2,3,4,5,6,7]),(2,[0,1])] kL)=ah:=by decide+kernel
theorem Yq:allR (ji ah) (jT [(4,[1]),(2,[0]),(8,[0,1,2,3,4,5,6,7]),(2,[0,1])] kL)=ah:=by decide+kernel
theorem Yd:allR (ji ah) (jT [(4,[1]),(2,[1]),(8,[0,1,2,3,4,5,6,7]),(2,[0,1])] kL)=ah:=by decide+kernel
theorem XU:allR (ji ah) (jT [(4,[2]),(2,[0]),(8,[0,1,2,3,4,5,6,7]),(2,[0,1])] kL)=ah:=by decide+kernel
theorem Yp:allR (ji ah) (jT [(4,[2]),(2,[1]),(8,[0,1,2,3,4,5,6,7]),(2,[0,1])] kL)=ah:=by decide+kernel
theorem Yr:allR (ji ah) (jT [(4,[3]),(2,[0]),(8,[0,1,2,3,4,5,6,7]),(2,[0,1])] kL)=ah:=by decide+kernel
theorem Yl:allR (ji ah) (jT [(4,[3]),(2,[1]),(8,[0,1,2,3,4,5,6,7]),(2,[0,1])] kL)=ah:=by decide+kernel
noncomputable abbrev oY:Nat->Nat->Option (List Nat):=λ_ _=>af
noncomputable def Kr(w2:Nat):List (Nat×AO):=sq++[(1000,.ns [(fO,.adr w2)]),(1002,.gw 1003 0),(1003,.gZ 0)]
noncomputable def S1(w2:Nat):ES:=⟨jl (Kr w2),1004⟩
noncomputable def AH(w2:Nat):R AV:=bw (ev (CW oY) gK 3000) 40 fD (.call (.az (.adr 889)) [.dict []]) (S1 w2)
noncomputable def HN(r:R AV):ES:=match r with
 | .ok _ U=>U
 |_=>⟨.nil,0⟩
structure UN(w2:Nat)(U:ES):Prop where
 nx:U.next=1115
 t1:U.get 931=aa (.tab [])
 t2:U.get 936=aa (.tab [])
 t3:U.get 943=aa (.tab [])
 t4:U.get 948=aa (.tab [])
 law:U.get 1000=aa (.ns [(fO,.adr w2)])
 b:U.get 1002=aa (.gw 1003 0)
 bl:U.get 1003=aa (.gZ 0)
 nat:U.get 1004=aa (.dict [])
 wn:U.get 1005=aa (.ns (mL (.lit 6)))
 w:U.get 1006=aa (.inst 889 1005)
 rE:U.get 1008=aa (.dict [])
 md:U.get 1010=aa (.dict zG)
theorem agQ(w2:Nat):AH w2= .ok (.ref 1006) (HN (AH w2))/\UN w2 (HN (AH w2)):=by
 refine⟨?_,?_,?_,?_,?_,?_,?_,?_,?_,?_,?_,?_,?_,?_⟩
 all_goals kernel_rfl
noncomputable def Jv(w2:Nat):List (Nat×AO):=sq++[(1000,.ns [(fO,.adr w2)]),(1002,.gw 1003 0),(1003,.gZ 0),(1004,.dict []),(1005,.ns (mL (.lit 6))),(1006,.inst 889 1005),(1008,.dict []),(1010,.dict zG)]
noncomputable def S2(w2:Nat):ES:=⟨jl (Jv w2),1115⟩
noncomputable def Iq(lg:Bool):AO:=.tup [.ref 1002,.ref 1006,.bool lg]
noncomputable def DW(w2:Nat)(lg:Bool):Option ES:=storeAll fD [(jF,.bool lg),(aJ,.ref 1006),(bM,.ref 1002)] ((S2 w2).add (Iq lg)).2
noncomputable def Ib(r:Option ES):ES:=match r with
 |some U=>U
 |none=>⟨.nil,0⟩
structure U0(lg:Bool)(w2:Nat)(U:ES):Prop where
 nx:U.next=1116
 t1:U.get 931=aa (.tab [])
 t2:U.get 936=aa (.tab [])
 t3:U.get 943=aa (.tab [])
 t4:U.get 948=aa (.tab [])
 law:U.get 1000=aa (.ns [(fO,.adr w2),(jF,.bool lg),(aJ,.ref 1006),(bM,.ref 1002)])
 b:U.get 1002=aa (.gw 1003 0)
 bl:U.get 1003=aa (.gZ 0)
 nat:U.get 1004=aa (.dict [])
 wn:U.get 1005=aa (.ns (mL (.lit 6)))
 w:U.get 1006=aa (.inst 889 1005)
 rE:U.get 1008=aa (.dict [])
 md:U.get 1010=aa (.dict zG)
theorem ahN(w2:Nat)(lg:Bool):DW w2 lg=aa (Ib (DW w2 lg))/\U0 lg w2 (Ib (DW w2 lg)):=by
 refine⟨?_,?_,?_,?_,?_,?_,?_,?_,?_,?_,?_,?_,?_,?_⟩
 all_goals kernel_rfl
theorem Z7{C:EC}{FL:Ev->Nat->List AV->ES->R Out}{n d w2:Nat}{cx:CX}{U:ES}{xs:List Int}{kvs:List (Nat×AV)}{P:AV->ES->Prop}(h1:C.lists w2=aa (fm xs))(hx:xs.length<=1000)(hq:U.get cx.loc=aa (.ns kvs))(hk:bN kvs fO=aa (.adr w2))(h:P (.bool (ltI 1 (.ofNat xs.length))) U):
  RW (bw (ev C FL (n+10)) (d+2) cx (.cmp (.call (.az (.bi 2)) [.loc fO]) .Gt (.int 1)) U) P:=by
 refine gf (dc (cI (aW (aP hq hk (bG ⟨rfl,kZ (v:=.int (.lit (.ofNat xs.length))) (σ1:=U) ?_ (cM ⟨_,rfl,h⟩)⟩)))));show jH _ (yk (C.lists w2) _)=_;rw[h1];have hl:(fm xs).length=xs.length:=tN ..;show jH _ (cond (fits (fm xs).length) (aa (fm xs).length) af)=_;rw[show fits (fm xs).length=ah from Nat.ble_eq.mpr (cL (aT (aD hl) (cC hx)) rfl)];show aa (AV.int (.lit (fq ((fm xs).length:Nat))),U)=_;rw[iK,hl];rfl
end Mine
end
section
namespace Mine
open PySem PySem.W PySem.Calls PyProof.Rows PySem.SeqAt PySem.F
section
variable{w:bX}{h0_:cy}{os:jL}{A:cR}{env:Env}{sc:cu}{s:aE}{K:Nat}{l l1 l2:List (Nat×AO)}
noncomputable def Good(w:bX)(h0_:cy)(os:jL)(A:cR)(env:Env)(sc:cu)(K:Nat)(l:List (Nat×AO))(s:aE):Prop:=
 ∃rest cnt num n8 Y,rest.length<=40/\cnt<=K/\aZ (dD w h0_ os rest cnt num n8) (br oY) 40 A sc fD env (stN l) Y s
theorem CJ{sym:Nat->Nat->Option (List Nat)}:(br sym).tabOf 958=af:=by kernel_rfl
theorem aZ.sy{W:WS}{sym sym':Nat->Nat->Option (List Nat)}{d:Nat}{U:ES}{Y:Nat->aG}(S:aZ W (br sym) d A sc fD env U Y s):aZ W (br sym') d A sc fD env U Y s:=
 ⟨S.R,S.N,S.F,λtb h=>by rw[show(br sym').tabOf fD.code=af from CJ]at h;exact aN h⟩
theorem MQ{sym:Nat->Nat->Option (List Nat)}{rest:List Nat}{cnt:Nat}{num n8:Int}{U:ES}{Y:Nat->aG}(hA:A.frames=aa [env])(h:nH l U=ah)(hl:(stN l).get 1000=aa jf)(h1:rest.length<=40)(h2:cnt<=K)
  (S:aZ (dD w h0_ os rest cnt num n8) (br sym) 40 A sc fD env U Y s):Good w h0_ os A env sc (K+100) l s:=by
 have h:(wI ⟨lastOf U,Td U⟩ (zO U l []) (xm U) 1190 U l&&O9 (zO U l [])&&fB (xm U) 100)=ah:=h;rw[bJ,bJ]at h;obtain⟨⟨k1,k2⟩,k3⟩:=h;generalize zO U l []=π at*;have rt:∀t∈[1000,931,936,943,948],gO π t=t:=λt ht=>gW (List.all_eq_true.mp k2 t ht);have k3:=fH k3;refine⟨rest.drop (xm U),cnt+xm U,_,_,_,by rw[xS];exact ai6 h1,by exact bK h2 k3,aZ.re (C':=br oY) S (Rel.sim k1 S.R) rfl rfl hA rfl ⟨rt _ (.head _),by show 1000<1190;decide⟩ rfl ⟨_,hl,rfl⟩ (λt ht=>⟨rt t ?_,?_⟩) CJ⟩
 ·have ht:t∈[948,943,936,931]:=ht;simp only[iy,gQ,or_false]at ht ⊢;exact aje ht
 ·have ht:t∈[948,943,936,931]:=ht;simp only[iy,gQ,or_false]at ht;show t<1190;exact aeS ht
noncomputable def rj(rest:List Nat)(cnt:Nat):Nat->List (Nat×List Nat)->Prop
 |_,[]=>True
 |j,p::l=>dG rest cnt j % p.1∈p.2/\rj rest cnt (j+1) l
theorem rj.get{rest:List Nat}{cnt:Nat}:∀{l:List (Nat×List Nat)} {j i:Nat} {p:Nat×List Nat},rj rest cnt j l->l[i]?=aa p->dG rest cnt (j+i) % p.1∈p.2
 | [],j,i,p,_,h=>by exact aN h
 |q::l,j,0,p,hd,h=>by(injection h with h;subst h);exact hd.1
 |q::l,j,i+1,p,hd,h=>by have:=rj.get hd.2 (i:=i) h;rw[show j+(i+1)=j+1+i from by exact Ry];exact this
set_option tactic.hygienic true in
theorem Hf{rest:List Nat}{cnt:Nat}{dl:List (Nat×List Nat)}(hd:rj rest cnt 0 dl):∀v j is,lC dl (v+1) j=aa is->dG rest cnt j % (v+1)∈is:=by
 intro v j is h;unfold lC at h;split at h
 ·rename_i p hp
  split at h
  ·rename_i hq
   (injection h with h;subst h)
   have:=hd.get hp;rw[gW hq,rT]at this;exact this
  ·exact aN h
 ·exact aN h
theorem part(B:Base w h0_)(hA:A.frames=aa [env])(hK:K<=1000000)(G:Good w h0_ os A env sc K l s){ast:aS}{f:Nat}{mc:List CE}{more:List AV}{El:Out->ES->Bool}{Q:Bool->aE->Prop}{E:ay->aE->Prop}(hc:cE fk 100 sc ast=aa (.dU (.call (.az (.adr f)) (.loc aJ:: .loc bM::mc))))(hl:(stN l).get 1000=aa jf)
  (hm:∀{C:EC} {P:List AV->ES->Prop},P more (stN l)->RW (ia (ev C gK 3000) 40 fD mc (stN l)) P) (hmay:∀sym,(br sym).may f=ah) (aiP:∀rest cnt,∃dl,rj rest cnt 0 dl/\allR El (iX dl l f more)=ah)
  (hk:∀o U,El o U=ah->o= .v (.bool ah)/\(nH l1 U=ah\/nH l2 U=ah)) (hl1:(stN l1).get 1000=aa jf) (hl2:(stN l2).get 1000=aa jf)
  (k:∀s',Good w h0_ os A env sc (K+100) l1 s'\/Good w h0_ os A env sc (K+100) l2 s'->Q ak s'):aC (model PySem.Challenge.rw_pq0494_01.row.prog w) A (isTrue ast env (eval ast env)) Q E s:=by
 refine NH G λrest cnt num n8 Y h1 h2 S=>?_;try clear G
 refine aV (aiP rest cnt) λdl hd hr=>?_;have N:=bL.all (Aw (sym:=lC dl) (os:=os) (rest:=rest) (cnt:=cnt) (num:=num) (n8:=n8) B) (Ca (FL:=gK) B (Hf hd) (cL (aT (aM h2) (cC hK)) rfl) (kH (cC h1) rfl)) 3003;have S':aZ (dD w h0_ os rest cnt num n8) (br (lC dl)) 40 A sc fD env (stN l) Y s:=S.sy;refine N.t hc S' (PR.sJ (RW.pr (P:=λt σ'=>t=ak/\(nH l1 σ'=ah\/nH l2 σ'=ah)) ?_ λt σ' ρ' s' b P R X V=>?_))
 ·refine uA (eV (λ_ _ _ _ _=>rfl) (dc (cI (aW (aP hl rfl (aW (aP hl rfl (hm ⟨hmay _,?_⟩))))))));refine Ph ((GG hr).mono λo U z=>?_);obtain⟨e,zz⟩:=hk o U z;subst e;exact⟨_,rfl,ah,rfl,rfl,zz⟩
 ·obtain⟨rfl,P⟩:=P;obtain rfl:ak=b:=V;refine k s' (P.imp (λz=>?_) λz=>?_)
  ·exact MQ hA z hl1 h1 h2 (S'.ext R X)
  ·exact MQ hA z hl2 h1 h2 (S'.ext R X)
theorem or3{W:WS}{a b c:aS}{pos:Pos}{whole:Sem ay}{Q:Bool->aE->Prop}{E:ay->aE->Prop}{G1 G2:aE->Prop}(ha:aC (model W.prog W.w) A (isTrue a env (eval a env)) (λt s'=>t=ak/\G1 s') E s)(hb:∀s,G1 s->aC (model W.prog W.w) A (isTrue b env (eval b env)) (λt s'=>t=ak/\G2 s') E s)
  (hc:∀s,G2 s->aC (model W.prog W.w) A (isTrue c env (eval c env)) (λt s'=>t=ak/\Q ak s') E s):aC (model W.prog W.w) A (isTrue (.BoolOp .Or [a,b,c] pos) env whole) Q E s:=by
 refine BX (eL ha (λt s' h=>?_) λ_ _ e=>e);obtain⟨rfl,h⟩:=h;rw[if_neg (by decide)];refine BX (eL (hb s' h) (λt s' h=>?_) λ_ _ e=>e);obtain⟨rfl,h⟩:=h;rw[if_neg (by decide)];refine BX (eL (hc s' h) (λt s' h=>?_) λ_ _ e=>e);obtain⟨rfl,h⟩:=h;rw[if_neg (by decide)];exact isTrue_or_nil h
end
section
variable{w:bX}{h0_:cy}{os:jL}{A:cR}{env:Env}{sc:cu}{s:aE}{w2:Nat}{xs:List Int}{items:Array ay}
noncomputable def lS(xs:List Int):List Nat:=(xs.take 40).map Fx
noncomputable abbrev W1(w:bX)(h0_:cy)(os:jL)(xs:List Int):WS:=dD w h0_ os (lS xs) 0 0 0
noncomputable def yT(w2:Nat)(xs:List Int)(a:aG):Option (List AV):=match aH a w2 with
 |true=>aa (fm xs)
 |false=>af
noncomputable def Cb(w2:Nat)(xs:List Int):EC:={br oY with spec:=λ_=>af,lists:=yT w2 xs}
theorem Ow{W:WS}:∀{xs:List Int} {vs:List ay},vP vs xs->aO (VG W) (fm xs) vs
 | [],_,h=>by cases h;exact .nil
 |x::xs,_,h=>by cases h with|cons _ t h=>exact .cons ⟨t,rfl⟩ (Ow h)
theorem O5:yT w2 xs w2=aa (fm xs):=by unfold yT;rw[fT,decide_eq_true rfl]
theorem Uk(B:Base w h0_)(hli:h0_.IsList w2 items)(hin:vP items.toList xs):o8 (W1 w h0_ os xs) (Cb w2 xs) fk:=
 DO (sym:=oY) (spec:=λ_=>af) (lists:=yT w2 xs) (λt ys h=>by
  unfold yT at h;split at h
  ·rename_i e
   (injection h with h;subst h)
   rw[gW e];exact⟨items,hli,Ow hin⟩
  ·exact aN h) B
theorem adv{W:WS}{FL:Ev->Nat->List AV->ES->R Out}:uh W (Cb w2 xs) fk FL:=⟨λh=>(aN h),λ_ h=>(aN h)⟩
noncomputable def AM:ES:=⟨jl sq,1000⟩
noncomputable def S0(w2:Nat):ES:=(AM.add (.ns [])).2.put 1000 (.ns [(fO,.adr w2)])
theorem Nr:(S0 w2).get 1000=aa (.ns [(fO,.adr w2)])/\(S0 w2).get 931=aa (.tab [])/\(S0 w2).get 936=aa (.tab [])/\(S0 w2).get 943=aa (.tab [])/\(S0 w2).get 948=aa (.tab [])/\(S0 w2).next=1001:=by
 refine⟨?_,?_,?_,?_,?_,?_⟩
 all_goals kernel_rfl
theorem aaW{W W':WS}{n n':Nat}{Y ρ':Nat->aG}{r:Obj}(h:OR W n Y (.tab []) r):OR W' n' ρ' (.tab []) r:=by
 refine fS h λps h1 h2 _=>?_;try clear h
 exact⟨ps,h1,h2,nofun⟩
noncomputable def jV(b l y:Nat):Nat:=if y=1002 then b else if y=1003 then l else y
theorem ahc:(Cb w2 xs).fn 898=aa Hs:=by kernel_rfl
theorem afs:(Cb w2 xs).tabOf 958=af:=by kernel_rfl
theorem re1{U:ES}{Y:Nat->aG}{b l:Nat}(R:Rel (W1 w h0_ os xs) U.st Y s)(gb:U.get b=aa (.list [.ref l,.int (.lit 0)]))(gl:U.get l=aa (.list (cK (lS xs))))(mS:b≠l)(lb:1001<=b)(ll:1001<=l)(fr:∀y,y<1001->U.get y=(S0 w2).get y):
  Rel (W1 w h0_ os xs) (S1 w2).st (λy=>Y (jV b l y)) s:=by
 refine GX (Nr (w2:=w2)) λf1 f2 f3 f4 f5 f6=>?_;have p2:jV b l 1002=b:=if_pos rfl;have p3:jV b l 1003=l:=by unfold jV;rw[if_neg (by decide),if_pos rfl]
 have po:∀y,y<1001->jV b l y=y:=λy hy=>by unfold jV;rw[if_neg (AR (eX hy) rfl),if_neg (AR (eX hy) rfl)]
 have GU:∀{y o},(S1 w2).st.get y=aa o->(y<1001/\(o= .tab []/\(S0 w2).get y=aa (.tab [])\/y=1000/\o= .ns [(fO,.adr w2)]))\/(y=1002/\o= .gw 1003 0)\/(y=1003/\o= .gZ 0):=by
  intro y o hy;have hy:(jl (Kr w2)).get y=aa o:=hy;have hm:=r5 hy;simp only[Kr,sq,tK,xW,iy,gQ,or_false,BB]at hm;rcases hm with⟨rfl,rfl⟩|⟨rfl,rfl⟩|⟨rfl,rfl⟩|⟨rfl,rfl⟩|⟨rfl,rfl⟩|⟨rfl,rfl⟩|⟨rfl,rfl⟩
  ·exact .inl ⟨by decide,.inl ⟨rfl,f2⟩⟩
  ·exact .inl ⟨by decide,.inl ⟨rfl,f3⟩⟩
  ·exact .inl ⟨by decide,.inl ⟨rfl,f4⟩⟩
  ·exact .inl ⟨by decide,.inl ⟨rfl,f5⟩⟩
  ·exact .inl ⟨by decide,.inr ⟨rfl,rfl⟩⟩
  ·exact .inr (.inl ⟨rfl,rfl⟩)
  ·exact .inr (.inr ⟨rfl,rfl⟩)
 refine Rel.re R rfl rfl (λy o2 hy=>?_) λx y o p hx hy e=>?_
 ·rcases GU hy with⟨ly,h⟩|⟨rfl,rfl⟩|⟨rfl,rfl⟩
  ·refine⟨by show y<1004;exact kH (eX ly) rfl,?_⟩;rcases h with⟨rfl,h⟩|⟨rfl,rfl⟩
   ·exact⟨_,(by rw[po y ly];exact(fr y ly).trans h),λr hr=>aaW hr⟩
   ·refine⟨_,(by rw[po 1000 ly];exact(fr 1000 ly).trans f1),λr hr=>?_⟩;refine dB hr λes m h1 h2=>?_;try clear hr
    refine⟨es,m,h1,?_⟩;cases hv:es.toList with
    |nil=>rw[hv]at h2;cases h2
    |cons v1 vt=>
     rw[hv]at h2;cases h2 with
     |cons k1 k2=>cases k2;exact .cons k1 .nil
  ·refine⟨by show 1002<1004;decide,_,(by rw[p2];exact gb),λr hr=>?_⟩;refine dB hr λvs m h1 h2=>?_;try clear hr
   cases hv:vs.toList with
   |nil=>rw[hv]at h2;cases h2
   |cons v1 vt=>
    rw[hv]at h2;cases h2 with
    |cons k1 k2=>
     cases k2 with
     |cons k3 k4=>cases k4;obtain⟨_,rfl⟩:=k1;obtain⟨t,rfl⟩:=k3;refine⟨by show 1003<1004;decide,vs,m,t,h1,?_⟩;rw[hv];show [eB (Y l),_]=[eB (Y (jV b l 1003)),_];rw[p3];rfl
  ·refine⟨by show 1003<1004;decide,_,(by rw[p3];exact gl),λr hr=>?_⟩;refine dB hr λvs m h1 h2=>?_;try clear hr
   exact⟨vs,m,h1,Of h2⟩
 ·have c1:=GU hx;have c2:=GU hy;have k:∀z,(z<1001->jV b l z=z)/\(z=1002->jV b l z=b)/\(z=1003->jV b l z=l):=λz=>⟨po z,λh=>by rw[h];exact p2,λh=>by rw[h];exact p3⟩;have k1:=k x;have k2:=k y;rcases c1 with⟨l1,_⟩|⟨l1,_⟩|⟨l1,_⟩<;>rcases c2 with⟨l2,_⟩|⟨l2,_⟩|⟨l2,_⟩<;>(first|(first|exact(k1.1 l1).symm.trans (e.trans (k2.1 l2))|exact af2 lb e k1 k2 l1 l2|exact ahE ll e k1 k2 l1 l2|exact ahh lb e k1 k2 l1 l2|exact af8 l1 l2|exact agl mS e k1 k2 l1 l2|exact aeY ll e k1 k2 l1 l2|exact afx mS e k1 k2 l1 l2|exact afa l1 l2)|exact cO (aR (aT (xB l1) (oQ l2)) rfl) (aR (aT (xB l2) (oQ l1)) rfl))
theorem KG{U:ES}{Y:Nat->aG}(R:Rel (W1 w h0_ os xs) U.st Y s)(F:UN w2 U):Rel (W1 w h0_ os xs) (S2 w2).st Y s:=by
 have nx:U.st.next=1115:=F.nx
 refine Rel.re (π:=λy=>y) R rfl rfl (λy o2 hy=>?_) λx y o p hx hy e=>e;have hy:(jl (Jv w2)).get y=aa o2:=hy;have hm:=r5 hy;rw[nx];simp only[Jv,sq,tK,xW,iy,gQ,or_false,BB]at hm;rcases hm with⟨rfl,rfl⟩|⟨rfl,rfl⟩|⟨rfl,rfl⟩|⟨rfl,rfl⟩|⟨rfl,rfl⟩|⟨rfl,rfl⟩|⟨rfl,rfl⟩|⟨rfl,rfl⟩|⟨rfl,rfl⟩|⟨rfl,rfl⟩|⟨rfl,rfl⟩|⟨rfl,rfl⟩
 ·exact⟨by show _<1115;decide,_,F.t1,λ_ z=>z⟩
 ·exact⟨by show _<1115;decide,_,F.t2,λ_ z=>z⟩
 ·exact⟨by show _<1115;decide,_,F.t3,λ_ z=>z⟩
 ·exact⟨by show _<1115;decide,_,F.t4,λ_ z=>z⟩
 ·exact⟨by show _<1115;decide,_,F.law,λ_ z=>z⟩
 ·exact⟨by show _<1115;decide,_,F.b,λ_ z=>z⟩
 ·exact⟨by show _<1115;decide,_,F.bl,λ_ z=>z⟩
 ·exact⟨by show _<1115;decide,_,F.nat,λ_ z=>z⟩
 ·exact⟨by show _<1115;decide,_,F.wn,λ_ z=>z⟩
 ·exact⟨by show _<1115;decide,_,F.w,λ_ z=>z⟩
 ·exact⟨by show _<1115;decide,_,F.rE,λ_ z=>z⟩
 ·exact⟨by show _<1115;decide,_,F.md,λ_ z=>z⟩
theorem nu{n n2:Nat}{Y:Nat->aG}{a b:AO}{o:Obj}(h:Ai ⟨0,af⟩ [] n2 0 a b=ah)(q:OR (W1 w h0_ os xs) n Y a o):OR (W1 w h0_ os xs) n2 Y b o:=Gy (f:=⟨0,af⟩) (jj:=0) h q
theorem re3{U:ES}{Y:Nat->aG}{lg:Bool}(R:Rel (W1 w h0_ os xs) U.st Y s)(F:U0 lg w2 U):Rel (W1 w h0_ os xs) (S3 lg).st Y s:=by
 refine Rel.re (π:=λy=>y) R rfl rfl (λy o2 hy=>?_) λx y o p hx hy e=>e;have hy:(jl (l3 lg)).get y=aa o2:=hy;have hm:=r5 hy;simp only[l3,sq,tK,xW,iy,gQ,or_false,BB]at hm;rcases hm with⟨rfl,rfl⟩|⟨rfl,rfl⟩|⟨rfl,rfl⟩|⟨rfl,rfl⟩|⟨rfl,rfl⟩|⟨rfl,rfl⟩|⟨rfl,rfl⟩|⟨rfl,rfl⟩|⟨rfl,rfl⟩|⟨rfl,rfl⟩|⟨rfl,rfl⟩|⟨rfl,rfl⟩
 ·exact⟨by show _<1115;decide,_,F.t1,λ_ z=>nu rfl z⟩
 ·exact⟨by show _<1115;decide,_,F.t2,λ_ z=>nu rfl z⟩
 ·exact⟨by show _<1115;decide,_,F.t3,λ_ z=>nu rfl z⟩
 ·exact⟨by show _<1115;decide,_,F.t4,λ_ z=>nu rfl z⟩
 ·exact⟨by show _<1115;decide,_,F.law,λ_ z=>nu (by cases lg<;>kernel_rfl) z⟩
 ·exact⟨by show _<1115;decide,_,F.b,λ_ z=>nu rfl z⟩
 ·exact⟨by show _<1115;decide,_,F.bl,λ_ z=>nu rfl z⟩
 ·exact⟨by show _<1115;decide,_,F.nat,λ_ z=>nu rfl z⟩
 ·exact⟨by show _<1115;decide,_,F.wn,λ_ z=>nu (by kernel_rfl) z⟩
 ·exact⟨by show _<1115;decide,_,F.w,λ_ z=>nu rfl z⟩
 ·exact⟨by show _<1115;decide,_,F.rE,λ_ z=>nu rfl z⟩
 ·exact⟨by show _<1115;decide,_,F.md,λ_ z=>nu (by kernel_rfl) z⟩
theorem Cv{w:bX}{h0_:cy}{os:jL}{rest:List Nat}{cnt:Nat}{num n8:Int}{n:Nat}(hn:1000<=n){π:Nat->Nat}(hp:∀y,y<1001->π y=y):∀t∈(dD w h0_ os rest cnt num n8).tabs,π t=t/\t<n:=λt ht=>by
 have ht:t∈[948,943,936,931]:=ht;simp only[iy,gQ,or_false]at ht;have:t<1000:=by exact Rq ht
 exact⟨hp t (kH (eX this) rfl),by exact aA (aT (eX this) (rI hn)) rfl⟩
theorem afQ(B:Base w h0_)(hA:A.frames=aa [env])(hli:h0_.IsList w2 items)(hin:vP items.toList xs)(hx:xs.length<=1000){Y:Nat->aG}(S:aZ (W1 w h0_ os xs) (Cb w2 xs) 40 A sc fD env (S0 w2) Y s){ts:List aS}{e1 e2 e3:aS}{names:List Str}{k k':Nat}{p p' pos:Pos}{E:ay->aE->Prop}
  (hv:sf sc ts [e1,e2,e3]=aa (aa names)) (hk:bB codeN names=aa [bM,aJ,jF]) (h1:cE fk 99 sc e1=aa (.call (.az (.adr 898)) [.loc fO])) (h2:cE fk 99 sc e2=aa (.call (.az (.adr 889)) [.dict []])) (h3:cE fk 99 sc e3=aa (.cmp (.call (.az (.bi 2)) [.loc fO]) .Gt (.int 1))):
  aC (model PySem.Challenge.rw_pq0494_01.row.prog w) A (exec (.Assign [.Tuple ts k p] (.Tuple [e1,e2,e3] k' p') pos) env) (λf s'=>f= .next/\∃lg ρ',aZ (W1 w h0_ os xs) (br oY) 40 A sc fD env (S3 lg) ρ' s') E s:=by
 have hh:=S.F.hh (by decide);refine GX (Nr (w2:=w2)) λf1 f2 f3 f4 f5 f6=>?_;have N1:=bL.all (Uk (os:=os) B hli hin) (adv (w2:=w2) (xs:=xs) (FL:=gK)) 300;have N2:=bL.all (DO (sym:=oY) (rest:=lS xs) (cnt:=0) (num:=0) (n8:=0) (os:=os) (spec:=λ_=>af) (lists:=λ_=>af) nofun B) (NL (sym:=oY) (FL:=gK)) 3000;refine WQ (names:=names) (Tuple_ ?_) (hw:=Gj S.N hv);rw[vU h1];refine E5 (N1.v h1 S (RW.pr (P:=λv σ'=>∃b l,v= .ref b/\σ'.get b=aa (.list [.ref l,.int (.lit 0)])/\σ'.get l=aa (.list (cK (lS xs)))/\b≠l/\1001<=b/\1001<=l/\∀y,y<1001->σ'.get y=(S0 w2).get y) ?_ λa σ1 bF s1 b1 P R X V=>?_))
 ·refine dc (cI (aW (aP (show(S0 w2).get fD.loc=_ from f1) rfl (bG ⟨by kernel_rfl,(ad1 (d:=36) ahc rfl O5 hx (by decide) (by rw[f6];show 1001+20<1000000000;decide)).mono λv σ' z=>?_⟩))));obtain⟨b,l,h1,h2,h3,h4,h5,h6,h7,h8,h9,dO⟩:=z;exact⟨b,l,h1,h2,h3,h4,by exact xx (aT (oQ f6) (aM h8)) rfl,by exact xx (aT (oQ f6) (aM h9)) rfl,λy hy=>dO y (aA (aT (eX hy) (oQ f6)) rfl)⟩
 obtain⟨b,l,rfl,gb,gl,mS,lb,ll,fr⟩:=P;obtain⟨_,rfl⟩:=V;have Sx:=S.ext R X;have R1:=re1 (w2:=w2) R gb gl mS lb ll fr;have po:∀y,y<1001->jV b l y=y:=λy hy=>by unfold jV;rw[if_neg (AR (eX hy) rfl),if_neg (AR (eX hy) rfl)]
 have UL:aZ (W1 w h0_ os xs) (CW oY) 40 A sc fD env (S1 w2) (λy=>bF (jV b l y)) s1:=aZ.re Sx R1 rfl rfl hA rfl ⟨po _ (by show 1000<1001;decide),by show 1000<1004;decide⟩ rfl ⟨.ns [(fO,.adr w2)],by kernel_rfl,rfl⟩ (Cv (by show 1000<=1004;decide) po) (by kernel_rfl);have vb:VR (W1 w h0_ os xs) (S1 w2).next (λy=>bF (jV b l y)) (.ref 1002) (.ref (bF b)):=⟨by show 1002<1004;decide,by show _=eB (bF (jV b l 1002));rw[show jV b l 1002=b from if_pos rfl]⟩
 generalize (λy=>bF (jV b l y))=ρa at*;rw[vU h2];obtain⟨w1,wf⟩:=agQ w2;refine E5 (N2.v h2 UL ?_);show PR _ _ _ _ _ _ _ (AH w2);rw[w1];intro Ky s2 b2 R2 X2 V2;generalize HN (AH w2)=σb at*;have S2x:=UL.ext R2 X2;have A9:=KG (w2:=w2) R2 wf;have VV:aZ (W1 w h0_ os xs) (Cb w2 xs) 40 A sc fD env (S2 w2) Ky s2:=aZ.re (π:=λy=>y) S2x A9 rfl rfl hA rfl ⟨rfl,by show 1000<1115;decide⟩ rfl ⟨.ns [(fO,.adr w2)],by kernel_rfl,rfl⟩ (Cv (by show 1000<=1115;decide) λ_ _=>rfl) afs;have vb2:VR (W1 w h0_ os xs) (S2 w2).next Ky (.ref 1002) (.ref (bF b)):=⟨by show 1002<1115;decide,(X2.vr vb).2⟩
 have vw2:VR (W1 w h0_ os xs) (S2 w2).next Ky (.ref 1006) b2:=⟨by show 1006<1115;decide,V2.2⟩
 rw[vU h3];refine E5 (N1.v h3 VV (RW.pr (P:=λv σ'=>v= .bool (ltI 1 (.ofNat xs.length))/\σ'=S2 w2) (Z7 O5 hx (show(S2 w2).get fD.loc=aa (.ns [(fO,.adr w2)])from by kernel_rfl) rfl ⟨rfl,rfl⟩) λa σ3 dg s3 b3 P R3 X3 V3=>?_));obtain⟨rfl,rfl⟩:=P;generalize ltI 1 (.ofNat xs.length)=lg at*;have S3s:=VV.ext R3 X3;have va:aO (VR (W1 w h0_ os xs) (S2 w2).next dg) [.ref 1002,.ref 1006,.bool lg] [.ref (bF b),b2,b3]:=.cons (X3.vr vb2) (.cons (X3.vr vw2) (.cons V3 .nil));refine spliced_nil ?_;refine cU (R3.jP (U:=S2 w2) (o:=Iq lg) (r:={cls:=.type "tuple",data:=.seq [eB (bF b),b2,b3].toArray}) rfl ⟨rfl,_,_,rfl,va.mono λ_ _=>VR.mono (iA _) dw⟩) λR4 X4 V4=>?_;have S4:=S3s.ext R4 X4;refine wpAny_newTuple ?_ (by show 3<=sizeLine;rw[gp];decide);have hl3:names.length=3:=(vM hk).symm;refine Fc R4 hh V4 (vs:=[.ref 1002,.ref 1006,.bool lg]) (show sj (Cb w2 xs) (.ref 1115) ((S2 w2).add (Iq lg)).2=_ by kernel_rfl) (by rw[hl3];rfl) λits s5 R5 X5 V5=>?_;have S5:=S4.ext R5 X5;obtain⟨t1,tf⟩:=ahN w2 lg;refine Li S5 (names:=names.reverse) (ks:=[jF,aJ,bM]) (as:=[.bool lg,.ref 1006,.ref 1002]) (MX hk) (λn hn=>MN hv n (List.mem_reverse.mp hn)) S5.N R5 V5.reverse (by rw[xN,hl3];rfl) t1 λs6 R6 X6=>⟨rfl,lg,dK dg (S2 w2).next s3.heap.objs.size,?_⟩;have S6:=S5.ext R6 X6;generalize Ib (DW w2 lg)=fz at*;exact aZ.re (π:=λy=>y) S6 (re3 R6 tf) rfl rfl hA rfl ⟨rfl,by show 1000<1115;decide⟩ rfl ⟨_,(show(S3 lg).get 1000=aa (.ns [(fO,.top),(jF,.bool lg),(aJ,.ref 1006),(bM,.ref 1002)]) by kernel_rfl),rfl⟩ (Cv (by show 1000<=1115;decide) λ_ _=>rfl) CJ
end
section
variable{w:bX}{h0_:cy}{os:jL}{A:cR}{env:Env}{sc:cu}{s:aE}{w2:Nat}{xs:List Int}{items:Array ay}
theorem NJ:(lS xs).length<=40:=by unfold lS;rw[tN,Bq];exact RP
theorem adT{rest:List Nat}{cnt n j:Nat}{c num n8:Int}{Y:Nat->aG}{o:Obj}(h:OR (dD w h0_ os rest cnt num n8) n Y (.ns (mL (.lit c))) o):OR (dD w h0_ os (rest.drop j) (cnt+j) (num+(gx.mk (c- num) af).o7) ((gx.mk (c- num) af).n8 num n8)) 1190 (λy=>Y y) (.ns (mL (.var 7 0))) o:=by
 refine dB h λes m e q=>?_;try clear h
 refine⟨es,m,e,aO.comp (R:=λ(p p':Nat×AV)=>p'.1=p.1/\∀v,VR (dD w h0_ os rest cnt num n8) n Y p.2 v->VR (dD w h0_ os (rest.drop j) (cnt+j) (num+(gx.mk (c- num) af).o7) ((gx.mk (c- num) af).n8 num n8)) 1190 (λy=>Y y) p'.2 v) (λa b c z1 z2=>⟨by rw[z1.1];exact z2.1,z1.2 _ z2.2⟩) ?_ q⟩;have hn:∀v,VR (dD w h0_ os rest cnt num n8) n Y (.int (.lit c)) v->VR (dD w h0_ os (rest.drop j) (cnt+j) (num+(gx.mk (c- num) af).o7) ((gx.mk (c- num) af).n8 num n8)) 1190 (λy=>Y y) (.int (.var 7 0)) v:=λv h=>by obtain⟨t,rfl⟩:=h;refine⟨t,?_⟩;show yw c t=yw (num+(c- num)+0) t;rw[show num+(c- num)+0=c from by exact agM]
 unfold mL;refine .cons ⟨rfl,λv h=>⟨by show _<1190;decide,h.2⟩⟩ (.cons ⟨rfl,λv h=>⟨by show _<1190;decide,h.2⟩⟩ (.cons ⟨rfl,λv h=>h⟩ (.cons ⟨rfl,λv h=>h⟩ (.cons ⟨rfl,λv h=>h⟩ (.cons ⟨rfl,hn⟩ (.cons ⟨rfl,λv h=>h⟩ (.cons ⟨rfl,λv h=>⟨by show _<1190;decide,h.2⟩⟩ (.cons ⟨rfl,λv h=>⟨by show _<1190;decide,h.2⟩⟩ (.cons ⟨rfl,λv h=>h⟩ (.cons ⟨rfl,λv h=>h⟩ (.cons ⟨rfl,λv h=>⟨by show _<1190;decide,h.2⟩⟩ (.cons ⟨rfl,λv h=>⟨by show _<1190;decide,h.2⟩⟩ (.cons ⟨rfl,λv h=>h⟩ (.cons ⟨rfl,λv h=>h⟩ (.cons ⟨rfl,λv h=>⟨by show _<1190;decide,h.2⟩⟩ .nil)))))))))))))))
theorem Nk(n:Nat):aH n n=ah:=by rw[fT,decide_eq_true rfl]
theorem reA{lg:Bool}{c:Int}{j:Nat}{U:ES}{Y:Nat->aG}(R:Rel (W1 w h0_ os xs) U.st Y s)(hw:di U 1006 1005 1010 1129 c)(hb:dY U 1002 1003 j)(ak8:mJ lg U):
  Rel (dD w h0_ os ((lS xs).drop j) (0+j) (0+(gx.mk (c- 0) af).o7) ((gx.mk (c- 0) af).n8 0 0)) (stN lA).st (λy=>Y y) s:=by
 obtain⟨kvs,mk,e1,e2,e3,e4,e5,e6,e7,e8,e9,qz,xF,rfl⟩:=hw.ex;refine Rel.re (π:=λy=>y) R rfl rfl (λy o2 hy=>?_) λx y o p hx hy e=>e;have hy:(jl lA).get y=aa o2:=hy;have hm:=r5 hy;have key:∀{o o2:AO},U.get y=aa o->Ai (gx.mk (c- 0) af) [] 1190 j o o2=ah->∃o',U.st.get y=aa o'/\∀r,OR (W1 w h0_ os xs) U.next Y o' r->OR (dD w h0_ os ((lS xs).drop j) (0+j) (0+(gx.mk (c- 0) af).o7) ((gx.mk (c- 0) af).n8 0 0)) 1190 (λy=>Y y) o2 r:=
  λh1 h2=>⟨_,h1,λr hr=>Gy h2 hr⟩
 have hm:(y,o2)∈[(931,.tab []),(943,.tab []),(948,.tab []),(936,.tab []),(1000,jf),(1002,.gw 1003 0),(1003,.gZ 0),(1004,.dict []),(1005,.ns (mL (.var 7 0))),(1006,.inst 889 1005),(1008,.dict []),(1010,.dict uz)]:=hm;simp only[iy,gQ,or_false,BB]at hm;rcases hm with⟨rfl,rfl⟩|⟨rfl,rfl⟩|⟨rfl,rfl⟩|⟨rfl,rfl⟩|⟨rfl,rfl⟩|⟨rfl,rfl⟩|⟨rfl,rfl⟩|⟨rfl,rfl⟩|⟨rfl,rfl⟩|⟨rfl,rfl⟩|⟨rfl,rfl⟩|⟨rfl,rfl⟩
 ·exact⟨by show _<1190;decide,key ak8.t1 rfl⟩
 ·exact⟨by show _<1190;decide,key ak8.t3 rfl⟩
 ·exact⟨by show _<1190;decide,key ak8.t4 rfl⟩
 ·exact⟨by show _<1190;decide,key ak8.t2 rfl⟩
 ·exact⟨by show _<1190;decide,key ak8.law (by cases lg<;>kernel_rfl)⟩
 ·refine⟨by show _<1190;decide,key hb.gb ?_⟩;show(aH j j&&aH 0 0&&aH 1003 1003&&cZ 1003 1190)=ah;rw[Nk];rfl
 ·refine⟨by show _<1190;decide,key hb.gl ?_⟩;show(aH j j&&aH 0 0)=ah;rw[Nk];rfl
 ·exact⟨by show _<1190;decide,key ak8.nat rfl⟩
 ·exact⟨by show _<1190;decide,_,e2,λr hr=>adT hr⟩
 ·exact⟨by show _<1190;decide,key e1 rfl⟩
 ·exact⟨by show _<1190;decide,key ak8.rE rfl⟩
 ·exact⟨by show _<1190;decide,key ak8.md (by kernel_rfl)⟩
theorem af6(B:Base w h0_)(hA:A.frames=aa [env]){lg:Bool}{Y:Nat->aG}(S:aZ (W1 w h0_ os xs) (br oY) 40 A sc fD env (S3 lg) Y s){st:fR}{E:ay->aE->Prop}(hc:cS fk 100 sc st=aa Jb):
  aC (model PySem.Challenge.rw_pq0494_01.row.prog w) A (exec st env) (λf s'=>f= .next/\Good w h0_ os A env sc 100 lA s') E s:=by
 have N:=bL.all (Aw (sym:=gv (lS xs) 0) (os:=os) (rest:=lS xs) (cnt:=0) (num:=0) (n8:=0) B) (Ca (FL:=gK) B (λv j is h=>by(injection h with h;subst h);exact .head _) (by decide) (by have:=NJ (xs:=xs);exact kH (cC this) rfl)) 7004;have S':aZ (W1 w h0_ os xs) (C0 (lS xs) 0) 40 A sc fD env (S3 lg) Y s:=S.sy;refine Qc (Aw (sym:=gv (lS xs) 0) (os:=os) (rest:=lS xs) (cnt:=0) (num:=0) (n8:=0) B).toOkh N hc S' ⟨_,hA⟩ (RW.pr (abz (re:=lS xs) (ct:=0) (lg:=lg)) λf σ' ρ' s' b P R X V=>?_);obtain⟨rfl,P⟩:=P;cases V;obtain⟨⟨c,j,W,Bg,hj⟩,nx,ak8⟩:=P;refine⟨rfl,_,_,_,_,_,?_,?_,aZ.re (C':=br oY) (π:=λy=>y) (S'.ext R X) (reA R W Bg ak8) rfl rfl hA rfl ⟨rfl,by show 1000<1190;decide⟩ rfl ⟨jf,by kernel_rfl,rfl⟩ (Cv (by show 1000<=1190;decide) λ_ _=>rfl) CJ⟩
 ·rw[xS];have:=NJ (xs:=xs);exact eo (rV _ _) this
 ·exact agO hj
end
section
variable{w:bX}{h0_:cy}{os:jL}{A:cR}{env:Env}{sc:cu}{s:aE}{K:Nat}
theorem aaO(rest:List Nat)(cnt:Nat):∃dl,rj rest cnt 0 dl/\allR (ql lB) (iX dl lA 934 [.int (.lit 30)])=ah:=by
 have h0:dG rest cnt 0 % 2=0\/dG rest cnt 0 % 2=1:=by exact Ip
 have h1:dG rest cnt 1 % 30<12\/(12<=dG rest cnt 1 % 30/\dG rest cnt 1 % 30<21)\/(21<=dG rest cnt 1 % 30/\dG rest cnt 1 % 30<30):=by exact ajc
 have m0:∀{x:Nat},x<12->x∈[0,1,2,3,4,5,6,7,8,9,10,11]:=λh=>by simp only[iy,gQ,or_false];exact ahS h
 have m1:∀{x:Nat},12<=x/\x<21->x∈[12,13,14,15,16,17,18,19,20]:=λh=>by simp only[iy,gQ,or_false];exact akx h
 have m2:∀{x:Nat},21<=x/\x<30->x∈[21,22,23,24,25,26,27,28,29]:=λh=>by simp only[iy,gQ,or_false];exact aid h
 have one:∀{x y:Nat},x=y->x∈[y]:=λh=>by rw[h];exact .head _
 rcases h0 with h0|h0<;>rcases h1 with h1|h1|h1
 ·exact⟨_,by exact⟨one h0,m0 h1,trivial⟩,aaw⟩
 ·exact⟨_,by exact⟨one h0,m1 h1,trivial⟩,abh⟩
 ·exact⟨_,by exact⟨one h0,m2 h1,trivial⟩,aar⟩
 ·exact⟨_,by exact⟨one h0,m0 h1,trivial⟩,aam⟩
 ·exact⟨_,by exact⟨one h0,m1 h1,trivial⟩,aap⟩
 ·exact⟨_,by exact⟨one h0,m2 h1,trivial⟩,aa4⟩
theorem aaB(rest:List Nat)(cnt:Nat):∃dl,rj rest cnt 0 dl/\allR (ow lX lT) (iX dl lB 946 [])=ah:=by
 have h0:dG rest cnt 0 % 3=0\/dG rest cnt 0 % 3=1\/dG rest cnt 0 % 3=2:=by exact Up
 have h1:dG rest cnt 1 % 3=0\/dG rest cnt 1 % 3=1\/dG rest cnt 1 % 3=2:=by exact Up
 have one:∀{x y:Nat},x=y->x∈[y]:=λh=>by rw[h];exact .head _
 rcases h0 with h0|h0|h0<;>rcases h1 with h1|h1|h1
 ·exact⟨_,by exact⟨one h0,one h1,trivial⟩,aaG⟩
 ·exact⟨_,by exact⟨one h0,one h1,trivial⟩,aag⟩
 ·exact⟨_,by exact⟨one h0,one h1,trivial⟩,abf⟩
 ·exact⟨_,by exact⟨one h0,one h1,trivial⟩,aaD⟩
 ·exact⟨_,by exact⟨one h0,one h1,trivial⟩,aaJ⟩
 ·exact⟨_,by exact⟨one h0,one h1,trivial⟩,abe⟩
 ·exact⟨_,by exact⟨one h0,one h1,trivial⟩,aaY⟩
 ·exact⟨_,by exact⟨one h0,one h1,trivial⟩,aaP⟩
 ·exact⟨_,by exact⟨one h0,one h1,trivial⟩,aal⟩
theorem GY{l:List (Nat×AO)}(o:Out)(U:ES)(h:ql l o U=ah):o= .v (.bool ah)/\(nH l U=ah\/nH l U=ah):=by have h:=Bool.and_eq_true_iff.mp h;exact⟨OY h.1,.inl h.2⟩
theorem ad2{l l':List (Nat×AO)}(o:Out)(U:ES)(h:ow l l' o U=ah):o= .v (.bool ah)/\(nH l U=ah\/nH l' U=ah):=by have h:=Bool.and_eq_true_iff.mp h;exact⟨OY h.1,Bool.or_eq_true_iff.mp h.2⟩
theorem afp(B:Base w h0_)(hA:A.frames=aa [env])(hK:K<=1000)(G:Good w h0_ os A env sc K lA s){e1 e2 e3:aS}{rf:List fR}{p pos:Pos}{E:ay->aE->Prop}
  (h1:cE fk 100 sc e1=aa (.dU (.call (.az (.adr 934)) [.loc aJ,.loc bM,.int 30]))) (h2:cE fk 100 sc e2=aa (.dU (.call (.az (.adr 946)) [.loc aJ,.loc bM]))) (h3:cE fk 100 sc e3=aa (.dU (.call (.az (.adr 951)) [.loc aJ,.loc bM]))):
  aC (model PySem.Challenge.rw_pq0494_01.row.prog w) A (exec (.If (.BoolOp .Or [e1,e2,e3] p) rf [] pos) env) (λf s'=>f= .next/\(Good w h0_ os A env sc (K+300) kG s'\/Good w h0_ os A env sc (K+300) kL s')) E s:=by
 have la:(stN lA).get 1000=aa jf:=by kernel_rfl
 have lb:(stN lB).get 1000=aa jf:=by kernel_rfl
 have UT:(stN lX).get 1000=aa jf:=by kernel_rfl
 have US:(stN lT).get 1000=aa jf:=by kernel_rfl
 have Uu:(stN kG).get 1000=aa jf:=by kernel_rfl
 have UX:(stN kL).get 1000=aa jf:=by kernel_rfl
 refine wpAny_If (or3 (W:=dD w h0_ os [] 0 0 0) (G1:=Good w h0_ os A env sc (K+100) lB) (G2:=λs=>Good w h0_ os A env sc (K+100+100) lX s\/Good w h0_ os A env sc (K+100+100) lT s) ?_ (λs G=>?_) λs G=>?_)
 ·exact part (l1:=lB) (l2:=lB) B hA (cL (cC hK) rfl) G (more:=[.int (.lit 30)]) h1 la (λh=>aW (cM (bG h))) (λsym=>by kernel_rfl) aaO GY lb lb λs' h=>⟨rfl,h.elim id id⟩
 ·exact part (l1:=lX) (l2:=lT) B hA (qp (cC hK) rfl) G (more:=[]) h2 lb (λh=>bG h) (λsym=>by kernel_rfl) aaB ad2 UT US λs' h=>⟨rfl,h⟩
 ·rcases G with G|G
  ·refine part (l1:=kG) (l2:=kG) B hA (TY hK) G (more:=[]) h3 UT (λh=>bG h) (λsym=>by kernel_rfl) (λrest cnt=>⟨[],trivial,below_1⟩) GY Uu Uu λs' h=>⟨rfl,?_⟩;rw[if_neg (by decide)];exact xV ⟨rfl,.inl (h.elim id id)⟩
  ·refine part (l1:=kL) (l2:=kL) B hA (TY hK) G (more:=[]) h3 US (λh=>bG h) (λsym=>by kernel_rfl) (λrest cnt=>⟨[],trivial,below_2⟩) GY UX UX λs' h=>⟨rfl,?_⟩;rw[if_neg (by decide)];exact xV ⟨rfl,.inr (h.elim id id)⟩
noncomputable def Fin(h0_:cy)(os:jL)(s':aE):Prop:=(∀b o,h0_.get? b=aa o->s'.heap.get? b=aa o)/\s'.gens= #[]/\s'.os=os/\∀t∈[931,943,948,936],∃ps,s'.heap.get? t=aa (tabObj ps)
structure Ent(l:List (Nat×AO)):Prop where
 q:(stN l).add (.ns [])=(1190,(Ka l).2)
 c:eN nk.cells [] (Ka l).2=(Hj,(J2 l).2)
 b:bindAll ⟨1190,1190,Hj,941⟩ nk.cells nk.params [.ref 1006,.ref 1002] (J2 l).2=aa (JD l)
 g:(JD l).get 1190=aa (.ns [(bM,.ref 1002)])
 law:(stN l).get 1000=aa jf
theorem ain:Ent kG:=⟨by kernel_rfl,by kernel_rfl,by kernel_rfl,by kernel_rfl,by kernel_rfl⟩
theorem aj0:Ent kL:=⟨by kernel_rfl,by kernel_rfl,by kernel_rfl,by kernel_rfl,by kernel_rfl⟩
theorem abt(v:Bool)(wy:Nat):(Ak v wy).get 1000=aa jf:=by cases v<;>kernel_rfl
theorem acd(v:Bool)(wy:Nat):(Ak v wy).get 1190=aa (.ns [(bM,.top),(rU,.top),(tX,.top),(vG,.int (.lit 0)),(rZ,.int (.lit wy))]):=by cases v<;>kernel_rfl
theorem ahI{sym:Nat->Nat->Option (List Nat)}:(br sym).fn 941=aa nk:=by kernel_rfl
theorem ac7{sym:Nat->Nat->Option (List Nat)}:(br sym).may 941=ah:=by kernel_rfl
theorem Hw{sym:Nat->Nat->Option (List Nat)}:(br sym).tabOf 941=aa 936:=by kernel_rfl
theorem CG{o:Option AO}(h:zy o=ah):∃made,o=aa (.tab made):=by obtain⟨m,h⟩:=Option.isSome_iff_exists.mp h;refine oE h λa e h=>⟨m,?_⟩;rw[e,Ci h]
theorem aeC{f:Flow}{U:ES}(h:uy f U=ah):f= .ret (.bool ah)/\∀t∈[931,943,948,936],∃made,U.get t=aa (.tab made):=by
 obtain⟨hf,h⟩:=Bool.and_eq_true_iff.mp h;rw[bJ,bJ,bJ]at h;refine⟨afE hf,λt ht=>?_⟩;simp only[iy,gQ,or_false]at ht;rcases ht with rfl|rfl|rfl|rfl
 ·exact CG h.1.1.1
 ·exact CG h.1.1.2
 ·exact CG h.1.2
 ·exact CG h.2
theorem Cp{w:bX}{h0_:cy}{os:jL}{rest:List Nat}{cnt:Nat}{num n8:Int}{t:Nat}:t∈(dD w h0_ os rest cnt num n8).tabs ↔ t∈[948,943,936,931]:=Iff.rfl
theorem abk(v:Bool)(wy:Nat)(h:wy=0\/wy=1):allR uy (z9 v wy)=ah:=by
 rcases h with rfl|rfl<;>cases v
 ·exact aak
 ·exact aav
 ·exact aaU
 ·exact abg
theorem Zy(B:Base w h0_){rest:List Nat}{cnt:Nat}{num n8:Int}(h1:rest.length<=40)(h2:cnt<=100000){A':cR}{env':Env}{sc':cu}{bq:List fR}{f:Nat}{v:Bool}{wy:Nat}(hw:wy=0\/wy=1){Y:Nat->aG}
  (S:aZ (dD w h0_ os rest cnt num n8) (br (lC [])) 39 A' sc' AQ env' (Ak v wy) Y s) (T:iF A' env') (hq:bB (cS fk f sc') bq=aa Dp):
  aC (model PySem.Challenge.rw_pq0494_01.row.prog w) A' (execs bq env') (λfl s'=>∃v,fl= .ret v/\v= .bool ah/\Fin h0_ os s') (λ_ _=>False) s:=by
 have N:=bL.all (Aw (sym:=lC []) (os:=os) (rest:=rest) (cnt:=cnt) (num:=num) (n8:=n8) B) (Ca (FL:=gK) B (Hf (dl:=[]) trivial) (cL (cC h2) rfl) (kH (cC h1) rfl)) 3000;refine N.s hq S T (PR.jk (RW.pr (P:=λf U=>uy f U=ah) (GG (abk v wy hw)) λfl fz ρ6 s6 b6 P6 R6 X6 V6=>?_));obtain⟨rfl,ht⟩:=aeC P6;refine aV V6 λu dQ V7=>?_;try clear V6;subst dQ
 obtain rfl:u= .bool ah:=V7;have S6:=S.ext R6 X6;refine⟨_,rfl,rfl,R6.base,R6.gens,R6.os,λt h=>?_⟩;obtain⟨made,hm⟩:=ht t h;refine Df (R6.obj t _ hm) λr r1 ps r2 _=>?_;have h':t∈([948,943,936,931]:List Nat):=by have h:t∈([931,943,948,936]:List Nat):=h;simp only[iy,gQ,or_false]at h;rcases h with e|e|e|e<;>rw[e]<;>decide
 have hρ:ρ6 t=t:=(S6.F.tb t (Cp.mpr h')).2;rw[hρ,r2]at r1;exact⟨ps,r1⟩
theorem U'{v:Bool}{l:List (Nat×AO)}(hl:(v=ak/\l=kG)\/(v=ah/\l=kL))(rest:List Nat)(cnt:Nat):∃dl,rj rest cnt 0 dl/\allR (ji v) (jT dl l)=ah:=by
 have h0:dG rest cnt 0 % 4=0\/dG rest cnt 0 % 4=1\/dG rest cnt 0 % 4=2\/dG rest cnt 0 % 4=3:=by exact ais
 have h1:dG rest cnt 1 % 2=0\/dG rest cnt 1 % 2=1:=by exact Ip
 have one:∀{x y:Nat},x=y->x∈[y]:=λh=>by rw[h];exact .head _
 have m2:dG rest cnt 2 % 8∈[0,1,2,3,4,5,6,7]:=by simp only[iy,gQ,or_false];exact aku
 have m3:dG rest cnt 3 % 2∈[0,1]:=by simp only[iy,gQ,or_false];exact Ip
 rcases hl with⟨rfl,rfl⟩|⟨rfl,rfl⟩
 ·rcases h0 with h0|h0|h0|h0<;>rcases h1 with h1|h1
  ·exact⟨_,by exact⟨one h0,one h1,m2,m3,trivial⟩,Yx⟩
  ·exact⟨_,by exact⟨one h0,one h1,m2,m3,trivial⟩,Yy⟩
  ·exact⟨_,by exact⟨one h0,one h1,m2,m3,trivial⟩,Yw⟩
  ·exact⟨_,by exact⟨one h0,one h1,m2,m3,trivial⟩,Yc⟩
  ·exact⟨_,by exact⟨one h0,one h1,m2,m3,trivial⟩,XR⟩
  ·exact⟨_,by exact⟨one h0,one h1,m2,m3,trivial⟩,YC⟩
  ·exact⟨_,by exact⟨one h0,one h1,m2,m3,trivial⟩,X8⟩
  ·exact⟨_,by exact⟨one h0,one h1,m2,m3,trivial⟩,Yt⟩
 ·rcases h0 with h0|h0|h0|h0<;>rcases h1 with h1|h1
  ·exact⟨_,by exact⟨one h0,one h1,m2,m3,trivial⟩,XW⟩
  ·exact⟨_,by exact⟨one h0,one h1,m2,m3,trivial⟩,XZ⟩
  ·exact⟨_,by exact⟨one h0,one h1,m2,m3,trivial⟩,Yq⟩
  ·exact⟨_,by exact⟨one h0,one h1,m2,m3,trivial⟩,Yd⟩
  ·exact⟨_,by exact⟨one h0,one h1,m2,m3,trivial⟩,XU⟩
  ·exact⟨_,by exact⟨one h0,one h1,m2,m3,trivial⟩,Yp⟩
  ·exact⟨_,by exact⟨one h0,one h1,m2,m3,trivial⟩,Yr⟩
  ·exact⟨_,by exact⟨one h0,one h1,m2,m3,trivial⟩,Yl⟩
theorem QX(B:Base w h0_)(hA:A.frames=aa [env])(hK:K<=10000){v:Bool}{l:List (Nat×AO)}(hl:(v=ak/\l=kG)\/(v=ah/\l=kL))(G:Good w h0_ os A env sc K l s){id:Str}{p pos rp:Pos}{es:List aS}{E:ay->aE->Prop}
  (hf:cE fk 99 sc (.Name id p)=aa (.az (.adr 941))) (hes:bB (cE fk 99 sc) es=aa [.loc aJ,.loc bM]):
  aC (model PySem.Challenge.rw_pq0494_01.row.prog w) A (exec (.Return (aa (.Call (.Name id p) es [] pos)) rp) env) (λf s'=>f= .ret (.bool ah)/\Fin h0_ os s') E s:=by
 refine NH G λrest cnt num n8 Y h1 h2 S=>?_;try clear G
 refine aV (U' hl rest cnt) λdl hd hr=>?_;have O:=Aw (sym:=lC dl) (os:=os) (rest:=rest) (cnt:=cnt) (num:=num) (n8:=n8) B;have N:=bL.all O (Ca (FL:=gK) B (Hf hd) (cL (aT (aM h2) (cC hK)) rfl) (kH (cC h1) rfl)) 3000;have S':aZ (dD w h0_ os rest cnt num n8) (br (lC dl)) 40 A sc fD env (stN l) Y s:=S.sy;have en:Ent l:=by
  rcases hl with⟨_,rfl⟩|⟨_,rfl⟩
  ·exact ain
  ·exact aj0
 refine Xh ?_;rw[show eval (.Call (.Name id p) es [] pos) env=(do callWith pos (<-eval (.Name id p) env) [] (backTo pos (starEach es env)) (backToKw pos (keywordEach [] env)))from rfl];refine aF (N.v hf S' (RW.pr (P:=λv σ'=>v= .adr 941/\σ'=stN l) (cI ⟨rfl,rfl⟩) λa σ1 bF s1 b1 P R X V=>?_));obtain⟨rfl,rfl⟩:=P;obtain rfl:b1= .ref 941:=V;refine YV O.toOkd N (S'.ext R X) hes (P:=λvs σ'=>vs=[.ref 1006,.ref 1002]/\σ'=stN l) (aW (aP (show(stN l).get fD.loc=aa jf from en.law) rfl (aW (aP (show(stN l).get fD.loc=aa jf from en.law) rfl (bG ⟨rfl,rfl⟩))))) ac7 λ{vs σ2 bU s2 b2} P S2 X2 V2=>?_;obtain⟨rfl,rfl⟩:=P;refine yt (ZT (Q:=λv s'=>PySem.Flow.ret v= .ret (.bool ah)/\Fin h0_ os s') O.toOki (O.fn 941 nk ahI rfl) rfl S2.R S2.F V2 en.q en.c en.b en.g λ{f sc' body env' dg s3} hc S3 X3 T3=>?_);have hc:bB (cS fk f sc') body=aa (Je++Dp):=by rw[show Je++Dp=nk.body from xK 10 _];exact hc
 refine fE (Zs hc) λbp bq ig hp hq=>?_;subst ig;refine Zu (N.s hp S3 T3 (PR.jk (RW.pr (P:=λf U=>ji v f U=ah) (GG hr) λfl bA gy s4 b4 P4 R4 X4 V4=>?_)));obtain⟨rfl,wy,hw,hm⟩:fl= .next/\∃wy,(wy=0\/wy=1)/\Jh v wy bA=ah:=by
  unfold ji at P4;split at P4
  ·rcases Bool.or_eq_true_iff.mp P4 with h|h
   ·exact⟨rfl,0,.inl rfl,h⟩
   ·exact⟨rfl,1,.inr rfl,h⟩
  ·exact cB P4
 obtain rfl:b4= .next:=by cases V4;rfl
 refine⟨rfl,?_⟩;have hm:(wI ⟨lastOf bA,af⟩ (zH bA (lE v wy) []) 0 1210 bA (lE v wy)&&PX (zH bA (lE v wy) []))=ah:=hm;rw[bJ]at hm;generalize zH bA (lE v wy) []=π at hm;have rt:∀t∈Pc,gO π t=t:=λt ht=>gW (List.all_eq_true.mp hm.2 t ht);have S4:=S3.ext R4 X4;have hAd:(A.deeper env').frames=aa [env',env]:=by show A.frames.map (env':: ·)=_;rw[hA];rfl
 have Ay:=X3.trans S2.R.lt S3.R.lt X4;have S5:aZ (dD w h0_ os (rest.drop 0) (cnt+0) (num+(gx.mk (lastOf bA) af).o7) ((gx.mk (lastOf bA) af).n8 num n8)) (br (lC [])) 39 (A.deeper env') sc' AQ env' (Ak v wy) (λy=>gy (gO π y)) s4:=by
  refine aZ.KG S4 (Rel.sim hm.1 S4.R) rfl rfl rfl hAd (λp hp=>?_) ⟨rt _ (by decide),by show 1190<1210;decide⟩ rfl ⟨_,acd v wy,rfl⟩ (λL hL=>⟨1000,jf,abt v wy,rfl,?_⟩) (λt ht=>?_) (by show(br (lC [])).tabOf 941=(br (lC dl)).tabOf 941;rw[Hw,Hw]) λtb htb=>?_
  ·have hp:p∈[(lK,1195),(fh,1194),(mj,1193),(lN,1192),(aJ,1191)]:=hp;simp only[iy,gQ,or_false]at hp;rcases hp with rfl|rfl|rfl|rfl|rfl
   ·exact⟨rt 1195 (by decide),by show 1195<1210;decide⟩
   ·exact⟨rt 1194 (by decide),by show 1194<1210;decide⟩
   ·exact⟨rt 1193 (by decide),by show 1193<1210;decide⟩
   ·exact⟨rt 1192 (by decide),by show 1192<1210;decide⟩
   ·exact⟨rt 1191 (by decide),by show 1191<1210;decide⟩
  ·rw[rt 1000 (by decide)];have e1:=S2.N.fr.1;rw[e1]at hL
   (injection hL with hL;subst hL)
   exact Ay.ag 1000 (by show 1000<1190;decide)
  ·have ht:=Cp.mp ht;simp only[iy,gQ,or_false]at ht;rcases ht with rfl|rfl|rfl|rfl
   ·exact⟨rt 948 (by decide),by show 948<1210;decide⟩
   ·exact⟨rt 943 (by decide),by show 943<1210;decide⟩
   ·exact⟨rt 936 (by decide),by show 936<1210;decide⟩
   ·exact⟨rt 931 (by decide),by show 931<1210;decide⟩
  ·have htb:(br (lC dl)).tabOf 941=aa tb:=htb;rw[Hw]at htb
   (injection htb with htb;subst htb)
   exact Cp.mpr (by decide)
 refine eL (Zy B (by rw[Bw];exact h1) (qp (aT (aM h2) (cC hK)) rfl) hw S5 T3 hq) (λfl s' h=>?_) λ_ _ h=>h;refine fS h λu e jW F=>?_;try clear h;subst jW
 exact⟨_,e,rfl,F⟩
end
structure TZ(b:List fR)(sc:cu)where
 ts:List aS
 es:List aS
 rf:List fR
 (e1 e2 e3 c1 c2 c3:aS)
 st2:fR
 id:Str
 names:List Str
 (k k':Nat)
 (pt p' pos pb pi pn pc rp:Pos)
 b0:b=[.Assign [.Tuple ts k pt] (.Tuple [e1,e2,e3] k' p') pos,st2,.If (.BoolOp .Or [c1,c2,c3] pb) rf [] pi,.Return (aa (.Call (.Name id pn) es [] pc)) rp]
 b1:sf sc ts [e1,e2,e3]=aa (aa names)
 b2:bB codeN names=aa [bM,aJ,jF]
 b3:cE fk 99 sc e1=aa (.call (.az (.adr 898)) [.loc fO])
 b4:cE fk 99 sc e2=aa (.call (.az (.adr 889)) [.dict []])
 b5:cE fk 99 sc e3=aa (.cmp (.call (.az (.bi 2)) [.loc fO]) .Gt (.int 1))
 b6:cS fk 100 sc st2=aa Jb
 b7:cE fk 100 sc c1=aa (.dU (.call (.az (.adr 934)) [.loc aJ,.loc bM,.int 30]))
 b8:cE fk 100 sc c2=aa (.dU (.call (.az (.adr 946)) [.loc aJ,.loc bM]))
 b9:cE fk 100 sc c3=aa (.dU (.call (.az (.adr 951)) [.loc aJ,.loc bM]))
 s8:cE fk 99 sc (.Name id pn)=aa (.az (.adr 941))
 Uz:bB (cE fk 99 sc) es=aa [.loc aJ,.loc bM]
theorem ahW:∃d kwd,defOf q0 lw.row.toRowW.name=aa (d,kwd)/\lw.row.prog.theDef lw.row.toRowW.name=aa (d.params,d.body,d.scope)/\kwWritten? d.params.kwonlyargs d.params.kw_defaults=aa kwd/\Nonempty (TZ d.body d.scope)/\d.name=jc "law" :=
 ⟨_,_,by rfl,by rfl,by rfl,⟨⟨_,_,_,_,_,_,_,_,_,_,_,[jc "bag",jc "world",jc "large"],_,_,_,_,_,_,_,_,_,_,rfl,by kernel_rfl,by kernel_rfl,by kernel_rfl,by kernel_rfl,by kernel_rfl,by kernel_rfl,by kernel_rfl,by kernel_rfl,by kernel_rfl,by kernel_rfl,by kernel_rfl⟩⟩,by rfl⟩
noncomputable abbrev TB:List (aG×aG):=[(950,948),(945,943),(940,936),(933,931)]
theorem abC{w:bX}{h:cy}{loose:List Str}{mean:ExcName->Option ay}{mg mb:Str->Option ay}(hT:TabsAt TB h)(KX:(gJ w).In h)(hk:noTabs (gJ w)=ah)(T:Top q0 loose mean mg mb h):Base w (ghostOf h TB)where
 K:=ghost_K hT KX hk
 lim:=(FN hT T).nolimit
 sys:=by refine aV ((T.seer akl).mods) λmm dQ _=>?_;obtain⟨o,es,ep,ho,hd,_⟩:=dQ;exact⟨o,ghost_get hT ho λq=>by rw[q]at hd;contradiction⟩
 glob:=⟨mg,mb,(FN hT T).g,(FN hT T).b,λx hx=>T.builtins x hx,(FN hT T).bmain⟩
 code:=λq hq=>by
  refine Rh (ghost_code hT) λc1 c2 c3 c4 _=>?_;have hq:q∈[(950,948),(945,943),(940,936),(933,931)]:=hq;simp only[iy,gQ,or_false]at hq;rcases hq with rfl|rfl|rfl|rfl
  ·exact c1
  ·exact c2
  ·exact c3
  ·exact c4
section
variable{w:bX}{s:aE}{xs:List Int}{its:List ay}{w2:Nat}{bd:List fR}{sc:cu}
theorem akm(hT:TabsAt TB s.heap)(hg:s.gens= #[]):Rel (W1 w (ghostOf s.heap TB) s.os xs) AM.st (λx=>x) s:=by
 have at':∀{x:Nat} {o:AO},AM.st.get x=aa o->o= .tab []/\(x=948\/x=943\/x=936\/x=931):=λ{x o} h=>by
  have h:(jl sq).get x=aa o:=h;have hm:=r5 h;have hm:(x,o)∈[(931,.tab []),(936,.tab []),(943,.tab []),(948,.tab [])]:=hm;simp only[iy,gQ,or_false,BB]at hm;rcases hm with⟨rfl,rfl⟩|⟨rfl,rfl⟩|⟨rfl,rfl⟩|⟨rfl,rfl⟩
  ·exact⟨rfl,.inr (.inr (.inr rfl))⟩
  ·exact⟨rfl,.inr (.inr (.inl rfl))⟩
  ·exact⟨rfl,.inr (.inl rfl)⟩
  ·exact⟨rfl,.inl rfl⟩
 have tb:∀{x:Nat},(x=948\/x=943\/x=936\/x=931)->s.heap.get? x=aa (tabObj #[]):=λh=>by
  rcases h with rfl|rfl|rfl|rfl
  ·exact(hT (950,948) (.head _)).2
  ·exact(hT (945,943) (.tail _ (.head _))).2
  ·exact(hT (940,936) (.tail _ (.tail _ (.head _)))).2
  ·exact(hT (933,931) (.tail _ (.tail _ (.tail _ (.head _))))).2
 refine⟨λb o e=>of_hideAll _ e,λx o h=>?_,λx o h=>?_,λx y o p _ _ e=>e,λx o h=>?_,hg,rfl⟩
 ·obtain⟨rfl,hx⟩:=at' h;exact⟨_,tb hx,#[],rfl,rfl,nofun⟩
 ·obtain⟨rfl,hx⟩:=at' h;refine hideAll_none _ ?_;show x∈[948,943,936,931];rcases hx with rfl|rfl|rfl|rfl<;>decide
 ·obtain⟨rfl,hx⟩:=at' h;show x<1000;exact Rq hx
theorem ad6:(Cb w2 xs).fn 958=aa Hu:=by kernel_rfl
theorem aiT:(AM.add (.ns [])).1=1000:=by kernel_rfl
theorem Ye(B:Base w (ghostOf s.heap TB))(hT:TabsAt TB s.heap)(hg:s.gens= #[])(hL:s.heap.IsList w2 its.toArray)(hI:vP its xs)(hx:xs.length<=1000)(hfd:∃o fd,s.heap.get? 958=aa o/\o.data= .func fd/\fd.body= .stmts bd/\fd.scope=sc)(Q:TZ bd sc):
  fj (model PySem.Challenge.rw_pq0494_01.row.prog w) callerA (.call (.ref 958) ⟨[.ref w2],[]⟩) (om (λv s'=>v= .bool ah/\Fin (ghostOf s.heap TB) s.os s') (λ_ _=>False)) s:=by
 have hL':=ghost_list hT hL;have O:=Uk (os:=s.os) B hL' hI;have F:eu (W1 w (ghostOf s.heap TB) s.os xs) 41 callerA AM.st (λx=>x) s.heap:=by refine⟨by decide,by decide,λ_=>rfl,⟨[],rfl,trivial,λ_ h=>(gQ h).elim⟩,λt ht=>⟨?_,rfl⟩⟩;have ht:=Cp.mp ht;simp only[iy,gQ,or_false]at ht;show t<1000;rcases ht with e|e|e|e<;>rw[e]<;>decide
 refine pY hfd λo' fd' q1 q2 q3 q4=>?_;try clear hfd
 have q1:=ghost_get hT q1 λq=>by rw[q]at q2;cases q2
 have b0:=Q.b0;refine aab (d:=40) (Y:=λx=>x) (σ3:=S0 w2) (as:=[.adr w2]) O.toOki (O.fn 958 Hu ad6 rfl) rfl rfl (akm hT hg) F (.cons rfl .nil) (by kernel_rfl) (kvs:=[(fO,.adr w2)]) (by kernel_rfl) λ{fd body o env dg s3} g1 g2 g3 S3 T3=>?_;have g1:(ghostOf s.heap TB).get? 958=aa o:=g1;rw[g1]at q1;cases q1;rw[g2]at q2;cases q2;rw[q3]at g3;cases g3;rw[b0];subst q4;rw[aiT]at S3;have hA:(callerA.deeper env).frames=aa [env]:=rfl;refine Br (eL (afQ B hA hL' hI hx S3 Q.b1 Q.b2 Q.b3 Q.b4 Q.b5) (λf s4 h=>?_) λ_ _ h=>h);obtain⟨rfl,lg,gy,S4⟩:=h;refine Br (eL (af6 B hA S4 Q.b6) (λf s5 h=>?_) λ_ _ h=>h);obtain⟨rfl,G5⟩:=h;refine Br (eL (afp B hA (by decide) G5 Q.b7 Q.b8 Q.b9) (λf s6 h=>?_) λ_ _ h=>h);obtain⟨rfl,G6⟩:=h;refine Br ?_;rcases G6 with G6|G6
 ·refine eL (QX (v:=ak) B hA (by decide) (.inl ⟨rfl,rfl⟩) G6 Q.s8 Q.Uz) (λf s7 h=>?_) λ_ _ h=>h;obtain⟨rfl,h⟩:=h;exact⟨_,rfl,rfl,h⟩
 ·refine eL (QX (v:=ah) B hA (by decide) (.inr ⟨rfl,rfl⟩) G6 Q.s8 Q.Uz) (λf s7 h=>?_) λ_ _ h=>h;obtain⟨rfl,h⟩:=h;exact⟨_,rfl,rfl,h⟩
end
end Mine
end
section
namespace Mine
open PySem PySem.W PySem.Calls PyProof.Rows PySem.SeqAt PySem.F
noncomputable section
theorem agt:LeftO pr q0 nms (λ_=>ah) (λs=>s.heap) (λw=>absHeap (theEnd w).tree (theEnd w).n (theEnd w).life) 8001:=
 abT λw=>⟨theEnd w,(xy w).ends,(xy w).st,(xy w).seen,rfl⟩
noncomputable def Behind(w:bX)(h:cy):Prop:=(gJ w).In h/\h.get? 948=aa (tabObj #[])/\h.get? 943=aa (tabObj #[])/\h.get? 936=aa (tabObj #[])/\h.get? 931=aa (tabObj #[])
theorem Z8(w:bX)(s:aE)(e:s.heap=absHeap (theEnd w).tree (theEnd w).n (theEnd w).life):Behind w s.heap:=by have t:=(xy w).tabs;unfold PE at t;simp only[ER]at t;rw[e];refine⟨?_,yU t.1,yU t.2.1,yU t.2.2.1,yU t.2.2.2.1⟩;unfold gJ;exact aai
theorem Behind.keeps(w:bX)(h h':cy)(B:Behind w h)(k:∀b o,h.get? b=aa o->h'.get? b=aa o):Behind w h':=
 ⟨λa o e=>k _ _ (B.1 a o e),k _ _ B.2.1,k _ _ B.2.2.1,k _ _ B.2.2.2.1,k _ _ B.2.2.2.2⟩
theorem Behind.adl{w:bX}{h:cy}(B:Behind w h):TabsAt TB h:=λq hq=>by
 have hc:=List.all_eq_true.mp (vR w).2.2.2.1;have hq':q∈[(950,948),(945,943),(940,936),(933,931)]:=hq;refine⟨codeHd_of_K B.1 (hc q hq),?_⟩;simp only[iy,gQ,or_false]at hq';rcases hq' with rfl|rfl|rfl|rfl
 ·exact B.2.1
 ·exact B.2.2.1
 ·exact B.2.2.2.1
 ·exact B.2.2.2.2
end
end Mine
open PySem PySem.W PySem.Calls PyProof.Rows PySem.SeqAt PySem.F
set_option maxHeartbeats 8000000 in
set_option tactic.hygienic true in
theorem PySem.Challenge.cw_pq0494_01_holds : PySem.Challenge.rw_pq0494_01.Holds := by
 obtain⟨d,kwd,h1,h2,h3,⟨Q⟩,hn⟩:=Mine.ahW;refine holds_law Mine.said λsaid=>?_;refine holds_open (q:=Mine.q0) (loose:=Mine.nms) (Xt:=λ_=>ah) (XP:=λ_ _=>True) (YP:=Mine.Behind) Mine.agt Mine.Z8 Mine.Behind.keeps (λ_ _=>trivial) (λ_ _ _ _ _=>trivial) h1 h2 h3 (λ_ _=>recFacts_nil rfl) rfl said Mine.ok0 Mine.ag8 Mine.ajK ?_;intro w s0_ s1_ mg mb G ak8 fa o pm cd doc dV kV ho hd hcd hD hmg hg args vals as hpre hlay hrd hwl hlo;have KX:=ak8.1;have hT9:=ak8.adl;refine Ground.open G ?_
 intro T B D TE TW;have hfa:fa=958:=by have e1:=Mine.Mw KX T.g (Mine.aah w);rw[hn]at hmg;rw[e1]at hmg;cases hmg;rfl
 subst hfa;have hfd:∃o fd,s1_.heap.get? 958=aa o/\o.data= .func fd/\fd.body= .stmts d.body/\fd.scope=d.scope:=⟨o,_,ho,hd,rfl,rfl⟩;have hk:=(Mine.vR w).2.2.2.2.2;clear hd hcd hD hmg ho
 wrow_args hpre hlay hrd hwl hlo
 all_goals (
  first|refine callC_kw (enter_call ?_)|refine enter_call ?_
  kn_posts)
 rename_i xs _ _ _ _ _ _ _ w2 its _ hL _ _ _ hI _ hc _
 refine BJ (Mine.Ye (Mine.abC hT9 KX hk T) hT9 hg hL hI (Mine.ai1 hc) hfd Q) λr s' h=>?_;cases r with
 |error e=>exact h.elim
 |ok f=>
  cases f with
  |next=>exact h.elim
  |cont=>exact h.elim
  |brk=>exact h.elim
  |ret v=>obtain⟨rfl,k1,k2,k3,k4⟩:=h;have g1:=k4 948 (by decide);have g2:=k4 943 (by decide);have g3:=k4 936 (by decide);have g4:=k4 931 (by decide);exact⟨⟨.inl ⟨_,.bool ah,[],rfl,λ_=>rfl,.bool ah,by kernel_rfl,λ_=>⟨xZ,nofun⟩⟩,k1,k3,k2⟩,g1,g2,g3,g4,trivial⟩
end
