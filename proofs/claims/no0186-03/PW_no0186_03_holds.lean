import PyProof.Rows.All
import Wide.All
import OpenK.AllK
import Wide.FinOn
import KE.KRevIter
import KE.KDictSum
import Lean
import PySem.Challenge.RW_no0186_03
set_option autoImplicit false
set_option linter.all false
set_option genCtorIdx false
set_option genSizeOf false
set_option genInjectivity false
set_option maxRecDepth 100000
set_option Elab.async false
set_option maxHeartbeats 8000000
set_option bootstrap.genMatcherCode false
set_option tactic.hygienic false
noncomputable section
local macro_rules
|`($c:char)=>λy=>match("a100897158637842290 b1582366286693 c6230994022 f1526583357044 j111863565712922486446909386356 k29028909779157184358610936885881 m1543761914995 o1861224063156749765404099319326667379 p7431401238237797656773434007450233 q109388970062261371602777502323 u101739320438647140 w5929854835 y7270166046139272155806917352252786 z6247772781 A26689852469287347570 B1720886839222231419348338 C399558432417132 D443021384642753003221115244 E6758814687394858888822 F7391621563157248401458788381389939 G8327796176364402537107088797765516207285496933 H25829672611287626355 I6030319980 J402925602104690 K2305843009213693951 L1552335400819 M6721636927027383591276 N6667233722873370993509 O447781419885367196255219558 P390775274630003 Q1000000 R1522288389732 S25755653471308708453 T1938966143961158221447987740652889459 U1897164968328812631054732654321497203 V7410800657534425848493992510123109 W1599429832051 X29425046964601494130652034790515 Y28873521731084510004641471294565 Z28553514230927730767136968502900 06722640649202348879732 16097038948 2114941589706983022890938690661 3109699635645612750339947324787 41599430227059 51522388266084 61518042969209 76230992238 86181118318 96364136223846793005 !433293403150942252400209515 #408354559388773 $1000 %1763479434849757986513260 &1720739053318992903368299 *6180401780 +6013939299 ,1582316088179 -1565236879724 .1539367400308 /1517942301043 :100000 ;410592219326053 <393034158994547 =6063810159 >5963211877 ?5929987949 @1582182855795 [1569298080616 ]1539468258916 ^6130328948 {409436856739188 |405072951600499 }390792119415653 ~6248424559".splitOn " ").find? (·.front==c.getChar) with|some s=>.ok<|Lean.Syntax.mkNumLit (s.drop 1).copy|y=>.error .unsupportedSyntax
local macro_rules
|`(tactic|show $e)=>`(tactic|exact $e)
local macro_rules
 |`(command|$d:declaration)=>λy=>let s:=d.raw;let t:=s[1];let k:=s[0][4].getNumArgs+t[0].getAtomVal.length;let f:=λx:Lean.Syntax=>x.rewriteBottomUp (·.setInfo .none);if t[0].getPos?.isSome then .ok (.node .none s.getKind #[if k=3∨k=6 then s[0].setArg 4 (Lean.mkNullNode #[.atom .none ""]) else s[0],if k%9=0 then f t else t.setArg 0 (f t[0])]) else .error .unsupportedSyntax
local macro_rules
 | `(⋯)=>`(by decide)
namespace Mine
def k_{p:Prop}(h:p:=by kernel_rfl):p:=h
def d_{p:Prop}(h:p:=by decide+kernel):p:=h
def h_{J:Type}{a:J}{l:List J}:a∈a::l:=.head _
end Mine
open Nat renaming le_trans→aA,le_refl→aV,le_add_right→aY,add_assoc→bH,le_of_eq→bJ,zero_le→bK,add_comm→bQ,le_add_left→bU,add_le_add→bW,add_le_add_right→bX,lt_of_le_of_lt→bZ,succ_le_succ→bj,lt_of_lt_of_le→b6,add_le_add_left→b7,le_succ→b8,zero_add→cT,lt_succ_self→c5,add_right_comm→dX,mul_le_mul_left→dY,le_of_lt→dc,le_succ_of_le→eM,le_of_succ_le→eT,lt_irrefl→eU,ne_of_lt→eV,le_of_succ_le_succ→gN,lt_trans→iB,ne_of_gt→iC,lt_succ_of_le→ip,mul_succ→jP,succ_pos→jQ,not_succ_le_zero→jy,le_of_lt_succ→kr,le_max_left→ly,le_max_right→l4,sub_le→nB,le_of_not_lt→qF,lt_succ_of_lt→qG,sub_self→qH,add_sub_cancel_left→rh,lt_add_of_pos_right→ri,min_le_right→rj,min_eq_left→uQ,mul_add_one→uR,not_lt_zero→uS,succ_add_eq_add_succ→uT,eq_of_beq_eq_true→wx,le_antisymm→wy,mod_lt→wz,mul_add→w0,one_pos→w3,sub_lt→w4,succ_add→w5,add_add_add_comm→Dx,add_left_comm→Dy,add_lt_add_right→Dz,exists_eq_add_of_le→D0,lt_of_not_le→D1,lt_of_succ_lt→D2,min_eq_right→D3,min_self→D4,mul_comm→D5,ne_of_beq_eq_false→D6,pow_succ→D7,sub_add_cancel→D8,add_lt_add_left→JW,add_right_cancel→JX,add_sub_cancel'→JY,le_of_ble_eq_true→JZ,le_of_sub_eq_zero→Ja,le_total→Jb,lt_or_ge→Jc,mul_two→Jd,not_lt_of_le→Je,one_le_of_lt→Jf,one_ne_zero→Jg,pos_of_ne_zero→Jh,add_left_cancel→TX,eq_zero_of_not_pos→TY,le_mul_of_pos_right→TZ,lt_add_of_pos_left→Ta,lt_of_le_of_ne→Tb,lt_of_sub_pos→Tc,mul_le_mul_right→Td,not_succ_le_self→Te
open PySem renaming wpAny_bind→aH,wpAny_pure→bA,wpAny_standAt→fV,wpAny_holding→fw,wpAny_of_eq→iZ,wpAny_newObj_type→kj,wpAny_mono→oQ,builtinLookup_eq_fast→oh,typeLookup_type→pZ,wpAny_call_entry→pz,isSubtype_type→sW,wpAny_field→t5,wpAny_specialOf→t6,wpAny_attempt→DA,wpAny_isInstance→DB,wpAny_rule→DC,wpAny_setField→DD,wpAny_assign_Name→II,wpAny_callSpecial?_slot→IJ,wpAny_comprehension_free→IK,wpAny_updateSeq→IL,call_meetsIn→Kq,fitsIndex_of→Lp,plainId_quiet→Pp,signature?_of→Qs,wpAny_execs_nil→R6,wpAny_getItem_list_slice→R7,wpAny_mkText→R8,wpAny_typeNameOfWhole_keyiter→R9,wpAny_typeNameOf_keyiter→SD,wpAny_typeOf→SF,exec_Assign_Name_used→WD,wpAny_isOneOf_keyiter→aIN,wpAny_isTrue_Compare1→aIO
open Bool renaming false_ne_true→aI,and_eq_true→eQ,or_eq_true→rP,false_and→t8,not_eq_true'→wL,or_false→wM,false_or→DK,and_false→IV,eq_iff_iff→IW,or_true→IX,true_and→IY,true_or→IZ,not_eq_true→SP
open List renaming length_map→aO,length_append→a5,append_assoc→bp,size_toArray→bu,map_append→bw,getElem?_eq_getElem→cK,map_cons→da,nodup_nil→d7,mem_of_getElem?→eK,not_mem_nil→eL,append_nil→fJ,length_cons→fK,getElem?_map→f3,mem_append_left→gF,map_map→gm,mem_append_right→gn,map_congr_left→jO,cons_ne_nil→jv,reverse_cons→jw,length_range→kq,getElem?_toArray→lx,getElem_mem→m8,length_nil→m9,mem_append→nA,length_drop→oS,length_reverse→oT,prefix_refl→oU,prefix_rfl→oV,getElem_idxOf→p9,lookup_cons→qA,mem_cons_self→qB,sum_cons→qC,any_cons→rV,getElem?_append_right→rW,getElem?_eq_none→rX,mem_map_of_mem→rY,prefix_append→rZ,toList_toArray→rf,all_cons→uJ,cons_append→uK,drop_zero→uL,filter_cons_of_neg→uM,filter_cons_of_pos→uN,flatMap_append→uO,take_of_length_le→uP,filterMap_cons→wd,filter_cons→wg,find?_cons→wh,foldl_append→wi,getElem?_append_left→wj,getElem?_set→wm,contains_iff_mem→Di,drop_eq_getElem_cons→Dj,drop_eq_nil_of_le→Dk,drop_nil→Dl,getElem?_range→Dm,idxOf_cons→Dp,idxOf_cons_self→Dq,length_take→Ds,map_take→Dt,mem_cons_of_mem→Du,take_append_drop→Dv,any_toArray→I4,append_toArray→I5,contains_cons→I6,drop_drop→I7,drop_length→I8,ext_getElem?→I9,find?_cons_of_neg→JA,find?_cons_of_pos→JB,flatMap_cons→JC,forall_mem_cons→JD,getElem?_drop→JE,getElem?_inj→JF,idxOf_append→JG,length_erase_of_mem→JH,map_drop→JI,mem_cons→JJ,mem_singleton→JK,nodup_append→JL,push_toArray→JM,set_append_right→JN,sum_append→JO,take_length→JP,take_nil→JQ,take_sublist→JR,zip_cons_cons→JS,all_eq_true→Sl,contains_eq_any_beq→Sn,countP_cons→Sq,countP_mono_left→Sr,count_singleton→Ss,drop_append_of_le_length→Su,drop_of_length_le→Sx,filter_congr→Sz,find?_append→S5,forall_mem_singleton→S6,getElem?_reverse→S7,getElem?_set_ne→S8,getElem?_set_self→S9,getElem?_zipIdx→TA,getLast?_eq_getElem?→TF,length_eq_zero_iff→TG,length_eraseIdx_of_lt→TH,length_filter_le→TJ,length_mergeSort→TK,length_pos_of_mem→TL,mem_erase_of_ne→TM,mem_of_find?_eq_some→TN,mem_of_mem_eraseIdx→TO,mergeSort_perm→TP,nodup_range→TQ,range'_succ→TS,range_eq_range'→TU,set_append_left→TV
open Option.some renaming inj→ai
open LawfulBEq renaming eq_of_beq→cJ
open Int renaming le_trans→du,natCast_nonneg→eI,le_of_eq→m7,le_of_lt→rT,lt_of_le_of_lt→rU,add_sub_cancel→uH,le_refl→wb,lt_irrefl→DZ,lt_of_lt_of_le→Dc,sub_sub→Dd,toNat_natCast→De,add_comm→Ir,add_nonneg→Iu,le_antisymm→Iv,sub_zero→Iw,mul_le_mul_of_nonneg_left→Sf,natAbs_lt_natAbs_of_nonneg_of_lt→Sg,natCast_eq_zero→Sh,sub_add_cancel→Si,toNat_of_nonneg→Sj
open Int.ofNat renaming inj→d6
open PySem.Heap renaming get?_push_size→eC,lt_size→iP,get?_update_self→m6,get?_push_of_some→p6,get?_update_other→rS,size_push→wa
open Prod renaming ext→iD
open Classical renaming byContradiction→ij,em→lb
open Iff renaming rfl→ju
open Ne renaming symm→ku
open PySem.Heap.SameBut renaming update→lu
open Prod.mk renaming inj→l6
open Array renaming length_toList→oR,ext'→IP,size_push→IQ,any_toList→SK,getElem?_eq_getElem→SM,getElem?_toList→SN,size_extract→SO
open Nat.succ renaming inj→oW
open PyProof.Rows renaming Call_→p0,args_cons→r9,args_nil→uc,getItem_tuple→MR
open List.cons renaming inj→p8
open And renaming left→rM
open PySem.Obj renaming data_mapFields→uU,isFreed_of_fields→Jj,cls_mapFields→Tg
open PySem.F renaming plain_extend_loop→wU,plainAttrs_list→DS,slot_dict_get→DT,plainAttrs_dict→Ii,entry_extend_loop→SX,slot_dict_keyiterator_next→SY
open PySem.SeqAt.EqAt renaming same→DQ,int_int→Ig,str_str→Ih
open Option renaming map_some→EA,or_none→Th
open PySem.Value renaming isInt_shape→EH
open PySem.W renaming piece_app→HL,segRun_of→Hi
open List.Pairwise renaming filter→Iz,sublist→I3
open PySem.Calls renaming Name_function_global→JV,evalArgs_plain→SQ
open PySem.Around renaming under_plainId→SJ
open PySem.StrLaws renaming sliced_plain→Tw,strSliceIndices_plain→Tx
open PySem.Value.ref renaming inj→T4
namespace Mine
def aB:=@if_neg
def aC:=@if_pos
def aF:=@congrArg
def a6:=@decide_eq_true
def bE:=@decide_eq_false
def dK:=@of_decide_eq_true
def j0:=@beq_self_eq_true
def kA:=@decide_eq_true_iff
def lB:=@beq_iff_eq
def lN:=@or_iff_left
def qO:=@and_congr_right
def vX:=@of_decide_eq_false
def vf:=@or_iff_right
def EM:=@and_congr_right'
def Eu:=@decide_eq_true_eq
end Mine
open Option renaming some→AA,none→AE,map→Bl,rec→CB,none→CU
open Bool renaming true→AB,false→AD,rec→Aa,noConfusion→CQ
open PySem renaming Value→AF,Shared→AG,compareOp→AI,Addr→AJ,Expr→AK,Str→AN,getItem→AP,wpAny→AQ,Params→AR,OsState→AU,DictEntry→AV,Heap→AW,binaryOp→AY,Operator→AZ,Around→Ab,Scope→Ac,starEach→Ad,World→Ah,model→Ai,tupleKind→Aj,mainGlobals→Al,Pos→An,Comprehension→Ap,treeTable→Aw,backTo→A1,swappedStores→A4,NameKind→A5,intKind→A6,Stmt→A9,typeLookup→BC,inplaceOp→BD,standAt→BE,spliced→BI,codeAny→BJ,compEnvC→BP,callEnvC→BR,builtinsNs→BS,cLine→BU,behindInMarks→BW,assignInOrder→BX,sizeLine→Ba,CmpOp→Bc,truthy→Be,setItem→Bf,pyIter→Bh,bootBuiltins→Bj,assignEach→Bk,importedModules→Bn,Env→Bp,holding→By,Program→B4,Obj→B5,attributeBase→B7,sysModules→B9,call→CA,valueAt→CC,callWith→CF,Keyword→CI,seqIndex?→CJ,rawInt→CK,BoolOp→CP,Arguments→CS,unpackItems→CT
open PySem.Builtin.Str renaming strSliceIndices→AL
open False renaming elim→AM
open List renaming rec→AO,range'→Af,range→Av,length→A8,cons→B6
open PySem.Heap renaming SameBut→AS,ExtBut→CW
open PySem.Value renaming none→AX,isInt→A7,int→Bz,isStrOf→B8,str→CN
open Pure renaming pure→Ae
open PySem.PyData renaming keyHash→Ak
open PySem.Str renaming ofString→Am
open Nat renaming beq→Ao,succ→BB,rec→BV,cast→Bb,ble→Bm,strongRecOn→Ca
open PySem.Builtin.List renaming listExtendWith→Aq,listTooLong→BY,listSameRef→BZ,listSubscript?→Ce
open Prod renaming fst→As
open PySem.Obj renaming mapSeq→Au,putName→CV
open PySem.W renaming boot_heap→Ay,InstAt→BA,emptyDict→BL,handedIn→BO,boot_drawn→Bi,findIn→Br,dictOf→Bu,noRoadLSs→Bx,SharedT→B3,plainOver→CL,keepIn→CM,instObj→Cc
open PySem.SetTable renaming eraseAt→Az,insertAt→CG
open PySem.Expr renaming Name→A0
open PySem.SeqAt renaming EqAt→A2
open PySem.Builtin.Int renaming intBits→A3
open PySem.NameKind renaming free→BF,cell→BG
open PySem.Builtin.Dict_items renaming ownsTuple→BH
open PySem.Builtin.Range renaming rangeFitsLong→BK
open PySem.W.WData renaming int→BN
open PySem.Builtin.Dict renaming showsAll→Bo
open Int renaming fmod→Bv
open Array renaming mk→Bw
open ToString renaming toString→CD
open PySem.Builtin.Frozenset renaming withSetAsKey→CO
open PySem.W.WShape renaming hasItems→CX
open PySem.Challenge renaming rw_no0186_03→CY,pw_no0186_03→CZ
open PySem.Builtin.SmallTypes renaming newRecord→Cb
section
open PySem PySem.W PySem.Calls PyProof.Rows PySem.SeqAt
namespace Mine
variable{α:Type}{P:Prop}
def aW{a:α}(h:a∈[]):P:=absurd h eL
set_option genCtorIdx true in
inductive V where
 |none|bool (b:Bool)|int (i:Int)|str (s:List Nat)|tup (l:List V)|lst (l:List V)|obj (i:Nat)
set_option genCtorIdx true in
set_option genInjectivity true in
inductive Atom where
 |int (i:Int)|str (s:List Nat)
 deriving DecidableEq
set_option genCtorIdx true in
set_option genInjectivity true in
inductive Cell where
 |lst (l:List V)|dict (aJ:List (Atom×V)) (st:Nat)|az (aJ:List (List Atom×V)) (st:Nat)|set (p:List Int)|inst (c:Nat) (flds:List (Nat×V))
abbrev AH:=List Cell
abbrev ae:=Nat->Option V
def upd(F:ae)(x:Nat)(v:V):ae:=λy=>if y=x then AA v else F y
set_option genCtorIdx true in
inductive F1 where
 |len|list|tuple|sorted|str
set_option genCtorIdx true in
inductive Mt where
 |append|pop|insert|add|discard|f7|gv
inductive Op where
 |tup|lst|hN|q4|sub|lV|je|cut|attr (a:Nat)|bin (op:AZ)|cmp (op:Bc)|n4|hO|fm (l:List (List Nat))|f1 (f:F1)|listRev
mutual
inductive IE where
 |const (v:V)|var (x:Nat)|op (o:Op) (es:fI)|call (f:Nat) (es:fI)|gK (e:IE) (m:Nat) (es:fI)|bm (m:Mt) (e:IE) (es:fI)|jb (e a:IE)|new (c:Nat) (es:fI)|and (a b:IE)|or (a b:IE)|not (a:IE)|ite (c a b:IE)|comp (e:IE) (x:Nat) (it:IE)|gS (e:IE) (x:Nat) (n:IE)
inductive fI where
 |nil|cons (e:IE) (es:fI)
end
mutual
inductive IS where
 |asg (x:Nat) (e:IE)|gR (xs:List Nat) (e:IE)|swap (x y:Nat) (a b:IE)|cW (a i e:IE)|setAttr (o:IE) (a:Nat) (e:IE)|aug (x:Nat) (op:AZ) (e:IE)|mB (t:IE) (a:Nat) (op:AZ) (e:IE)|expr (e:IE)|ite (c:IE) (a b:aL)|eG (c:IE) (b:aL)|forIn (x:Nat) (e:IE) (b:aL)|forR (x:Nat) (n:IE) (b:aL)|ret (e:IE)|cont|pass
inductive aL where
 |nil|cons (s:IS) (ss:aL)
end
inductive Fl where
 |aQ|brk|cnt|ret (v:V)
def aM:Nat:=16000000
def dG:Atom->V
 | .int i=>.int i| .str s=>.str s
section
variable{K W:Type}[DecidableEq K]
section
variable(l:List (K×W))(k:K)
def aa:Option W:=(l.find? λp=>decide<|p.1=k).map (·.2)
def cB(v:W):List<|K×W:=
 if l.any (λp=>decide<|p.1=k) then l.map (λp=>if p.1=k then(p.1,v) else p) else l++[(k,v)]
def qe:List<|K×W:=l.filter λp=>decide<|p.1≠k
end
end
def iS(c a:Nat):Bool:=c == 0&&(a == 'f'||a == 'a')
inductive iu(H:AH)(t:Bool):V->Prop
 |none (e:AD=t):iu H t .none|bool {b:Bool} (e:b=t):iu H t (.bool b)|int {i:Int} (e:(i != 0)=t):iu H t (.int i)|lst {i:Nat} {l:List V} (hc:H[i]?=AA (.lst l)) (e:(!l.isEmpty)=t):iu H t (.obj i)
def rC(l:List Int):List Int:=l.mergeSort<|λa b=>decide (a<=b)
def stampOf:Cell->Option Nat
 | .dict _ st=>AA st| .az _ st=>AA st|_=>AE
def jr(F:ae):List Nat->List V->ae
 |x::xs,v::vs=>jr (upd F x v) xs vs|_,_=>F
structure Jp where
 qo:Nat->Nat->Option Nat
 init:Nat->Option Nat
structure uE where
 params:List Nat
 body:aL
inductive Sm{α:Type}(o:Option α)(P:α->Prop):Prop
 |mk {v:α} (h:o=AA v) (p:P v)
inductive Ex{α:Type}(P:α->Prop):Prop
 |mk {v:α} (p:P v)
inductive bP(P Q:Prop):Prop
 |mk (p:P) (q:Q)
inductive Tq(v:V)(H:AH)(P:Bool->Prop):Prop
 |mk {t:Bool} (h:iu H t v) (p:P t)
def ud:Atom->AF->Bool
 | .int i,v=>A7 i v| .str s,v=>B8 ⟨s.toArray⟩ v
def Ue(w:Ah):Atom->Int
 | .int i=>hashInt i| .str s=>hashStr w ⟨s.toArray⟩
variable{s:List Nat}
def str_inj{r:List Nat}(h:(⟨s.toArray⟩:AN)=⟨r.toArray⟩):s=r:=List.toArray_inj<|aF Str.cps h
variable{q:Prop}
def VZ{p:Prop}[Decidable p][Decidable q](h:p↔q):decide p=decide q:=decide_eq_decide.mpr h
def KX[BEq α][LawfulBEq α]{a b:α}[Decidable q](h:a=b↔q):(a == b)=decide q:=by
 rw[IW,lB,kA];show h
inductive km:Atom->AF->Prop
 |int {i:Int} {t:Tok}:km (.int i) (.int i t)|str {s:List Nat} {t:Tok}:km (.str s) (.str ⟨s.toArray⟩ t)
theorem og:∀{k:Atom} {v:AF},ud k v=AB->km k v
 | .int _=>λh=>(EH h).elim λy e=>e▸.int| .str _=>λh=>(Value.isStrOf_shape h).elim λy e=>e▸.str
variable{k:Atom}{v:AF}
def km.is(h:km k v):ud k v=AB:=by
 rcases h with _|_;show j0 _;show j0 _
def Ug:AF->Option Atom
 | .int i _=>AA (.int i)| .str s _=>AA (.str s.cps.toList)|_=>AE
def km.of(h:km k v):Ug v=AA k:=by rcases h with _|_<;>rfl
def dZ(prog:B4)(w:Ah):KeyKind prog w Atom where
 is:=ud
 hash:=Ue w
 inj:=λv a b ha hb=>ai<|(og ha).of.symm.trans (og hb).of
 byValue:=λk v h=>by rcases og h with _|_<;>rfl
 pyHash:=λh q=>by
  cases og h;show wpAny_pyHash_int q;show wpAny_pyHash_str q
 eqBool:=λ{A E s a b u v Q} B J q=>by
  rcases og B with _|_<;>cases og J
  show wpAny_eqBool_int<|(KX ⟨aF Atom.int,Atom.int.inj⟩)▸q;show EqAt.int_str _ _ _ _ prog w E Q (by rw[bE (λe=>nomatch e)] at q;show q)
  show EqAt.str_int _ _ _ _ prog w E Q (by rw[bE (λe=>nomatch e)] at q;show q)
  show wpAny_eqBool_str<|(VZ ⟨λe=>aF Atom.str<|str_inj e,λe=>aF (λl:List Nat=>(⟨l.toArray⟩:AN))<|Atom.str.inj e⟩)▸q
 «strs»:=λk x t v h=>by
  cases og h;rcases v with _|_<;>rfl
structure Wd where
 prog:B4
 w:Ah
 K:Frag
 h₀:AW
 cls:Nat->Option AJ
 mg:AN->Option AF
 mb:AN->Option AF
 attrs:List AN
 lJ:List AN
 f5:List AN
 T:Jp
 mJ:AN->Option Int
 mI:AN->Option Nat
 mG:AN->Option Nat
 nS:Nat->Option AJ
def au{x:α}(h:(AE:Option α)=AA x):P:=nomatch h
def q5{o:Option α}{x y:α}{P:α->Prop}(h:o=AA x)(J:o=AA y)(p:P x):P y:=ai (h.symm.trans J)▸p
variable{i:Nat}
def lO{l J:List α}(h:l <+:J){x:α}(e:l[i]?=AA x):J[i]?=AA x:=by
 obtain⟨t,rfl⟩:=h;rw[wj (List.getElem?_eq_some_iff.mp e).1];show e
def J9{l:List α}{x y:α}(h:(l++[x])[i]?=AA y):l[i]?=AA y\/(i=l.length/\x=y):=by
 rw[List.getElem?_append] at h;split at h
 show .inl h;rename_i q;have hi:=(List.getElem?_eq_some_iff.mp h).1;have e:=wy (Ja<|Nat.lt_one_iff.mp hi)<|qF q;subst e;rw[qH] at h;show .inr ⟨rfl,ai h⟩
variable{j:Nat}
def aFs{l:List α}{x y:α}(h:(l.set i x)[j]?=AA y):(i≠j/\l[j]?=AA y)\/(i=j/\x=y):=by
 rw[wm] at h;split at h
 .rename_i e;split at h
  show .inr ⟨e,ai h⟩;show au h
 rename_i e;show .inl ⟨e,h⟩
def yn(l:List α)(x:α):(l++[x])[l.length]?=AA x:=by rw[rW<|aV _,qH];rfl
structure Mu where
 g:List AJ
 l:List (AJ×Option AJ)
 st:Nat->Nat
def Mu.push(μ:Mu)(p:AJ×Option AJ):Mu:=⟨μ.g,μ.l++[p],λj=>if j=μ.l.length then 0 else μ.st j⟩
def Mu.bump(μ:Mu)(i:Nat):Mu:=⟨μ.g,μ.l,λj=>if j=i then μ.st j+1 else μ.st j⟩
def adr(p:AJ×Option AJ):List AJ:=p.1::p.2.toList
def foot(μ:Mu):List AJ:=μ.g++μ.l.flatMap adr
section
variable(h:AW)(a:AJ)(B:List AF)
def XL:Prop:=Ex λn=>h.get? a=AA {cls:=.type "list",data:=.seq B.toArray n}
def XT:Prop:=Ex λn=>h.get? a=AA {cls:=.type "tuple",data:=.seq B.toArray n}
end
variable{h h':AW}{a:AJ}{B:List AF}
def XL.is(x:XL h a B):h.IsList a B.toArray:=x.casesOn λe=>⟨_,e,rfl,_,rfl⟩
def XT.is(x:XT h a B):h.IsTuple a B.toArray:=x.casesOn λe=>⟨_,e,rfl,_,rfl⟩
def XL.at(x:XL h a B)(k:∀o,h.get? a=AA o->h'.get? a=AA o):XL h' a B:=x.casesOn λe=>⟨k _ e⟩
def XT.at(x:XT h a B)(k:∀o,h.get? a=AA o->h'.get? a=AA o):XT h' a B:=x.casesOn λe=>⟨k _ e⟩
def XL.some(x:XL h a B):∃o,h.get? a=AA o:=x.casesOn λe=>⟨_,e⟩
inductive Jn(μ:Mu)(X:AJ->List AF->Prop)(v:AF)(n:Nat)(P:List AF->Prop):Prop
 |mk {a:AJ} {B:List AF} (e:v=.ref a) (nf:a∉foot μ) (x:X a B) (z:n<=aM) (r:P B)
inductive SW(P:AF->Prop)(Q:List AF->Prop)(vs:List AF):Prop
 |mk {v:AF} {r:List AF} (e:vs=v::r) (p:P v) (q:Q r)
mutual
noncomputable def VR(μ:Mu)(h:AW):V->AF->Prop
 | .none,v=>v=.none| .bool b,v=>v=.bool b| .int i,v=>Ex λt=>v=.int i t| .str s,v=>Ex λt=>v=.str ⟨s.toArray⟩ t| .tup l,v=>Jn μ (XT h) v l.length (λB=>aT μ h l B)| .lst l,v=>Jn μ (XL h) v l.length (λB=>aT μ h l B)| .obj i,v=>Ex λp=>bP (μ.l[i]?=AA p)<|v=.ref p.1
noncomputable def aT(μ:Mu)(h:AW):List V->List AF->Prop
 | [],vs=>vs=[]|x::l,vs=>SW (λv=>VR μ h x v) (λr=>aT μ h l r) vs
end
variable{μ:Mu}{x y:V}{l:List V}{vs:List AF}{P:List AF->Prop}{t:Tok}{p:AJ×Option AJ}
def aT.cons(J:VR μ h x v)(e:aT μ h l vs):aT μ h (x::l)<|v::vs:=⟨rfl,J,e⟩
def aT.nil:aT μ h [] []:=rfl
def aT.one(J:VR μ h x v):aT μ h [x] [v]:=⟨rfl,J,rfl⟩
def aT.fU(e:aT μ h (x::l) vs)(k:∀v r,VR μ h x v->aT μ h l r->P (v::r)):P vs:=e.casesOn λe p q=>e▸k _ _ p q
def aT.jq(e:aT μ h [] vs)(k:P []):P vs:=(e)▸k
def aT.Rg(e:aT μ h [x] vs)(k:∀v,VR μ h x v->P [v]):P vs:=e.fU λv y hv r=>r.jq (P:=λr=>P<|v::r)<|k v hv
def aT.tg(e:aT μ h [x,y] vs)(k:∀v w,VR μ h x v->VR μ h y w->P [v,w]):P vs:=e.fU λv z hv r=>r.Rg (P:=λr=>P<|v::r) λw=>k v w hv
def aT.H9{z:V}(e:aT μ h [x,y,z] vs)(k:∀v w u,VR μ h x v->VR μ h y w->VR μ h z u->P [v,w,u]):P vs:=e.fU λv q hv r=>r.tg (P:=λr=>P<|v::r) λw u=>k v w u hv
def VR.cP{i:Int}{P:AF->Prop}(e:VR μ h (.int i) v)(k:∀t,P<|.int i t):P v:=e.casesOn λe=>e▸k _
def VR.hZ{P:AF->Prop}(e:VR μ h (.str s) v)(k:∀t,P<|.str ⟨s.toArray⟩ t):P v:=e.casesOn λe=>e▸k _
def VR.rI{b:Bool}{P:AF->Prop}(e:VR μ h (.bool b) v)(k:P<|.bool b):P v:=(e)▸k
def VR.ti{P:AF->Prop}(e:VR μ h .none v)(k:P .none):P v:=(e)▸k
def VR.gf{P:AF->Prop}(e:VR μ h (.tup l) v)(k:∀a B,a∉foot μ->XT h a B->l.length<=aM->aT μ h l B->P (.ref a)):P v:=e.casesOn λe a b c d=>e▸k _ _ a b c d
def VR.th{P:AF->Prop}(e:VR μ h (.lst l) v)(k:∀a B,a∉foot μ->XL h a B->l.length<=aM->aT μ h l B->P (.ref a)):P v:=e.casesOn λe a b c d=>e▸k _ _ a b c d
def VR.rJ{P:AF->Prop}(e:VR μ h (.obj i) v)(k:∀p,μ.l[i]?=AA p->P (.ref p.1)):P v:=e.casesOn λJ=>J.casesOn λC e=>e▸k _ C
def VR.gX{i:Int}:VR μ h (.int i)<|.int i t:=⟨rfl⟩
def VR.zY{i:List Nat}:VR μ h (.str i)<|.str ⟨i.toArray⟩ t:=⟨rfl⟩
def VR.vW{i:Bool}:VR μ h (.bool i)<|.bool i:=rfl
def VR.of_none:VR μ h .none .none:=rfl
def VR.vY(e:μ.l[i]?=AA p):VR μ h (.obj i)<|.ref p.1:=⟨⟨e,rfl⟩⟩
theorem aT.length:∀{l:List V} {vs:List AF},aT μ h l vs->vs.length=l.length
 | []=>λe=>e.jq (P:=λvs=>vs.length=0) rfl|_::l=>λe=>e.fU (P:=λvs=>vs.length=l.length+1) λy y y r=>aF (·+1) r.length
theorem aT.get:∀{l:List V} {vs:List AF},aT μ h l vs->∀{n:Nat} {x:V},l[n]?=AA x->Ex λv=>bP (vs[n]?=AA v) (VR μ h x v)
 | [],_,_,n,x=>λg=>au g|y::l,_,e,0,x=>λg=>e.fU (P:=λvs=>Ex λv=>bP (vs[0]?=AA v)<|VR μ h x v) λv r hv z=>⟨⟨rfl,ai g▸hv⟩⟩|y::l,_,e,n+1,x=>λg=>e.fU (P:=λvs=>Ex λv=>bP (vs[n+1]?=AA v)<|VR μ h x v) λv r z J=>J.get g
theorem aT.append:∀{l r:List V} {vs ws:List AF},aT μ h l vs->aT μ h r ws->aT μ h (l++r) (vs++ws)
 | [],r,_,ws=>λe J=>e.jq (P:=λvs=>aT μ h r<|vs++ws) J|x::l,r,vs,ws=>λe J=>e.fU (P:=λvs=>aT μ h (x::(l++r))<|vs++ws) λv q hv B=>.cons hv<|aT.append B J
theorem aT.take:∀{l:List V} {vs:List AF} (n:Nat),aT μ h l vs->aT μ h (l.take n) (vs.take n)
 | [],_,n=>λe=>e.jq (P:=λvs=>aT μ h (List.take n [])<|List.take n vs) (by rw[JQ,JQ];rfl)|x::l,_,0=>λe=>rfl|x::l,_,n+1=>λe=>e.fU (P:=λvs=>aT μ h (x::l.take n)<|List.take (n+1) vs) λv q hv J=>.cons hv<|aT.take n J
theorem aT.drop:∀{l:List V} {vs:List AF} (n:Nat),aT μ h l vs->aT μ h (l.drop n) (vs.drop n)
 | [],_,n=>λe=>e.jq (P:=λvs=>aT μ h (List.drop n [])<|List.drop n vs) (by rw[Dl,Dl];rfl)|x::l,_,0=>λe=>e|x::l,_,n+1=>λe=>e.fU (P:=λvs=>aT μ h (l.drop n)<|List.drop (n+1) vs) λv q hv J=>aT.drop n J
theorem aT.rev:∀{l:List V} {vs:List AF},aT μ h l vs->aT μ h l.reverse vs.reverse
 | []=>λe=>e.jq (P:=λvs=>aT μ h []<|List.reverse vs) rfl|x::l=>λe=>e.fU (P:=λvs=>aT μ h (x::l).reverse<|List.reverse vs) λv q hv J=>by
  rw[jw,jw];show aT.append (aT.rev J)<|.one hv
theorem aT.set:∀{l:List V} {vs:List AF} (n:Nat) {x:V} {v:AF},aT μ h l vs->VR μ h x v->aT μ h (l.set n x) (vs.set n v)
 | [],_,n,x,v=>λe z=>e.jq (P:=λvs=>aT μ h []<|List.set vs n v) rfl|y::l,_,0,x,v=>λe J=>e.fU (P:=λvs=>aT μ h (x::l)<|List.set vs 0 v) λu q z B=>.cons J B|y::l,_,n+1,x,v=>λe J=>e.fU (P:=λvs=>aT μ h (y::l.set n x)<|List.set vs (n+1) v) λu q hv B=>.cons hv<|aT.set n B J
structure cS(X:AJ->Prop)(μ:Mu)(h:AW)(μ':Mu)(h':AW):Prop where
 pre:μ.l <+:μ'.l
 gs:μ'.g=μ.g
 new:∀a∈foot μ',a∈foot μ\/h.get? a=AE
 keep:∀b o,h.get? b=AA o->b∉foot μ->¬X b->h'.get? b=AA o
 live:∀b o,h.get? b=AA o->Ex λo'=>bP (h'.get? b=AA o') (b∈foot μ->o'.cls=o.cls/\o'.dict=o.dict)
 gE:∀(i:Nat) (p:AJ×Option AJ),μ.l[i]?=AA p->μ.st i<=μ'.st i/\(μ'.st i=μ.st i->∀o,h.get? p.1=AA o->h'.get? p.1=AA o)
 gk:∀a∈μ.g,∀o,h.get? a=AA o->h'.get? a=AA o
abbrev Ext:=cS λy=>False
variable{X Y_:AJ->Prop}{μ' μ'':Mu}{o:B5}{b:AJ}
section
variable{h'':AW}
def xr(h:μ.l[i]?=AA p)(J:a∈adr p):a∈foot μ:=gn _<|List.mem_flatMap.mpr ⟨p,eK h,J⟩
def xt(h:μ.l[i]?=AA p):p.1∈foot μ:=xr h h_
def FK(μ:Mu)(p:AJ×Option AJ):foot (μ.push p)=foot μ++adr p:=by simp only[foot,Mu.push,uO,List.flatMap_singleton,bp]
def FJ(m:a∈foot (μ.push p)):a∈foot μ\/a∈adr p:=nA.mp<|FK μ p▸m
def cS.refl:cS X μ h μ h:=⟨oU _,rfl,λy m=>.inl m,λy y e y y=>e,λy o e=>⟨⟨e,λy=>⟨rfl,rfl⟩⟩⟩,λy y y=>⟨aV _,λy y e=>e⟩,λy y y e=>e⟩
def MB(h:μ.l <+:μ'.l)(g:μ'.g=μ.g)(m:a∈foot μ):a∈foot μ':=
 (nA.mp m).elim (λm=>gF _<|g▸m) λm=>gn _<|(List.mem_flatMap.mp m).elim λp J=>J.elim λC ha=>List.mem_flatMap.mpr ⟨p,h.subset C,ha⟩
def cS.none(a:cS X μ h μ' h'){x:AJ}(m:h'.get? x=AE):h.get? x=AE:=by
 rcases e:h.get? x with _|o;rfl;obtain⟨⟨J,_⟩⟩:=a.live x o e;show au<|m.symm.trans J
def cS.nf(E:cS X μ h μ' h')(B:a∉foot μ)(J:h.get? a=AA o):a∉foot μ':=λq=>(E.new a q).elim B λz=>au<|z.symm.trans J
def cS.trans(a:cS X μ h μ' h')(b:cS X μ' h' μ'' h''):cS X μ h μ'' h'' where
 pre:=a.pre.trans b.pre
 gs:=b.gs.trans a.gs
 new:=λx m=>(b.new x m).elim (a.new x) λm=>.inr<|a.none m
 keep:=λx o e E M=>b.keep x o (a.keep x o e E M) (a.nf E e) M
 live:=λx o e=>(a.live x o e).casesOn λD=>D.casesOn λL B=>(b.live x _ L).casesOn λD=>D.casesOn λT J=>⟨⟨T,λm=>⟨(J<|MB a.pre a.gs m).1.trans (B m).1,(J<|MB a.pre a.gs m).2.trans (B m).2⟩⟩⟩
 gE:=λi p C=>⟨aA (a.gE i p C).1 (b.gE i p<|lO a.pre C).1,λq o e=>(b.gE i p<|lO a.pre C).2 (wy (aA (bJ q) (a.gE i p C).1) (b.gE i p<|lO a.pre C).1) o
  ((a.gE i p C).2 (wy (aA (b.gE i p<|lO a.pre C).1<|bJ q) (a.gE i p C).1) o e)⟩
 gk:=λx m o e=>b.gk x (a.gs▸m) o<|a.gk x m o e
def cS.weaken(J:∀a,X a->Y_ a)(a:cS X μ h μ' h'):cS Y_ μ h μ' h':=
 ⟨a.pre,a.gs,a.new,λb o e C B=>a.keep b o e C λq=>B<|J b q,a.live,a.gE,a.gk⟩
def cS.any(a:Ext μ h μ' h'):cS X μ h μ' h':=a.weaken λy=>AM
def cS.one(J:b∉foot μ)(T:X b)(k:∀a o,a≠b->h.get? a=AA o->h'.get? a=AA o)(D:∃o,h'.get? b=AA o):cS X μ h μ h':=
 ⟨oU _,rfl,λy m=>.inl m,λa o e y n=>k a o (λq=>n<|q▸T) e,λa o e=>(lb<|a=b).elim (λq=>D.elim λo' B=>q▸⟨⟨B,λm=>absurd m J⟩⟩) λq=>⟨⟨k a o q e,λy=>⟨rfl,rfl⟩⟩⟩,
  λj p C=>⟨aV _,λy o e=>k _ o (λq=>J<|q▸xt C) e⟩,λa m o e=>k a o (λq=>J<|q▸gF _ m) e⟩
def ky(X:AJ->Prop)(h:AW):Prop:=∀a o,X a->h.get? a=AA o->∀xs n,o.data≠.seq xs n
def ky.none:ky (λy=>False) h:=λy y q=>q.elim
structure Kp(μ:Mu)(h:AW)(μ':Mu)(h':AW):Prop where
 pre:μ.l <+:μ'.l
 new:∀a∈foot μ',a∈foot μ\/h.get? a=AE
 seq:∀b o xs n,h.get? b=AA o->o.data=.seq xs n->b∉foot μ->h'.get? b=AA o
def cS.kp(E:cS X μ h μ' h')(B:ky X h):Kp μ h μ' h':=
 ⟨E.pre,E.new,λb o xs n e d J=>E.keep b o e J λq=>B b o q e xs n d⟩
def Kp.nf(E:Kp μ h μ' h')(B:a∉foot μ)(J:h.get? a=AA o):a∉foot μ':=λq=>(E.new a q).elim B λz=>au<|z.symm.trans J
mutual
theorem VR.kp(E:Kp μ h μ' h'):∀(x:V) {v:AF},VR μ h x v->VR μ' h' x v
 | .none,_,r=>r| .bool b,_,r=>r| .int i,_,r=>r| .str s,_,r=>r| .tup l,_,⟨e,J,⟨B⟩,z,r⟩=>⟨e,E.nf J B,⟨E.seq _ _ _ _ B rfl J⟩,z,aT.kp E l r⟩| .lst l,_,⟨e,J,⟨B⟩,z,r⟩=>⟨e,E.nf J B,⟨E.seq _ _ _ _ B rfl J⟩,z,aT.kp E l r⟩| .obj i,_,⟨⟨C,e⟩⟩=>⟨⟨lO E.pre C,e⟩⟩
theorem aT.kp(E:Kp μ h μ' h'):∀(l:List V) {vs:List AF},aT μ h l vs->aT μ' h' l vs
 | [],_,r=>r|x::l,_,⟨e,p,q⟩=>⟨e,VR.kp E x p,aT.kp E l q⟩
end
section
variable(E:cS X μ h μ' h')(hX:ky X h)
def VR.ext(x:V)(r:VR μ h x v):VR μ' h' x v:=VR.kp (E.kp hX) x r
def aT.ext(l:List V)(r:aT μ h l vs):aT μ' h' l vs:=aT.kp (E.kp hX) l r
end
end
def aq(s:AN):Nat:=s.cps.toList.foldl (λn c=>n*256+c) 1
inductive PR(μ:Mu)(h:AW):List (Atom×V)->List (Atom×AF)->Prop
 |nil:PR μ h [] []|cons {k:Atom} {x:V} {v:AF} {r:List (Atom×V)} {r':List (Atom×AF)}:VR μ h x v->PR μ h r r'->PR μ h ((k,x)::r) ((k,v)::r')
inductive TR(μ:Mu)(h:AW):List (List Atom×V)->List (List Atom×AJ×AF)->Prop
 |nil:TR μ h [] []|cons {k:List Atom} {x:V} {a:AJ} {v:AF} {r:List (List Atom×V)} {r':List (List Atom×AJ×AF)}:VR μ h x v->VR μ h (.tup (k.map dG)) (.ref a)->TR μ h r r'->TR μ h ((k,x)::r) ((k,a,v)::r')
def eB(s:AN):Prop:=∀c∈s.cps.toList,c<256/\c≠46
inductive FR(P:AR)(μ:Mu)(h:AW):List (Nat×V)->List AV->Prop
 |nil:FR P μ h [] []|cons {nm:AN} {t:Tok} {x:V} {v:AF} {r:List (Nat×V)} {r':List AV}:eB nm->VR μ h x v->FR P μ h r r'->
   FR P μ h ((aq nm,x)::r) (⟨Ak P nm,.str nm t,v⟩::r')
section
variable(W:Wd)(μ:Mu)(h:AW)(p:AJ×Option AJ)
inductive JT(l:List V):Prop
 |mk {B:List AF} (e:p.2=AE) (z:l.length<=aM) (x:XL h p.1 B) (r:aT μ h l B):JT l
inductive Ie(aJ:List (Atom×V)):Prop
 |mk {cv:List (Atom×AF)} (e:p.2=AE) (d:h.DictOf (dZ W.prog W.w) p.1 cv) (r:PR μ h aJ cv):Ie aJ
inductive Jq(aJ:List (List Atom×V)):Prop
 |mk {cv:List (List Atom×AJ×AF)} (e:p.2=AE) (d:h.DictOfH (Aj (dZ W.prog W.w)) p.1 cv) (r:TR μ h aJ cv):Jq aJ
inductive Jm(q:List Int):Prop
 |mk (e:p.2=AE) (d:h.SetOf (A6 W.prog W.w) p.1 (λk=>q.contains k) q.length) (n:q.Nodup):Jm q
inductive Iq(c:Nat)(fl:List (Nat×V)):Prop
 |mk {cA d:AJ} {ox:B5} {es:List AV} {n:Nat} (e:p.2=AA d) (hc:W.cls c=AA cA) (hd:ox.dict=AA d) (i:BA h p.1 ox cA (AA (Bu es n))) (f:FR W.w.params μ h fl es) (nd:(fl.map (·.1)).Nodup):Iq c fl
def CR:Cell->Prop
 | .lst l=>JT μ h p l| .dict aJ _=>Ie W μ h p aJ| .az aJ _=>Jq W μ h p aJ| .set q=>Jm W h p q| .inst c fl=>Iq W μ h p c fl
inductive wQ(i:Nat)(c:Cell):Prop
 |mk {p:AJ×Option AJ} (C:μ.l[i]?=AA p) (r:CR W μ h p c) (st:∀k,stampOf c=AA k->μ.st i=k)
end
structure bC(W:Wd)(μ:Mu)(H:AH)(h:AW):Prop where
 base:∀b o,W.h₀.get? b=AA o->h.get? b=AA o
 fresh:∀a∈foot μ,W.h₀.get? a=AE
 apart:(foot μ).Nodup
 jf:∀a∈μ.g,∃o,h.get? a=AA o
 len:μ.l.length=H.length
 dT:∀{i:Nat} {c:Cell},H[i]?=AA c->wQ W μ h i c
variable{W:Wd}{prog:B4}{w:Ah}{r cs:List (List Atom×AJ×AF)}{n:Nat}{p d cA:AJ}{ox:B5}{es:List AV}
def PR.kp(E:Kp μ h μ' h'){l:List<|Atom×V}{r:List<|Atom×AF}(x:PR μ h l r):PR μ' h' l r:=by
 induction x with
 |nil=>show .nil|cons a _ J=>show .cons (VR.kp E _ a) J
def FR.kp{P:AR}(E:Kp μ h μ' h'){l:List<|Nat×V}{r:List AV}(x:FR P μ h l r):FR P μ' h' l r:=by
 induction x with
 |nil=>show .nil|cons o a _ J=>show .cons o (VR.kp E _ a) J
def aHd(x:VR μ h (.tup l)<|.ref a):a∉foot μ:=x.casesOn λe J y y y=>T4 e▸J
section
variable(E:Kp μ h μ' h')
def IsTupleKey.kp{k:List Atom}(C:a∉foot μ)(x:IsTupleKey (dZ prog w) h k a):IsTupleKey (dZ prog w) h' k a:=by
 obtain⟨o,B,n,J,hc,hd,hi⟩:=x;show⟨o,B,n,E.seq a o _ _ J hd C,hc,hd,hi⟩
def TR.kp{l:List<|List Atom×V}(x:TR μ h l r)(B:∀y∈r,IsTupleKey (dZ W.prog W.w) h y.1 y.2.1):TR μ' h' l r:=by
 induction x with
 |nil=>show .nil|cons hv ha _ J=>show .cons (VR.kp E _ hv) (VR.kp E _ ha)<|J λy q=>B y (.tail _ q)
def TR.keys{l:List<|List Atom×V}(x:TR μ h l r)(J:∀y∈r,IsTupleKey (dZ W.prog W.w) h y.1 y.2.1):∀y∈r,IsTupleKey (dZ W.prog W.w) h' y.1 y.2.1:=by
 induction x with
 |nil=>show λz q=>aW q|cons hv ha _ B=>show λy q=>(JJ.mp q).elim (λe=>e▸IsTupleKey.kp E (aHd ha) (J _ h_))<|B (λy q=>J y<|.tail _ q) y
end
inductive nC(h:AW)(a:AJ)(T:String):Prop
 |mk {o:B5} (ho:h.get? a=AA o) (c:o.cls=.type T) (d:o.dict=AE)
section
variable{K:Type}[DecidableEq K]{kd:KeyKind prog w K}
def VX{J:List<|K×AF}(d:h.DictOf kd a J)(k:∀o,h.get? a=AA o->h'.get? a=AA o):h'.DictOf kd a J:=by
 obtain⟨o,es,ep,B,r⟩:=d;show⟨o,es,ep,k o B,r⟩
def uq{B:List<|K×AF}(d:h.DictOf kd a B):nC h a "dict":=by obtain⟨o,_,_,J,x,_⟩:=d;show⟨J,x.1,x.2.1⟩
def aFt{q:K->Bool}(d:h.SetOf kd a q n)(k:∀o,h.get? a=AA o->h'.get? a=AA o):h'.SetOf kd a q n:=by
 obtain⟨o,es,ep,t,J,r⟩:=d;show⟨o,es,ep,t,k o J,r⟩
def vx{q:K->Bool}(d:h.SetOf kd a q n):nC h a "set":=by obtain⟨o,_,_,_,J,x,_⟩:=d;show⟨J,x.1,x.2.1⟩
section
variable(d:h.DictOfH (Aj (dZ W.prog W.w)) a cs)
def v9:nC h a "dict":=by obtain⟨o,_,_,J,x,_⟩:=d;show⟨J,x.1,x.2.1⟩
def Hx:∀y∈cs,IsTupleKey (dZ W.prog W.w) h y.1 y.2.1:=by obtain⟨_,_,_,_,_,_,_,J,_⟩:=d;show J
def aGq(k:∀o,h.get? a=AA o->h'.get? a=AA o)(r:∀y∈cs,IsTupleKey (dZ W.prog W.w) h' y.1 y.2.1):h'.DictOfH (Aj<|dZ W.prog W.w) a cs:=by
 obtain⟨o,es,ep,T,D,C,B,_,J⟩:=d;show⟨o,es,ep,k o T,D,C,B,r,J⟩
end
end
section
variable(I:BA h p ox cA (AA (Bu es n)))(hd:ox.dict=AA d)
def yG:h.get? d=AA (Bu es n):=by
 have:=I.dict;rw[hd] at this;show this
def Y7(B:∀o,h.get? p=AA o->h'.get? p=AA o)(J:∀o,h.get? d=AA o->h'.get? d=AA o):BA h' p ox cA<|AA (Bu es n):=
 ⟨B _ I.at_,I.cls,I.no,hd▸J _ (yG I hd)⟩
end
def UJ{p:AJ×Option AJ}(e:p.2=AA d):d∈adr p:=by unfold adr;rw[e];show .tail _ h_
def CR.kp(E:Kp μ h μ' h'){p:AJ×Option AJ}(J:∀a∈adr p,∀o,h.get? a=AA o->h'.get? a=AA o){c:Cell}(r:CR W μ h p c):CR W μ' h' p c:=by
 rcases c with l|⟨aJ,_⟩|⟨aJ,_⟩|s|⟨c,fl⟩
 .cases r with|mk q z x hv=>show⟨q,z,x.at<|J _ h_,aT.kp E l hv⟩
 .cases r with|mk q d r=>show⟨q,VX d<|J _ h_,r.kp E⟩
 .cases r with|mk q d r=>show⟨q,aGq d (J _ h_)<|TR.keys E r (Hx d),TR.kp E r<|Hx d⟩
 .cases r with|mk q d n=>show⟨q,aFt d<|J _ h_,n⟩
 cases r with|mk q hc hd I B hn=>show⟨q,hc,hd,Y7 I hd (J _ h_)<|J _ (UJ q),B.kp E,hn⟩
variable{β:Type}
theorem PF{f:β->List AJ}:∀{l:List β},(l.flatMap f).Nodup->∀{i j:Nat} {p q:β},l[i]?=AA p->l[j]?=AA q->∀a,a∈f p->a∈f q->i=j
 | [],_,_,_,_,_=>λhi y y y y=>au hi|m::l,hn,i,j,p,q=>λhi J a C B=>by
  rw[JC,JL] at hn;rcases i with _|i
  .rcases j with _|j;rfl;show absurd rfl<|hn.2.2 a (ai hi▸C) a (List.mem_flatMap.mpr ⟨q,eK J,B⟩)
  rcases j with _|j;show absurd rfl<|hn.2.2 a (ai J▸B) a (List.mem_flatMap.mpr ⟨p,eK hi,C⟩);show aF _<|PF hn.2.1 hi J a C B
variable{p:AJ×Option AJ}
def MA(J:(foot μ).Nodup){q:AJ×Option AJ}(C:μ.l[i]?=AA p)(B:μ.l[j]?=AA q)(a:AJ)(T:a∈adr p)(D:a∈adr q):i=j:=
 PF (JL.mp J).2.1 C B a T D
variable{H:AH}{I:AJ}{P:AJ->Prop}{T:String}{o':B5}
def wQ.kp{c:Cell}(x:wQ W μ h i c)(E:Kp μ h μ' h')(B:∀p,μ.l[i]?=AA p->∀a∈adr p,∀o,h.get? a=AA o->h'.get? a=AA o)(J:μ'.st i=μ.st i):wQ W μ' h' i c:=
 let ⟨C,r,st⟩:=x;⟨lO E.pre C,r.kp E<|B _ C,λk e=>J.trans<|st k e⟩
def bC.to(N:bC W μ H h)(B:Kp μ h μ h')(J:∀a o,a∈foot μ->h.get? a=AA o->h'.get? a=AA o)(D:∀b o,W.h₀.get? b=AA o->h.get? b=AA o->h'.get? b=AA o):bC W μ H h':=
 ⟨λb o e=>D b o e<|N.base b o e,N.fresh,N.apart,λa m=>((N.jf a m).elim λo e=>⟨o,J a o (gF _ m) e⟩),N.len,λe=>(N.dT e).kp B (λp C a ha o=>J a o<|xr C ha) rfl⟩
def bC.qR(N:bC W μ H h)(J:h.get? I=AE):W.h₀.get? I=AE:=by
 rcases q:W.h₀.get? I with _|o;rfl;show au<|J.symm.trans (N.base I o q)
def zh(e:p.2=AE)(x:P p.1):∀a∈adr p,P a:=λa m=>by
 unfold adr at m;rw[e] at m;show(JK.mp m)▸x
def Rc(e:p.2=AA d)(x:P p.1)(y:P d):∀a∈adr p,P a:=λa m=>by
 unfold adr at m;rw[e] at m;show(JJ.mp m).elim (λm=>m▸x) λm=>(JK.mp m)▸y
def nC.some(x:nC h a T):∃o,h.get? a=AA o:=by cases x with|mk J _ _=>show⟨_,J⟩
def CR.alive{c:Cell}(r:CR W μ h p c):∀a∈adr p,∃o,h.get? a=AA o:=by
 rcases c with l|⟨l,st⟩|⟨l,st⟩|l|⟨c,fl⟩
 .cases r with|mk e _ x _=>show zh e x.some
 .cases r with|mk e d _=>show zh e (uq d).some
 .cases r with|mk e d _=>show zh e (v9 d).some
 .cases r with|mk e d _=>show zh e (vx d).some
 cases r with|mk e hc hd I _ _=>show Rc e ⟨_,I.at_⟩ ⟨_,yG I hd⟩
def bC.alive(N:bC W μ H h):∀a∈foot μ,∃o,h.get? a=AA o:=λa ha=>
 (nA.mp ha).elim (N.jf a) λha=>by
  obtain⟨q,J,ha⟩:=List.mem_flatMap.mp ha;obtain⟨i,hi⟩:=List.mem_iff_getElem?.mp J;obtain⟨C,r,_⟩:=N.dT<|cK (N.len▸(List.getElem?_eq_some_iff.mp hi).1);show r.alive a<|ai (hi.symm.trans C)▸ha
def bC.out(N:bC W μ H h)(J:h.get? a=AE):a∉foot μ:=λm=>(N.alive a m).elim λy e=>au<|J.symm.trans e
def ow(k:∀b o,h.get? b=AA o->h'.get? b=AA o):Ext μ h μ h':=⟨oU _,rfl,λy m=>.inl m,λb o e y y=>k b o e,λb o e=>⟨⟨k b o e,λy=>⟨rfl,rfl⟩⟩⟩,λy y y=>⟨aV _,λy o e=>k _ o e⟩,λy y o e=>k _ o e⟩
def bC.grow(N:bC W μ H h)(k:∀b o,h.get? b=AA o->h'.get? b=AA o):bC W μ H h':=N.to ((ow k).kp .none) (λy o y e=>k _ o e)<|λy o y e=>k _ o e
def xl(k:∀b o,h.get? b=AA o->h'.get? b=AA o)(B:∀a∈adr p,h.get? a=AE):Ext μ h (μ.push p) h':=
 ⟨rZ _ _,rfl,λa m=>(FJ m).imp id<|B a,λb o e y y=>k b o e,λb o e=>⟨⟨k b o e,λy=>⟨rfl,rfl⟩⟩⟩,λi q J=>
  have e:=aB<|eV (List.getElem?_eq_some_iff.mp J).1
  ⟨bJ e.symm,λy o e=>k _ o e⟩,λy y o e=>k _ o e⟩
section
variable(N:bC W μ H h)
def bC.push(k:∀b o,h.get? b=AA o->h'.get? b=AA o){c:Cell}(B:∀a∈adr p,h.get? a=AE)(T:(adr p).Nodup)(L:CR W (μ.push p) h' p c)(J:∀st,stampOf c=AA st->0=st):bC W (μ.push p) (H++[c]) h' where
 base:=λb o e=>k b o<|N.base b o e
 fresh:=λa m=>(FJ m).elim (N.fresh a) λm=>N.qR<|B a m
 apart:=FK μ p▸JL.mpr ⟨N.apart,T,λa ha b hb e=>by obtain⟨o,D⟩:=N.alive a ha;show au<|(B a<|e▸hb).symm.trans D⟩
 jf:=λa m=>(N.jf a m).elim λo e=>⟨o,k a o e⟩
 len:=by change(μ.l++[p]).length=_;rw[a5,a5,N.len];rfl
 dT:=λe=>by
  rcases J9 e with e|⟨hi,e⟩
  .show(N.dT e).kp ((xl k B).kp .none) (λp C a ha o=>k a o)<|aB (eV<|N.len▸(List.getElem?_eq_some_iff.mp e).1)
  rw[hi,<-e];show⟨N.len▸yn _ _,L,λst q=>(aC N.len.symm).trans<|J st q⟩
def WE(C:μ.l[i]?=AA p)(J:b∈adr p)(D:∀a o,a≠b->h.get? a=AA o->h'.get? a=AA o)(M:h.get? b=AA o)(T:h'.get? b=AA o')(Y:o'.cls=o.cls)(G:o'.dict=o.dict):Ext μ h (μ.bump i) h' where
 pre:=oU _
 gs:=rfl
 new:=λy m=>.inl m
 keep:=λx o e n y=>D x o (λq=>n<|q▸xr C J) e
 live:=λx B e=>(lb<|x=b).elim (λq=>⟨⟨q▸T,λy=>ai (M.symm.trans<|q▸e)▸⟨Y,G⟩⟩⟩) λq=>⟨⟨D x B q e,λy=>⟨rfl,rfl⟩⟩⟩
 gE:=λj q L=>by
  change μ.st j<=(if j=i then μ.st j+1 else μ.st j)/\((if j=i then μ.st j+1 else μ.st j)=μ.st j->_)
  split
  .show⟨b8 _,λz=>absurd z<|Nat.succ_ne_self _⟩
  rename_i E;show⟨aV _,λy o e=>D _ o (λz=>E (MA N.apart C L b J<|z▸qB).symm) e⟩
 gk:=λa m o e=>D a o (λq=>(JL.mp N.apart).2.2 a m b (List.mem_flatMap.mpr ⟨p,eK C,J⟩) q) e
def bC.set(C:μ.l[i]?=AA p)(B:b∈adr p)(T:∀a o,a≠b->h.get? a=AA o->h'.get? a=AA o)(E:Ext μ h (μ.bump i) h'){c:Cell}
  (M:CR W (μ.bump i) h' p c) (D:∀st,stampOf c=AA st->μ.st i+1=st):bC W (μ.bump i) (H.set i c) h' where
 base:=λx o e=>T x o (λq=>au<|(N.fresh _<|xr C B).symm.trans (q▸e))<|N.base x o e
 fresh:=N.fresh
 apart:=N.apart
 jf:=λa m=>(N.jf a m).elim λo e=>⟨o,E.gk a m o e⟩
 len:=List.length_set.symm▸N.len
 dT:=λe=>by
  rcases aFs e with ⟨J,e⟩|⟨J,e⟩
  .show(N.dT e).kp (E.kp .none) (λq L a ha o=>T a o λz=>J<|MA N.apart C L b B (z▸ha))<|aB (ku J)
  rw[<-J,<-e];show⟨C,M,λst q=>(aC rfl).trans<|D st q⟩
end
abbrev F0:AF->AG->Prop:=λy y=>False
abbrev Wp(W:Wd)(A:Ab)(m:Sem α)(R:α->AG->Prop)(s:AG):Prop:=AQ (Ai W.prog W.w) A m R F0 s
structure nF(W:Wd):Prop where
 GK:W.K.In W.h₀
 g:W.h₀.Ns Al W.mg
 b:W.h₀.Ns BS W.mb
 lim:W.h₀.NoLimit
 RC:W.h₀.get? B9≠AE
 blt:∀x:AN,x≠"__name__"->W.mb x=Bj x
 Eg:∀c cA,W.cls c=AA cA->hasDictIn W.K cA=AB
 cover:∀c cA,W.cls c=AA cA->CL W.K cA=AB
 LD:∀c cA,W.cls c=AA cA->Br W.K (.ref cA) "__setattr__"=AA (AA (.builtin "object.__setattr__"))
 Ej:∀c cA (nm:AN),W.cls c=AA cA->plainGet W.K cA nm=AB
 K5:∀c cA,W.cls c=AA cA->makesIn W.K cA=AB
 Ef:∀c cA nm,W.cls c=AA cA->nm∈W.attrs->iS c (aq nm)=AD->Br W.K (.ref cA) nm=AA AE
 xC:∀nm∈W.attrs,eB nm
 int:∀x i,W.mJ x=AA i->∃t,W.mg x=AA (.int i t)
 fn:∀x f,W.mI x=AA f->∃a,W.nS f=AA a/\W.mg x=AA (.ref a)
 FI:∀f a,W.nS f=AA a->CM W.K (.ref a)=AB
 Kr:∀x c,W.mG x=AA c->∃cA,W.cls c=AA cA/\W.mg x=AA (.ref cA)/\CM W.K (.ref cA)=AB
 free:∀x∈W.f5,W.mg x=AE/\x≠"__name__"
 qo:∀c nm f cA,W.cls c=AA cA->nm∈W.lJ->W.T.qo c (aq nm)=AA f->∃a,W.nS f=AA a/\Br W.K (.ref cA) nm=AA (AA (.ref a))/\isFn W.K (.ref a)=AB
 Ow:∀nm∈W.lJ,eB nm
 init:∀c f cA,W.cls c=AA cA->W.T.init c=AA f->∃a,W.nS f=AA a/\Br W.K (.ref cA) "__init__"=AA (AA (.ref a))/\isFn W.K (.ref a)=AB
structure Rm(A:Ab)(n:Nat):Prop where
 u:A.units+20*n+1300<BU
 d:A.depth+3*n+2<recursionLimit
 hd:A.handled=AE
structure Ok(W:Wd)(n:Nat)(A:Ab)(μ:Mu)(H:AH)(s:AG):Prop where
 wk:nF W
 rm:Rm A n
 N:bC W μ H s.heap
structure cF(W:Wd)(μ:Mu)(s:AG)(H':AH)(μ':Mu)(s':AG):Prop where
 g:s'.gens=s.gens
 o:s'.os=s.os
 E:Ext μ s.heap μ' s'.heap
 N:bC W μ' H' s'.heap
section
variable(W:Wd)(μ:Mu)(s:AG)(H':AH)
def Kc(v:V)(R:AF->AG->Prop):Prop:=∀{cv:AF} {s':AG} {μ':Mu},cF W μ s H' μ' s'->VR μ' s'.heap v cv->R cv s'
def Ku(R:Unit->AG->Prop):Prop:=∀{s':AG} {μ':Mu},cF W μ s H' μ' s'->R () s'
end
def Hm:aM<=Ba:=by decide
def fq(h:n<=aM):n<=Ba:=aA h Hm
def oG(h:n<=aM):(n:Int)<2 ^ 63:=rU (Int.ofNat_le.mpr h) ⋯
variable{A:Ab}{H' H'':AH}{s s' s'':AG}{v:V}{cv:AF}{R:AF->AG->Prop}{items':List AF}{P:AF->Prop}{q:List Int}{k:Nat}
section
variable{l':List V}{tk:Nat}
def Rm.lt(r:Rm A n):A.units<BU:=bZ (aA (aY _ _)<|aY _ _) r.u
def cF.of(N:bC W μ' H' h')(E:Ext μ s.heap μ' h'):cF W μ s H' μ' {s with heap:=h',toks:=tk}:=⟨rfl,rfl,E,N⟩
def cF.refl(N:bC W μ H s.heap):cF W μ s H μ {s with toks:=tk}:=⟨rfl,rfl,.refl,N⟩
def cF.grow(N:bC W μ H s.heap)(k:∀b o,s.heap.get? b=AA o->h'.get? b=AA o):cF W μ s H μ {s with heap:=h',toks:=tk}:=.of (N.grow k)<|ow k
section
variable(x:cF W μ s H μ' s')
def cF.trans(y:cF W μ' s' H' μ'' s''):cF W μ s H' μ'' s'':=⟨y.g.trans x.g,y.o.trans x.o,x.E.trans y.E,y.N⟩
def cF.up(r:VR μ s.heap v cv):VR μ' s'.heap v cv:=VR.ext x.E .none v r
def cF.ups(r:aT μ s.heap l B):aT μ' s'.heap l B:=aT.ext x.E .none l r
end
def Kc.here(k:Kc W μ s H v R)(N:bC W μ H s.heap)(r:VR μ s.heap v cv):R cv {s with toks:=tk}:=k (cF.refl N) r
inductive LR(l:List V)(H:AH):V->AH->Prop
 |val:LR l H (.lst l) H|cell:LR l H (.obj H.length) (H++[.lst l])
def Qt(a:AJ):(adr (a,AE)).Nodup:=List.nodup_cons.mpr ⟨eL,d7⟩
def Hk(J:h.get? a=AE):∀b∈adr (a,AE),h.get? b=AE:=λb m=>(JK.mp m)▸J
def QD(N:bC W μ H s.heap)(p:AJ×Option AJ):(μ.push p).l[H.length]?=AA p:=N.len▸yn _ _
def y0(N:bC W μ H s.heap){c:Cell}(k:∀b o,s.heap.get? b=AA o->h'.get? b=AA o)(B:s.heap.get? a=AE)(C:CR W (μ.push (a,AE)) h' (a,AE) c)(J:∀st,stampOf c=AA st->0=st)(K:Kc W μ s (H++[c]) (.obj H.length) R):R (.ref a) {s with heap:=h',toks:=tk}:=
 K (.of (N.push k (Hk B) (Qt a) C J)<|xl k (Hk B))<|.vY (QD N (a,AE))
def nj(q:LR l H v H')(N:bC W μ H s.heap)(D:aT μ s.heap l B)(z:l.length<=aM)(k:∀b o,s.heap.get? b=AA o->h'.get? b=AA o)(J:s.heap.get? a=AE)(C:XL h' a B)(K:Kc W μ s H' v R):R (.ref a) {s with heap:=h',toks:=tk}:=by
 induction q using LR.casesOn with
 |val=>show K (.grow N k) ⟨rfl,N.out J,C,z,aT.ext (ow k) .none l D⟩|cell=>show y0 (c:=.lst l) N k J ⟨rfl,z,C,aT.ext (xl k<|Hk J) .none l D⟩ (λy e=>au e) K
def y6(N:bC W μ H s.heap)(D:aT μ s.heap l B)(z:l.length<=aM)(k:∀b o,s.heap.get? b=AA o->h'.get? b=AA o)(C:s.heap.get? a=AE)(J:XT h' a B)(K:Kc W μ s H (.tup l) R):R (.ref a) {s with heap:=h',toks:=tk}:=
 K (.grow N k) ⟨rfl,N.out C,J,z,aT.ext (ow k) .none l D⟩
def none_of(e:p.2=AE):p=(p.1,AE):=iD rfl e
section
variable(N:bC W μ H s.heap)
def jD(L:H[i]?=AA (.lst l))(T:VR μ s.heap (.obj i) cv)(k:∀a B,μ.l[i]?=AA (a,AE)->XL s.heap a B->aT μ s.heap l B->l.length<=aM->P (.ref a)):P cv:=
 T.rJ λp C=>(N.dT L).casesOn λJ D y=>D.casesOn λe z x r=>q5 J C (P:=λp=>P<|.ref p.1)<|k _ _ (none_of e▸J) x r z
def lD{aJ:List<|Atom×V}{st:Nat}(T:H[i]?=AA (.dict aJ st))(D:VR μ s.heap (.obj i) cv)(k:∀a cs,μ.l[i]?=AA (a,AE)->s.heap.DictOf (dZ W.prog W.w) a cs->PR μ s.heap aJ cs->P (.ref a)):P cv:=
 D.rJ λp C=>(N.dT T).casesOn λJ B y=>B.casesOn λe d r=>q5 J C (P:=λp=>P<|.ref p.1)<|k _ _ (none_of e▸J) d r
def rF{aJ:List<|List Atom×V}{st:Nat}(T:H[i]?=AA (.az aJ st))(D:VR μ s.heap (.obj i) cv)(k:∀a cs,μ.l[i]?=AA (a,AE)->s.heap.DictOfH (Aj<|dZ W.prog W.w) a cs->TR μ s.heap aJ cs->P (.ref a)):P cv:=
 D.rJ λp C=>(N.dT T).casesOn λJ B y=>B.casesOn λe d r=>q5 J C (P:=λp=>P<|.ref p.1)<|k _ _ (none_of e▸J) d r
def tS(T:H[i]?=AA (.set q))(D:VR μ s.heap (.obj i) cv)(k:∀a,μ.l[i]?=AA (a,AE)->s.heap.SetOf (A6 W.prog W.w) a (λk=>q.contains k) q.length->q.Nodup->P (.ref a)):P cv:=
 D.rJ λp C=>(N.dT T).casesOn λJ B y=>B.casesOn λe d r=>q5 J C (P:=λp=>P<|.ref p.1)<|k _ (none_of e▸J) d r
def turn(C:μ.l[i]?=AA p)(T:b∈adr p)(D:∀x o,x≠b->s.heap.get? x=AA o->h'.get? x=AA o)(L:s.heap.get? b=AA o)(B:h'.get? b=AA o')(Y:o'.cls=o.cls)(G:o'.dict=o.dict){c:Cell}
  (M:Ext μ s.heap (μ.bump i) h'->CR W (μ.bump i) h' p c) (J:∀st,stampOf c=AA st->μ.st i+1=st):cF W μ s (H.set i c) (μ.bump i) {s with heap:=h',toks:=tk}:=
 have E:=WE N C T D L B Y G;.of (N.set C T D E (M E) J) E
end
def oA(J:AS b h h'):∀x o,x≠b->h.get? x=AA o->h'.get? x=AA o:=λx y n e=>(J.2 x n).trans e
section
variable(N:bC W μ H s.heap)
def H5(C:μ.l[i]?=AA (a,AE))(L:AS a s.heap h')(x:nC s.heap a T)(D:nC h' a T){c:Cell}(E:Ext μ s.heap (μ.bump i) h'->CR W (μ.bump i) h' (a,AE) c)(J:∀st,stampOf c=AA st->μ.st i+1=st):
  cF W μ s (H.set i c) (μ.bump i) {s with heap:=h',toks:=tk}:=by
 cases x with|mk M O Y=>cases D with|mk B Z G=>show turn N C h_ (oA L) M B (Z.trans O.symm) (G.trans Y.symm) E J
def te(C:μ.l[i]?=AA (a,AE))(T:XL s.heap a B)(L:∀x o,x≠a->s.heap.get? x=AA o->h'.get? x=AA o)(D:XL h' a items')(M:aT μ s.heap l' items')(z:l'.length<=aM):cF W μ s (H.set i<|.lst l') (μ.bump i) {s with heap:=h',toks:=tk}:=
 let ⟨G⟩:=T;D.casesOn λJ=>turn N C h_ L G J rfl rfl (λE=>⟨rfl,z,⟨J⟩,aT.ext E .none l' M⟩) λy e=>au e
def Q2{c c':Cell}(J:H[i]?=AA c)(C:stampOf c=AA k)(B:stampOf c'=AA (k+1)):∀st,stampOf c'=AA st->μ.st i+1=st:=λst e=>
 let ⟨_,_,q⟩:=N.dT J;(aF (·+1)<|q k C).trans<|ai (B.symm.trans e)
def RY{Y:List<|Atom×AF}{aJ:List<|Atom×V}{J:List<|Atom×AF}{c:Cell}{st:Nat}(G:H[i]?=AA c)(D:stampOf c=AA st)(C:μ.l[i]?=AA (a,AE))(M:s.heap.DictOf (dZ W.prog W.w) a Y)(T:AS a s.heap h')(B:h'.DictOf (dZ W.prog W.w) a J)(L:PR μ s.heap aJ J):
  cF W μ s (H.set i<|.dict aJ (st+1)) (μ.bump i) {s with heap:=h',toks:=tk}:=
 H5 N C T (uq M) (uq B) (λE=>⟨rfl,B,L.kp<|E.kp .none⟩)<|Q2 N G D rfl
def RZ{B:List Int}(C:μ.l[i]?=AA (a,AE))(L:s.heap.SetOf (A6 W.prog W.w) a (λk=>q.contains k) q.length)(D:AS a s.heap h')(J:h'.SetOf (A6 W.prog W.w) a (λk=>B.contains k) B.length)(T:B.Nodup):
  cF W μ s (H.set i<|.set B) (μ.bump i) {s with heap:=h',toks:=tk}:=
 H5 N C D (vx L) (vx J) (λy=>⟨rfl,J,T⟩) λy e=>au e
def aHg{aJ:List<|List Atom×V}{B:List<|List Atom×AJ×AF}{c:Cell}{st:Nat}(G:H[i]?=AA c)(D:stampOf c=AA st)(C:μ.l[i]?=AA (a,AE))(M:s.heap.DictOfH (Aj<|dZ W.prog W.w) a cs)(T:AS a s.heap h')(J:h'.DictOfH (Aj<|dZ W.prog W.w) a B)(L:Ext μ s.heap (μ.bump i) h'->TR (μ.bump i) h' aJ B):
  cF W μ s (H.set i<|.az aJ (st+1)) (μ.bump i) {s with heap:=h',toks:=tk}:=
 H5 N C T (v9 M) (v9 J) (λE=>⟨rfl,J,L E⟩)<|Q2 N G D rfl
end
end
section
variable(W:Wd)(u v x:V)(H H':AH)
def P1(f:AF->Sem AF):Prop:=∀{n:Nat} {A:Ab} {s:AG} {μ:Mu} {cu:AF} {R:AF->AG->Prop},Ok W n A μ H s->VR μ s.heap u cu->Kc W μ s H' v R->Wp W A (f cu) R s
def P2(f:AF->AF->Sem AF):Prop:=∀{n:Nat} {A:Ab} {s:AG} {μ:Mu} {cu J:AF} {R:AF->AG->Prop},Ok W n A μ H s->VR μ s.heap u cu->VR μ s.heap x J->Kc W μ s H' v R->Wp W A (f cu J) R s
end
inductive dI(W:Wd)(A:Ab)(s:AG)(cu:AF)(g:Sem AF)(R:AF->AG->Prop):Prop
 |mk {T id:String} (hT:s.TypeIs cu T) (hl:BC (.type T) "__getitem__"=Ae (AA (.builtin id))) (w:Wp W A g R s)
def ee(W:Wd)(u x:V)(H:AH)(v:V):Prop:=∀{n:Nat} {A:Ab} {s:AG} {μ:Mu} {cu J:AF} {R:AF->AG->Prop},Ok W n A μ H s->VR μ s.heap u cu->VR μ s.heap x J->Kc W μ s H v R->dI W A s cu (AP cu J) R
def iq(W:Wd)(u x v:V)(H B:AH):Prop:=∀{n:Nat} {A:Ab} {s:AG} {μ:Mu} {cu J cv:AF} {R:Unit->AG->Prop},Ok W n A μ H s->VR μ s.heap u cu->VR μ s.heap x J->VR μ s.heap v cv->Ku W μ s B R->Wp W A (Bf cu J cv) R s
def Ql(h:k<n):CJ (k:Int) n=AA k:=by
 unfold CJ;rw[aB<|Int.not_lt.mpr (eI k),aC (by rw[eQ,kA,kA];show⟨eI k,Int.ofNat_lt.mpr h⟩)]
 rfl
theorem O6:∀{n:Nat},1<=n->((-1:Int)+(n:Int)).toNat=n-1
 |n+1,_=>by rw[Int.natCast_add,Ir n,<-Int.add_assoc];show(aF Int.toNat<|Int.zero_add _).trans<|De n
def lU(x:XL s.heap a B):s.TypeIs (.ref a) "list":=x.casesOn λe=>⟨_,e,rfl⟩
def H8(x:XT s.heap a B):s.TypeIs (.ref a) "tuple":=x.casesOn λe=>⟨_,e,rfl⟩
def qm{l:List α}{x:α}(h:l[k]?=AA x):k<l.length:=(List.getElem?_eq_some_iff.mp h).1
def yq(h:k<n)(z:n<=aM):(k:Int)<2 ^ 63:=Int.lt_trans (Int.ofNat_lt.mpr h)<|oG z
def O7(k:Nat):-(2 ^ 63:Int)<=(k:Int):=du ⋯<|eI k
variable{x ck:AF}{p:AJ×AF}{b:Option AF}{d:V}
def MV(J:XL s.heap a B)(z:B.length<=aM)(e:B[k]?=AA x)(q:R x s):dI W A s (.ref a) (AP (.ref a)<|.int k t) R:=
 ⟨lU J,slot_list_getitem.lookup,wpAny_getItem_list J.is (eI k) (yq (qm e) z) (by rw[De,lx];show e) q⟩
def YF(J:XT s.heap a B)(z:B.length<=aM)(e:B[k]?=AA x)(q:R x s):dI W A s (.ref a) (AP (.ref a)<|.int k t) R:=
 ⟨H8 J,PySem.F.slot_tuple_getitem.lookup,MR J.is (O7 k) (yq (qm e) z) (Ql<|bu▸qm e) (lx▸e) q⟩
def YD(J:XL s.heap a B)(z:B.length<=aM)(e:B.getLast?=AA x)(q:R x s):dI W A s (.ref a) (AP (.ref a)<|.int (-1) t) R:=by
 rw[TF] at e;have C:=Jf<|bZ (bK _) (qm e);refine⟨lU J,slot_list_getitem.lookup,wpAny_getItem_list_neg J.is ⋯ (Int.neg_le_neg<|Int.ofNat_le.mpr C) ⋯ ?_ q⟩
 rw[bu,O6 C,lx];show e
def ee.tup(e:l[k]?=AA v):ee W (.tup l) (.int k) H v:=λ{y A s y y y R} K hu B c=>
 B.cP (P:=λD=>dI W A s _ (AP _ D) R) λy=>hu.gf (P:=λcu=>dI W A s cu (AP cu _) R) λy y T x z r=>(r.get e).casesOn λJ=>J.casesOn λC hv=>YF x (r.length▸z) C<|c.here K.N hv
def ee.lst(e:l[k]?=AA v):ee W (.lst l) (.int k) H v:=λ{y A s y y y R} K hu B c=>
 B.cP (P:=λD=>dI W A s _ (AP _ D) R) λy=>hu.th (P:=λcu=>dI W A s cu (AP cu _) R) λy y T x z r=>(r.get e).casesOn λJ=>J.casesOn λC hv=>MV x (r.length▸z) C<|c.here K.N hv
def ee.cell(C:H[i]?=AA (.lst l))(e:l[k]?=AA v):ee W (.obj i) (.int k) H v:=λ{y A s y y y R} K hu B c=>
 B.cP (P:=λT=>dI W A s _ (AP _ T) R) λy=>jD K.N C hu (P:=λcu=>dI W A s cu (AP cu _) R) λy y y x r z=>(r.get e).casesOn λJ=>J.casesOn λD hv=>MV x (r.length▸z) D<|c.here K.N hv
def ee.last(B:H[i]?=AA (.lst l))(e:l.getLast?=AA v):ee W (.obj i) (.int<|-1) H v:=λ{y A s y y y R} K hu J c=>
 J.cP (P:=λD=>dI W A s _ (AP _ D) R) λy=>jD K.N B hu (P:=λcu=>dI W A s cu (AP cu _) R) λy y y x r z=>
  let ⟨⟨C,hv⟩⟩:=r.get<|TF.symm.trans e
  YD x (r.length▸z) (TF.trans<|r.length▸C) (c.here K.N hv)
def key_is{a:Atom}(J:VR μ h (dG a) ck):(dZ prog w).is a ck=AB:=by
 rcases a with _|_;show J.cP (P:=λck=>ud _ ck=AB) λy=>km.int.is;show J.hZ (P:=λck=>ud _ ck=AB) λy=>km.str.is
theorem NA:∀{k:List Atom} {vs:List AF},aT μ h (k.map dG) vs->ItemsAre (dZ prog w) k vs
 | []=>λhv=>hv.jq .nil|_::k=>λhv=>hv.fU λy y B J=>.cons (key_is B)<|NA J
def wA{k:List Atom}(C:VR μ h (.tup<|k.map dG) ck)(q:∀a,(Aj<|dZ prog w).is h k a->VR μ h (.tup<|k.map dG) (.ref a)->P (.ref a)):P ck:=
 C.gf λa B J x z r=>q a (x.casesOn λD=>⟨_,B.toArray,_,D,rfl,rfl,rf▸NA r⟩) ⟨rfl,J,x,z,r⟩
section
variable{K B_:Type}[DecidableEq K]{l:List (K×B_)}{k k':K}{v:B_}
def vH:aa ((k,v)::l) k=AA v:=by
 unfold aa;rw[JB (p:=λp:K×B_=>decide<|p.1=k)<|a6 rfl];rfl
def vI(e:k'≠k):aa ((k',v)::l) k=aa l k:=by
 unfold aa;rw[JA (p:=λp:K×B_=>decide<|p.1=k)<|λq=>e (dK q)]
end
def aH5{K:Type}[DecidableEq K]{r:List<|K×AF}{k:K}{v:AF}:CC ((k,v)::r) k=AA v:=vH
def aH6{K:Type}[DecidableEq K]{r:List<|K×AF}{k J:K}{v:AF}(e:J≠k):CC ((J,v)::r) k=CC r k:=vI e
def J3{K:Type}[DecidableEq K]{r:List<|K×AJ×AF}{k:K}:atKey ((k,p)::r) k=AA p:=vH
def J4{K:Type}[DecidableEq K]{r:List<|K×AJ×AF}{k J:K}(e:J≠k):atKey ((J,p)::r) k=atKey r k:=vI e
inductive lY(μ:Mu)(h:AW):Option V->Option AF->Prop
 |no:lY μ h AE AE|yes {v:V} {c:AF}:VR μ h v c->lY μ h (AA v) (AA c)
def lY.is{a:Option V}(x:lY μ h a b):b.isSome=a.isSome:=by rcases x with _|_<;>rfl
def lY.or{a:Option V}(x:lY μ h a b){c:AF}(r:VR μ h d c):VR μ h (a.getD d)<|b.getD c:=by
 induction x using lY.casesOn with
 |no=>show r|yes r=>show r
def PR.get{l:List<|Atom×V}{r:List<|Atom×AF}(x:PR μ h l r)(k:Atom):lY μ h (aa l k)<|CC r k:=by
 induction x with
 |nil=>show .no|@cons k' y cv r C hv _ B=>
  by_cases J:k'=k
  .rw[J,vH,aH5];show .yes hv
  rw[vI J,aH6 J];show B
def TR.get{l:List<|List Atom×V}(x:TR μ h l r)(k:List Atom):lY μ h (aa l k) ((atKey r k).map (·.2)):=by
 induction x with
 |nil=>show .no|@cons k' y a cv r C hv ha _ B=>
  by_cases J:k'=k
  .rw[J,vH,J3];show .yes hv
  rw[vI J,J4 J];show B
def PR.find{l:List<|Atom×V}{r:List<|Atom×AF}(x:PR μ h l r){k:Atom}(e:aa l k=AA v):Ex λc=>bP (CC r k=AA c)<|VR μ h v c:=by
 have g:=x.get k;rw[e] at g;generalize CC r k=q at g;cases g with|yes hv=>show⟨⟨rfl,hv⟩⟩
def TR.find{l:List<|List Atom×V}(x:TR μ h l r){k:List Atom}(e:aa l k=AA v):Ex λp=>bP (atKey r k=AA p)<|VR μ h v p.2:=by
 have g:=x.get k;rw[e] at g;generalize atKey r k=q at g;rcases q with _|p
 .rcases g with _|_
 cases g with|yes hv=>show⟨⟨rfl,hv⟩⟩
def nc(J:nF W)(N:bC W μ H h){p:AJ×Option AJ}(C:μ.l[i]?=AA p):(p.1 == B9)=AD:=
 beq_eq_false_iff_ne.mpr λe=>J.RC<|e▸N.fresh _ (xt C)
def Rm.lt1(r:Rm A n):A.units+1<BU:=bZ (bW (aY _ _) ⋯) r.u
def room(r:Rm A n):(Aj<|dZ W.prog W.w).room A.in1:=tupleKind_room_in1 r.lt1
def RN(d:s.heap.DictOfH (Aj<|dZ W.prog W.w) a cs):s.TypeIs (.ref a) "dict":=(v9 d).casesOn λJ c y=>⟨_,J,c⟩
def ee.dict{st:Nat}{aJ:List<|Atom×V}{k:Atom}(D:H[i]?=AA (.dict aJ st))(e:aa aJ k=AA v):ee W (.obj i) (dG k) H v:=λ{y A s y y y R} K hu B c=>
 lD K.N D hu (P:=λcu=>dI W A s cu (AP cu _) R) λy y y d r=>(r.find e).casesOn λJ=>J.casesOn λC hv=>⟨d.typeIs,slot_dict_getitem.lookup,wpAny_getItem_of (key_is B) d.mapOf C<|c.here K.N hv⟩
def ee.az{st:Nat}{aJ:List<|List Atom×V}{k:List Atom}(T:H[i]?=AA (.az aJ st))(e:aa aJ k=AA v):ee W (.obj i) (.tup<|k.map dG) H v:=λ{y A s y y y R} K hu B c=>
 wA B (P:=λL=>dI W A s _ (AP _ L) R) λa D y=>rF K.N T hu (P:=λcu=>dI W A s cu (AP cu _) R) λy y y d r=>(r.find e).casesOn λJ=>J.casesOn λC hv=>⟨RN d,slot_dict_getitem.lookup,wpAny_getItem_heap (room K.rm) D d C<|c.here K.N hv⟩
variable{l:List (Atom×V)}{k:Atom}
def PR.length{l:List<|Atom×V}{r:List<|Atom×AF}(x:PR μ h l r):r.length=l.length:=by
 induction x with
 |nil=>rfl|cons _ _ J=>show aF (·+1) J
def TR.length{l:List<|List Atom×V}(x:TR μ h l r):r.length=l.length:=by
 induction x with
 |nil=>rfl|cons _ _ _ J=>show aF (·+1) J
def PR.any{r:List<|Atom×AF}(x:PR μ h l r)(k:Atom):(r.any λJ=>decide<|J.1=k)=l.any λp=>decide<|p.1=k:=by
 induction x with
 |nil=>rfl|cons _ _ B=>show aF (_||·) B
def PR.append{B:List<|Atom×V}{r J:List<|Atom×AF}(x:PR μ h l r)(y:PR μ h B J):PR μ h (l++B)<|r++J:=by
 induction x with
 |nil=>show y|cons a _ C=>show .cons a C
def PR.map{r:List<|Atom×AF}(x:PR μ h l r)(D:VR μ h v cv):
  PR μ h (l.map λp=>if p.1=k then(p.1,v) else p) (r.map λJ=>if J.1=k then(J.1,cv) else J):=by
 induction x with
 |nil=>show .nil|@cons k' y c r T C _ B=>
  rw[da,da];by_cases e:k'=k
  .rw[aC e,aC e];show .cons D B
  rw[aB e,aB e];show .cons C B
def PR.put{r:List<|Atom×AF}(x:PR μ h l r)(J:VR μ h v cv):PR μ h (cB l k v)<|stored r k cv:=by
 unfold cB stored;rw[x.any k];split
 show x.map J;show x.append<|.cons J .nil
def PR.del{r:List<|Atom×AF}(x:PR μ h l r)(k:Atom):PR μ h (qe l k)<|without r k:=by
 unfold qe without
 induction x with
 |nil=>show .nil|@cons k' y c r D C _ J=>
  by_cases B:k'=k
  .rw[wg,wg,bE λq=>q B];show J
  rw[wg,wg,a6 B];show .cons C J
def TR.append{l B:List<|List Atom×V}{J:List<|List Atom×AJ×AF}(x:TR μ h l r)(y:TR μ h B J):TR μ h (l++B)<|r++J:=by
 induction x with
 |nil=>show y|cons a b _ C=>show .cons a b C
def TR.any{l:List<|List Atom×V}(x:TR μ h l r)(k:List Atom):(atKey r k).isSome=l.any λp=>decide<|p.1=k:=by
 induction x with
 |nil=>rfl|@cons k' y a c r C _ _ _ B=>
  rw[rV];by_cases J:k'=k
  .rw[J,J3,a6 rfl];rfl
  rw[J4 J,B,bE J];rfl
def TR.map{l:List<|List Atom×V}(x:TR μ h l r){k:List Atom}(C:VR μ h v cv):
  TR μ h (l.map λp=>if p.1=k then(p.1,v) else p) (r.map<|putAt k cv):=by
 induction x with
 |nil=>show .nil|@cons k' y b c r D B hb _ J=>
  rw[da,da];unfold putAt;by_cases e:k'=k
  .rw[aC e,aC e];show .cons C hb J
  rw[aB e,aB e];show .cons B hb J
def TR.put{l:List<|List Atom×V}(x:TR μ h l r){k:List Atom}(J:VR μ h v cv)(B:VR μ h (.tup<|k.map dG)<|.ref a):TR μ h (cB l k v)<|storedH r k a cv:=by
 unfold cB storedH;rw[x.any k];split
 show x.map J;show x.append<|.cons J B .nil
def wF{f:Array AF->Array AF}(J:h.get? a=AA {cls:=.type "list",data:=.seq B.toArray n})(hf:f B.toArray=items'.toArray):
  XL (h.update a<|Au f) a items':=
 ⟨(m6 (Au f) J rfl).trans<|aF AA (by unfold Au;dsimp only;rw[hf])⟩
def aFr{k:Int}{v:AF}{R:Unit->AG->Prop}(e:k=j)(G:XL s.heap a B)(M:B.length<=aM)(T:j<B.length)
  (L:∀h',XL h' a (B.set j v)->AS a s.heap h'->R () {s with heap:=h'}):AQ (Ai W.prog W.w) A (Bf (.ref a) (.int k t) v) R F0 s:=by
 obtain⟨C⟩:=G;have D:s.TypeIs (.ref a) "list":=⟨_,C,rfl⟩;have J:=wF (f:=(·.setIfInBounds j v)) C<|by rw[List.setIfInBounds_toArray]
 have E:B.toArray[j]?=AA B[j]:=by rw[lx];show cK T
 unfold Bf
 try with_reducible refine fw ?_
 first|refine aH (bA ?_)|skip
 refine aH<|wpAny_sequenceKey D ⋯ ?_
 refine aH (IJ D slot_list_setitem
  (pz slot_list_setitem D entry_list_setitem ?_<|args_list_setitem _ _ _))
 change AQ _ _ (Ce (.int k t) >>= _) _ _ s;refine aH<|wpAny_listSubscript_int (Lp (e▸eI j)<|e▸yq T M) ?_;subst e;refine aH<|aH (wpAny_seqItemAt C rfl<|bA ?_);rw[E];refine aH<|wpAny_setSeqItemAt C rfl ?_
 first
  |show aH (bA<|bA ⟨.none,rfl,bA<|L _ J (lu ..)⟩)|show bA ⟨.none,rfl,bA<|L _ J (lu ..)⟩
def iq.lst{k:Nat}{l:List V}(L:H[i]?=AA (.lst l))(T:k<l.length):iq W (.obj i) (.int k) v H<|H.set i (.lst<|l.set k v):=λ{y A s y y y cv R} K hu B hv c=>
 B.cP (P:=λM=>Wp W A (Bf _ M cv) R s) λy=>jD K.N L hu (P:=λcu=>Wp W A (Bf cu _ cv) R s) λy y C x r z=>
  aFr rfl x (r.length▸z) (r.length▸T) λy J D=>c<|te K.N C x (oA D) J (r.set k hv) (List.length_set.symm▸z)
def iq.dict{st:Nat}{aJ:List<|Atom×V}(B:H[i]?=AA (.dict aJ st))(z:aJ.length<=aM):iq W (.obj i) (dG k) v H<|H.set i (.dict (cB aJ k v)<|st+1):=λ{y A s y y L cv R} K hu D hv c=>
 lD K.N B hu (P:=λcu=>Wp W A (Bf cu L cv) R s) λy y C d r=>
  wpAny_setItem_pairs (key_is D) d (λy J T=>c<|RY K.N B rfl C d T J (r.put hv))<|r.length▸fq z
def iq.az{st:Nat}{k:List Atom}{aJ:List<|List Atom×V}(B:H[i]?=AA (.az aJ st))(z:aJ.length<=aM):iq W (.obj i) (.tup<|k.map dG) v H<|H.set i (.az (cB aJ k v)<|st+1):=λ{y A s y y y cv R} K hu D hv c=>
 wA D (P:=λM=>Wp W A (Bf _ M cv) R s) λa L ha=>rF K.N B hu (P:=λcu=>Wp W A (Bf cu _ cv) R s) λy y C d r=>
  wpAny_setItem_heap (room K.rm) L d (λy J T=>c<|aHg K.N B rfl C d T J λE=>(r.kp (E.kp .none)<|Hx d).put (VR.ext E .none v hv) (VR.ext E .none _ ha))<|r.length▸fq z
mutual
noncomputable def Vd:Nat->V->Prop
 |_,.obj _=>False|n+1,.tup l=>oa n l|n+1,.lst l=>oa n l|0,.tup _=>False|0,.lst _=>False|_,_=>True
noncomputable def oa:Nat->List V->Prop
 |_,[]=>True|n,v::l=>Vd n v/\oa n l
end
variable{xs ys:List AF}{p q:AJ}{a b:List Nat}{l t t':List V}{u:V}{i j:Int}
def mA{k:Nat}(h:k<xs.toArray.size):xs[k]?=AA xs.toArray[k]:=by rw[<-lx];show SM h
def all_true:∀n:Nat,(Av n).all (λy=>AB)=AB:=λn=>Sl.mpr λy y=>rfl
def Ml(h:A.units+(n+1)<BU):A.in1.units+n<BU:=by rw[bH,bQ 1 n];show h
def Rh(h:A.units+n<BU):A.units<BU:=bZ (aY _ _) h
def aFj(C:XT s.heap p xs)(B:XT s.heap q ys)(D:xs.length=ys.length)(J:A.units<BU)(h:∀(j:Nat) (x y:AF),xs[j]?=AA x->ys[j]?=AA y->A2 A.in1 s x y AB):RcAt A s (.ref p) (.ref q) AB:=by
 have:=RcAt.tuples C.is B.is J λj L T=>h j _ _ (mA L)<|mA T
 rw[all_true,bu,bu,D,j0] at this;show this
def Qi(C:XL s.heap p xs)(B:XL s.heap q ys)(D:xs.length=ys.length)(J:A.units<BU)(h:∀(j:Nat) (x y:AF),xs[j]?=AA x->ys[j]?=AA y->A2 A.in1 s x y AB):RcAt A s (.ref p) (.ref q) AB:=by
 have:=RcAt.lists C.is B.is (by rw[bu,bu,D]) J λj L T=>h j _ _ (mA L)<|mA T
 rw[all_true] at this;show this
mutual
theorem aFk:∀(n:Nat) (v:V) {A:Ab} {B J:AF},Vd n v->A.units+n<BU->VR μ s.heap v B->VR μ s.heap v J->A2 A s B J AB
 |n,.none,A,B,J=>λy y T D=>T.ti (P:=λB=>A2 A s B J AB) <| D.ti (P:=λJ=>A2 A s _ J AB) <| DQ _|n,.bool b,A,B,J=>λy y T D=>T.rI (P:=λB=>A2 A s B J AB) <| D.rI (P:=λJ=>A2 A s _ J AB) <| DQ _|n,.int i,A,B,J=>λy y T D=>T.cP (P:=λB=>A2 A s B J AB) λt=>D.cP (P:=λJ=>A2 A s _ J AB) λu=>(j0 i)▸Ig i t i u|n,.str x,A,B,J=>λy y T D=>T.hZ (P:=λB=>A2 A s B J AB) λt=>D.hZ (P:=λJ=>A2 A s _ J AB) λu=>(j0 (⟨x.toArray⟩:AN))▸Ih _ t _ u|n,.obj i,A,B,J=>λh y y y=>by rcases n with _|_<;>show h.elim
 |0,.tup l,A,B,J=>λh y y y=>h.elim|0,.lst l,A,B,J=>λh y y y=>h.elim|n+1,.tup l,A,B,J=>λh hu T D=>T.gf (P:=λB=>A2 A s B J AB) λp xs y C y M=>D.gf (P:=λJ=>A2 A s (.ref p) J AB) λq ys y E y L=>
  (lb<|p=q).elim (λe=>e▸DQ _) λe=>EqAt.of_refs e<|aFj C E (M.length.trans L.length.symm) (Rh hu) (vu n l h (Ml hu) M L)
 |n+1,.lst l,A,B,J=>λh hu T D=>T.th (P:=λB=>A2 A s B J AB) λp xs y C y M=>D.th (P:=λJ=>A2 A s (.ref p) J AB) λq ys y E y L=>
  (lb<|p=q).elim (λe=>e▸DQ _) λe=>EqAt.of_refs e<|Qi C E (M.length.trans L.length.symm) (Rh hu) (vu n l h (Ml hu) M L)
theorem vu:∀(n:Nat) (l:List V) {A:Ab} {xs ys:List AF},oa n l->A.units+n<BU->aT μ s.heap l xs->aT μ s.heap l ys->∀(j:Nat) (x y:AF),xs[j]?=AA x->ys[j]?=AA y->A2 A s x y AB
 |n,[],A,xs,ys=>λz z J z=>J.jq (P:=λxs=>∀(j:Nat) (x y:AF),xs[j]?=AA x->ys[j]?=AA y->A2 A s x y AB) λz z z e=>au e|n,v::l,A,xs,ys=>λh hu J C=>J.fU (P:=λxs=>∀(j:Nat) (x y:AF),xs[j]?=AA x->ys[j]?=AA y->A2 A s x y AB) λa r ha D=>C.fU (P:=λys=>∀(j:Nat) (x y:AF),(a::r)[j]?=AA x->ys[j]?=AA y->A2 A s x y AB) λb L hb B j x y=>
  match j with
  |0=>λe T=>ai e▸ai T▸aFk n v h.1 hu ha hb|j+1=>vu n l h.2 hu D B j x y
end
def Vg(C:XL s.heap p xs)(B:XL s.heap q ys)(D:xs.length=ys.length)(J:A.units<BU)(h:∀(j:Nat) (x y:AF),xs[j]?=AA x->ys[j]?=AA y->A2 A.in1 s x y AB):RcNeAt A s (.ref p) (.ref q) AD:=by
 have:=RcNeAt.lists C.is B.is (by rw[bu,bu,D]) J λj L T=>h j _ _ (mA L)<|mA T
 rw[all_true] at this;show this
def Rm.Of(r:Rm A n):A.in1.units+1200<BU:=by have:=r.u;show bZ (by rw[bH];show bW (aY _ _) ⋯) this
def Cu:((⟨a.toArray⟩:AN) == ⟨b.toArray⟩)=decide (a=b):=KX ⟨str_inj,aF λl:List Nat=>(⟨l.toArray⟩:AN)⟩
def oX.str:P2 W (.str a) (.bool<|decide (a=b)) (.str b) H H<|AI .Eq:=λ{y A s y y J R} K hu B c=>
 hu.hZ (P:=λcu=>Wp W A (AI .Eq cu J) R s) λt=>B.hZ (P:=λJ=>Wp W A (AI .Eq _ J) R s) λu=>RcAt.str_str _ t _ u _ _ _ _<|c.here K.N (Cu▸rfl)
def k5.str:P2 W (.str a) (.bool<|!decide (a=b)) (.str b) H H<|AI .NotEq:=λ{y A s y y J R} K hu B c=>
 hu.hZ (P:=λcu=>Wp W A (AI .NotEq cu J) R s) λt=>B.hZ (P:=λJ=>Wp W A (AI .NotEq _ J) R s) λu=>RcNeAt.str_str _ t _ u _ _ _ _<|c.here K.N (Cu▸rfl)
def oX.int{a b:Int}:P2 W (.int a) (.bool<|decide (a=b)) (.int b) H H<|AI .Eq:=λ{y A s y y J R} K hu B c=>
 hu.cP (P:=λcu=>Wp W A (AI .Eq cu J) R s) λt=>B.cP (P:=λJ=>Wp W A (AI .Eq _ J) R s) λu=>RcAt.int_int a t b u _ _ _ _<|c.here K.N rfl
def k5.int{a b:Int}:P2 W (.int a) (.bool<|!decide (a=b)) (.int b) H H<|AI .NotEq:=λ{y A s y y J R} K hu B c=>
 hu.cP (P:=λcu=>Wp W A (AI .NotEq cu J) R s) λt=>B.cP (P:=λJ=>Wp W A (AI .NotEq _ J) R s) λu=>RcNeAt.int_int a t b u _ _ _ _<|c.here K.N rfl
def k5.bool{a b:Bool}:P2 W (.bool a) (.bool<|!(a == b)) (.bool b) H H<|AI .NotEq:=λ{y A s y y J R} K hu B c=>
 hu.rI (P:=λcu=>Wp W A (AI .NotEq cu J) R s) <| B.rI (P:=λJ=>Wp W A (AI .NotEq _ J) R s) <| RcNeAt.bool_bool a b _ _ _ _<|c.here K.N rfl
inductive IsL(H:AH)(l:List V):V->Prop
 |val:IsL H l (.lst l)|cell {i:Nat} (hc:H[i]?=AA (.lst l)):IsL H l (.obj i)
def IsL.at(x:IsL H l v)(N:bC W μ H s.heap)(J:VR μ s.heap v cv)(k:∀a B,XL s.heap a B->aT μ s.heap l B->l.length<=aM->P (.ref a)):P cv:=by
 induction x using IsL.casesOn with
 |val=>show J.th λa B y x z r=>k a B x r z|cell hc=>show jD N hc J λa B y x r z=>k a B x r z
section
variable(hu:IsL H l u)(hv:IsL H l v)(hd:oa 1200 l)
def oX.lst:P2 W u (.bool AB) v H H<|AI .Eq:=λ{y A s y y J R} K T D c=>
 hu.at K.N T (P:=λcu=>Wp W A (AI .Eq cu J) R s) λy y x r y=>hv.at K.N D (P:=λJ=>Wp W A (AI .Eq _ J) R s) λy y C B y=>
  Qi x C (r.length.trans B.length.symm) K.rm.lt (vu 1200 l hd K.rm.Of r B) _ _ _ _<|c.here K.N rfl
def k5.lst:P2 W u (.bool AD) v H H<|AI .NotEq:=λ{y A s y y J R} K T D c=>
 hu.at K.N T (P:=λcu=>Wp W A (AI .NotEq cu J) R s) λy y x r y=>hv.at K.N D (P:=λJ=>Wp W A (AI .NotEq _ J) R s) λy y C B y=>
  Vg x C (r.length.trans B.length.symm) K.rm.lt (vu 1200 l hd K.rm.Of r B) _ _ _ _<|c.here K.N rfl
end
def sT(a b:List Nat)(i j:Int):Nat->Bool
 |0=>decide (a=b)|_=>decide<|i=j
def Ls(C:aT μ s.heap (.str a::.int i::t) xs)(B:aT μ s.heap (.str b::.int j::t') ys)(T:t=[]\/t'=[]):∀(k:Nat) (x y:AF),xs[k]?=AA x->ys[k]?=AA y->A2 A s x y (sT a b i j k):=
 C.fU (P:=λxs=>∀(k:Nat) (x y:AF),xs[k]?=AA x->ys[k]?=AA y->A2 A s x y (sT a b i j k)) λz z M C=>C.fU (P:=λxs=>∀(k:Nat) (x y:AF),(_::xs)[k]?=AA x->ys[k]?=AA y->A2 A s x y (sT a b i j k)) λz r L C=>
 B.fU (P:=λys=>∀(k:Nat) (x y:AF),(_::_::r)[k]?=AA x->ys[k]?=AA y->A2 A s x y (sT a b i j k)) λz z G B=>B.fU (P:=λys=>∀(k:Nat) (x y:AF),(_::_::r)[k]?=AA x->(_::ys)[k]?=AA y->A2 A s x y (sT a b i j k)) λz D E B k x y e J=>
 match k,e,J with
 |0,e,J=>ai e▸ai J▸M.hZ (P:=λc=>A2 A s c _ _) λt=>G.hZ (P:=λc=>A2 A s _ c _) λu=>(Cu▸Ih _ t _ u:A2 A s _ _<|decide (a=b))|1,e,J=>ai e▸ai J▸L.cP (P:=λc=>A2 A s c _ _) λt=>E.cP (P:=λc=>A2 A s _ c _) λu=>Ig i t j u|k+2,e,J=>T.elim (λq=>(q▸C:aT μ s.heap [] r).jq (P:=λr=>r[k]?=AA x->A2 A s x y _) (λe=>au e) e) λq=>(q▸B:aT μ s.heap [] D).jq (P:=λr=>r[k]?=AA y->A2 A s x y _) (λe=>au e) J
def min_two{m:Nat}(h:n=0\/m=0):min (n+1+1) (m+1+1)=2:=by
 rcases h with rfl|rfl;show uQ<|bU _ _;show D3<|bU _ _
def nT(a b:List Nat)(i j:Int)(t J:List V):Bool:=(decide (a=b)&&(decide (i=j)&&AB))&&(t.length+1+1 == J.length+1+1)
def Lu(B:aT μ s.heap (.str a::.int i::t) xs)(J:aT μ s.heap (.str b::.int j::t') ys)(C:t=[]\/t'=[]):((Av<|min xs.toArray.size ys.toArray.size).all (sT a b i j)&&xs.toArray.size == ys.toArray.size)=nT a b i j t t':=by
 rw[bu,bu,B.length,J.length,fK,fK,fK,fK,min_two (C.imp (λq=>by rw[q];rfl) λq=>by rw[q];rfl)]
 rfl
def oX.flat(C:t=[]\/t'=[]):P2 W (.tup<|.str a::.int i::t) (.bool<|nT a b i j t t') (.tup<|.str b::.int j::t') H H<|AI .Eq:=λ{y A s y y J R} K hu T c=>
 hu.gf (P:=λcu=>Wp W A (AI .Eq cu J) R s) λy y y x y r=>T.gf (P:=λJ=>Wp W A (AI .Eq _ J) R s) λy y y D y B=>
  RcAt.tuples x.is D.is K.rm.lt (λk M L=>Ls r B C k _ _ (mA M)<|mA L) _ _ _ _<|Lu r B C▸c.here K.N rfl
def k5.flat(C:t=[]\/t'=[]):P2 W (.tup<|.str a::.int i::t) (.bool<|!nT a b i j t t') (.tup<|.str b::.int j::t') H H<|AI .NotEq:=λ{y A s y y J R} K hu T c=>
 hu.gf (P:=λcu=>Wp W A (AI .NotEq cu J) R s) λy y y x y r=>T.gf (P:=λJ=>Wp W A (AI .NotEq _ J) R s) λy y y D y B=>
  RcNeAt.tuples x.is D.is K.rm.lt (λk M L=>Ls r B C k _ _ (mA M)<|mA L) _ _ _ _<|Lu r B C▸c.here K.N rfl
variable{t:Tok}{i:Nat}{aJ:List (Atom×V)}{q l:List Int}{a b:Int}{cu:AF}{r:List V}
def int_is{k:Int}:(A6 prog w).is k (.int k t)=AB:=j0 k
def qI.dict{st:Nat}(B:H[i]?=AA (.dict aJ st)):P2 W (dG k) (.bool (aa aJ k).isSome) (.obj i) H H<|AI .In:=λ{y A s y cu y R} K hu J c=>
 lD K.N B J (P:=λD=>Wp W A (AI .In cu D) R s) λy y C d r=>wpAny_in_of (key_is hu) (nc K.wk K.N C) d.mapOf<|c.here K.N ((r.get k).is▸rfl)
def qJ.dict{st:Nat}(B:H[i]?=AA (.dict aJ st)):P2 W (dG k) (.bool<|!(aa aJ k).isSome) (.obj i) H H<|AI .NotIn:=λ{y A s y cu y R} K hu J c=>
 lD K.N B J (P:=λD=>Wp W A (AI .NotIn cu D) R s) λy y C d r=>wpAny_notIn_of (key_is hu) (nc K.wk K.N C) d.mapOf<|c.here K.N ((r.get k).is▸rfl)
def map_some{f:α->β}{o:Option α}:(o.map f).isSome=o.isSome:=by rcases o with _|_<;>rfl
def qI.az{st:Nat}{aJ:List<|List Atom×V}{k:List Atom}(T:H[i]?=AA (.az aJ st)):P2 W (.tup<|k.map dG) (.bool (aa aJ k).isSome) (.obj i) H H<|AI .In:=λ{y A s y y J R} K hu B c=>
 wA hu (P:=λcu=>Wp W A (AI .In cu J) R s) λy D y=>rF K.N T B (P:=λJ=>Wp W A (AI .In _ J) R s) λy y C d r=>wpAny_in_heap (room K.rm) D (nc K.wk K.N C) d<|c.here K.N (((r.get k).is.symm.trans map_some)▸rfl)
def qJ.az{st:Nat}{aJ:List<|List Atom×V}{k:List Atom}(T:H[i]?=AA (.az aJ st)):P2 W (.tup<|k.map dG) (.bool<|!(aa aJ k).isSome) (.obj i) H H<|AI .NotIn:=λ{y A s y y J R} K hu B c=>
 wA hu (P:=λcu=>Wp W A (AI .NotIn cu J) R s) λy D y=>rF K.N T B (P:=λJ=>Wp W A (AI .NotIn _ J) R s) λy y C d r=>PyProof.Rows.wpAny_notIn_heap (room K.rm) D (nc K.wk K.N C) d<|c.here K.N (((r.get k).is.symm.trans map_some)▸rfl)
def qI.set{k:Int}(D:H[i]?=AA (.set q)):P2 W (.int k) (.bool<|q.contains k) (.obj i) H H<|AI .In:=λ{y A s y y J R} K hu B c=>
 hu.cP (P:=λcu=>Wp W A (AI .In cu J) R s) λy=>tS K.N D B (P:=λJ=>Wp W A (AI .In _ J) R s) λy C d y=>wpAny_inSet_of int_is rfl d<|c.here K.N rfl
def qJ.set{k:Int}(D:H[i]?=AA (.set q)):P2 W (.int k) (.bool<|!q.contains k) (.obj i) H H<|AI .NotIn:=λ{y A s y y J R} K hu B c=>
 hu.cP (P:=λcu=>Wp W A (AI .NotIn cu J) R s) λy=>tS K.N D B (P:=λJ=>Wp W A (AI .NotIn _ J) R s) λy C d y=>wpAny_notInSet_of int_is rfl d<|c.here K.N rfl
def vD(k:Int):AF->Bool
 | .int j _=>j == k|_=>AD
theorem vB:∀{l:List Int} {vs:List AF},aT μ s.heap (l.map V.int) vs->(∀y∈vs,∃j t,y=Bz j t)/\∀k,vs.any (vD k)=l.any (· == k)
 | []=>λhl=>hl.jq (P:=λvs=>(∀y∈vs,∃j t,y=Bz j t)/\∀k,vs.any (vD k)=[].any (· == k)) ⟨(λz q=>aW q),λz=>rfl⟩|j::l=>λhl=>hl.fU (P:=λvs=>(∀y∈vs,∃j t,y=Bz j t)/\∀k,vs.any (vD k)=(j::l).any (· == k)) λz r hv J=>hv.cP (P:=λv=>(∀y∈v::r,∃j t,y=Bz j t)/\∀k,(v::r).any (vD k)=(j::l).any (· == k)) λt=>
  ⟨λy q=>(JJ.mp q).elim (λe=>⟨j,t,e⟩)<|(vB J).1 y,λk=>aF ((j == k)||·)<|(vB J).2 k⟩
def Mz(B:aT μ s.heap (l.map V.int) vs)(k:Int)(t:Tok):∀y∈vs.toArray,A2 A s y (.int k t)<|vD k y:=λy J=>
 let ⟨j,u,e⟩:=(vB B).1 y<|Array.mem_toArray.mp J;e▸Ig j u k t
section
variable(hl:IsL H (l.map V.int) u)
def qI.ints{k:Int}:P2 W (.int k) (.bool (l.any (· == k))) u H H<|AI .In:=λ{y A s y y J R} K hu B c=>
 hu.cP (P:=λcu=>Wp W A (AI .In cu J) R s) λt=>hl.at K.N B (P:=λJ=>Wp W A (AI .In _ J) R s) λy y x r y=>in_listAt _ x.is (Mz r k t)<|I4▸(vB r).2 k▸c.here K.N rfl
def qJ.ints{k:Int}:P2 W (.int k) (.bool (!l.any (· == k))) u H H<|AI .NotIn:=λ{y A s y y J R} K hu B c=>
 hu.cP (P:=λcu=>Wp W A (AI .NotIn cu J) R s) λt=>hl.at K.N B (P:=λJ=>Wp W A (AI .NotIn _ J) R s) λy y x r y=>notIn_listAt _ x.is (Mz r k t)<|I4▸(vB r).2 k▸c.here K.N rfl
end
def mn{J:AF}{P:AF->AF->Prop}(C:VR μ s.heap (.int a) cu)(B:VR μ s.heap (.int b) J)(k:∀t u,P (.int a t)<|.int b u):P cu J:=C.cP (P:=λcu=>P cu J) λt=>B.cP<|k t
def Tp.int:P2 W (.int a) (.bool<|decide (a<b)) (.int b) H H<|AI .Lt:=λ{z A s z z z R} K hu J c=>mn hu J (P:=λx y=>Wp W A (AI .Lt x y) R s) λz z=>lt_int<|c.here K.N rfl
def To.int:P2 W (.int a) (.bool<|decide (a<=b)) (.int b) H H<|AI .LtE:=λ{z A s z z z R} K hu J c=>mn hu J (P:=λx y=>Wp W A (AI .LtE x y) R s) λz z=>le_int<|c.here K.N rfl
def Tn.int:P2 W (.int a) (.bool<|decide (b<a)) (.int b) H H<|AI .Gt:=λ{z A s z z z R} K hu J c=>mn hu J (P:=λx y=>Wp W A (AI .Gt x y) R s) λz z=>gt_int<|c.here K.N rfl
def Tj.int:P2 W (.int a) (.bool<|decide (b<=a)) (.int b) H H<|AI .GtE:=λ{z A s z z z R} K hu J c=>mn hu J (P:=λx y=>Wp W A (AI .GtE x y) R s) λz z=>ge_int<|c.here K.N rfl
def nD.int:P2 W (.int a) (.int<|a+b) (.int b) H H<|AY .Add:=λ{z A s z z z R} K hu J c=>mn hu J (P:=λx y=>Wp W A (AY .Add x y) R s) λz z=>add_int<|c.here K.N .gX
def Tr.int:P2 W (.int a) (.int<|a-b) (.int b) H H<|AY .Sub:=λ{z A s z z z R} K hu J c=>mn hu J (P:=λx y=>Wp W A (AY .Sub x y) R s) λz z=>sub_int'<|c.here K.N .gX
def EB.int(C:A3 a<=4096)(B:A3 b<=4096):P2 W (.int a) (.int<|a*b) (.int b) H H<|AY .Mult:=λ{z A s z z z R} K hu J c=>mn hu J (P:=λx y=>Wp W A (AY .Mult x y) R s) λz z=>
 mul_int (c.here K.N .gX)<|IntMulOk.of_bits (aA C ⋯) (aA B ⋯)
def Ti.int(J:0<b)(C:b<1073741824):P2 W (.int a) (.int<|Int.fdiv a b) (.int b) H H<|AY .FloorDiv:=λ{z A s z z z R} K hu B c=>mn hu B (P:=λx y=>Wp W A (AY .FloorDiv x y) R s) λz z=>
 floordiv_int (Int.ne_of_gt J) (c.here K.N .gX)<|.inl (PyProof.noPylong_small<|Sg (rT J) C)
def uV.int(B:0<b):P2 W (.int a) (.int<|Bv a b) (.int b) H H<|AY .Mod:=λ{z A s z z z R} K hu J c=>mn hu J (P:=λx y=>Wp W A (AY .Mod x y) R s) λz z=>
 mod_int' (Int.ne_of_gt B)<|c.here K.N .gX
def EC.int(J:0<=b)(C:b<=60):P2 W (.int 10) (.int<|10 ^ b.toNat) (.int b) H H<|AY .Pow:=λ{z A s z z z R} K hu B c=>mn hu B (P:=λx y=>Wp W A (AY .Pow x y) R s) λz z=>
 pow_int J (du (Int.mul_le_mul (Int.ofNat_le.mpr<|PyProof.Rows.intBits_le (k:=4) ⋯) C J ⋯) ⋯)<|c.here K.N .gX
def nD.str{a b:List Nat}(h:a.length+b.length<=aM):P2 W (.str a) (.str<|a++b) (.str b) H H<|AY .Add:=λ{y A s y y J R} K hu B c=>
 hu.hZ (P:=λcu=>Wp W A (AY .Add cu J) R s) λy=>B.hZ (P:=λJ=>Wp W A (AY .Add _ J) R s) λy=>
  add_str (λy y=>c.here K.N ⟨aF (λx:AN=>CN x _)<|show(⟨a.toArray++b.toArray⟩:AN)=_ by rw[I5]⟩) (show a.toArray.size+b.toArray.size<=_ by rw[bu,bu];show fq h)
def iU(h:AW):h.get? h.objs.size=AE:=by
 rcases e:h.get? h.objs.size with _|o;rfl;show absurd (iP e)<|eU _
def qY(k:∀b o,h.get? b=AA o->h'.get? b=AA o):h.get? h'.objs.size=AE:=by
 rcases e:h.get? h'.objs.size with _|o;rfl;show absurd (iP<|k _ _ e)<|eU _
def cO(h:AW)(x:B5):∀b o,h.get? b=AA o->(h.push x).get? b=AA o:=λb o e=>p6 _ e
def XL.new:XL (h.push {cls:=.type "list",data:=.seq vs.toArray}) h.objs.size vs:=⟨eC _ rfl⟩
def XT.new:XT (h.push {cls:=.type "tuple",data:=.seq vs.toArray}) h.objs.size vs:=⟨eC _ rfl⟩
def UE{l b:AJ}{ws:List AF}(D:XL s.heap l vs)(T:XL s.heap b ws)(B:vs.length+ws.length<=aM)
  (h:R (.ref s.heap.objs.size) {s with heap:=s.heap.push {cls:=.type "list",data:=.seq (vs++ws).toArray}}):Wp W A (AY .Add (.ref l)<|.ref b) R s:=by
 obtain⟨C⟩:=D;obtain⟨J⟩:=T;rw[<-I5] at h;show concat_meets ⟨_,C,rfl⟩ ⟨_,J,rfl⟩ noFill_list_add seq_list_add PySem.F.slot_list_add PySem.F.entry_list_add (PySem.F.args_list_add_2 _ _) (list_addW l b vs.toArray ws.toArray _ _ AE AE #[] #[] (bu▸bu▸fq B)) ⟨C,J,h⟩
def nD.lst{l:List V}{x:V}(L:IsL H l u)(T:IsL H r x)(z:(l++r).length<=aM)(q:LR (l++r) H v H'):P2 W u v x H H'<|AY .Add:=λ{y A s y y J R} K hu D c=>
 L.at K.N hu (P:=λcu=>Wp W A (AY .Add cu J) R s) λy y x r y=>T.at K.N D (P:=λJ=>Wp W A (AY .Add _ J) R s) λy y C B y=>
  UE x C (r.length▸B.length▸a5▸z)<|nj q K.N (r.append B) z (cO _ _) (iU _) .new c
def F1.fv:F1->AF
 | .len=>.builtin "len"| .sorted=>.builtin "sorted"| .list=>.type "list"| .tuple=>.type "tuple"| .str=>.type "str"
variable{l:List V}
def rq.tup:P1 W (.tup l) (.int l.length) H H<|λa=>call (.builtin "len") [a]:=λ{y A s y y R} K hu c=>
 hu.gf (P:=λcu=>Wp W A (call (.builtin "len") [cu]) R s) λy xs y x z r=>by
  have e:(xs.toArray.size:Int)=l.length:=by rw[bu,r.length]
  show len_tuple x.is (e▸oG z)<|e▸c.here K.N .gX
def rq.lst(J:IsL H l u):P1 W u (.int l.length) H H<|λa=>call (.builtin "len") [a]:=λ{y A s y y R} K hu c=>
 J.at K.N hu (P:=λcu=>Wp W A (call (.builtin "len") [cu]) R s) λy xs x r z=>by
  have e:(xs.toArray.size:Int)=l.length:=by rw[bu,r.length]
  show call_len_list x.is (e▸oG z)<|e▸c.here K.N .gX
def rq.dict{st:Nat}(J:H[i]?=AA (.dict aJ st))(z:aJ.length<=aM):P1 W (.obj i) (.int aJ.length) H H<|λa=>call (.builtin "len") [a]:=λ{y A s y y R} K hu c=>
 lD K.N J hu (P:=λcu=>Wp W A (call (.builtin "len") [cu]) R s) λy y C d r=>call_len_dict (nc K.wk K.N C) d (r.length▸oG z)<|r.length▸c.here K.N .gX
def k4.tup(q:LR l H v H'):P1 W (.tup l) v H H'<|λa=>call (.type "list") [a]:=λ{y A s y y R} K hu c=>
 hu.gf (P:=λcu=>Wp W A (call (.type "list") [cu]) R s) λa xs y x z r=>let ⟨J⟩:=x
  call_list_seq a (.inr rfl) J rfl rfl (λy y B hn=>nj q K.N r z B (iU _) ⟨hn⟩ c) (by rw[bu,r.length];show fq z)
def k4.lst(B:IsL H l u)(q:LR l H v H'):P1 W u v H H'<|λa=>call (.type "list") [a]:=λ{y A s y y R} K hu c=>
 B.at K.N hu (P:=λcu=>Wp W A (call (.type "list") [cu]) R s) λa xs x r z=>let ⟨J⟩:=x
  call_list_seq a (.inl rfl) J rfl rfl (λy y C hn=>nj q K.N r z C (iU _) ⟨hn⟩ c) (by rw[bu,r.length];show fq z)
def Tv.lst(B:IsL H l u):P1 W u (.tup l) H H<|λa=>call (.type "tuple") [a]:=λ{y A s y y R} K hu c=>
 B.at K.N hu (P:=λcu=>Wp W A (call (.type "tuple") [cu]) R s) λa xs x r z=>
  call_tuple_list x.is (λy J=>y6 K.N r z (λb o e=>p6 _<|J b o e) (qY J) .new c) (by rw[bu,r.length];show fq z)
def P0(W:Wd)(H:AH)(v:V)(J:AH)(m:Sem AF):Prop:=∀{n:Nat} {A:Ab} {s:AG} {μ:Mu} {R:AF->AG->Prop},Ok W n A μ H s->Kc W μ s J v R->Wp W A m R s
def Tt.new:P0 W H (.obj H.length) (H++[.set []])<|call (.type "set") []:=λK c=>
 call_set_0 λB=>y0 (c:=.set []) K.N (cO _ _) (iU _) ⟨rfl,⟨_,_,_,_,eC _ rfl,⟨rfl,rfl,rfl⟩,rfl,(λy q=>aW q),(λk=>⟨(λq=>(aI q).elim),(λC=>C.elim λy J=>J.elim λq y=>aW q)⟩),by decide,by rcases B with _|_<;>rfl,rfl⟩,d7⟩ (λy e=>au e) c
inductive DR(H:AH):V->AH->Prop
 |dict:DR H (.obj H.length) (H++[.dict [] 0])|az:DR H (.obj H.length) (H++[.az [] 0])
def aCw(q:DR H v H')(N:bC W μ H s.heap)(c:Kc W μ s H' v R):R (.ref s.heap.objs.size) {s with heap:=s.heap.push {cls:=.type "dict",data:=.dict #[]}}:=by
 induction q using DR.casesOn with
 |dict=>show y0 (c:=.dict [] 0) N (cO _ _) (iU _) ⟨rfl,Heap.DictOf.new _,.nil⟩ (λy e=>ai e) c|az=>show y0 (c:=.az [] 0) N (cO _ _) (iU _) ⟨rfl,Heap.DictOfH.new _,.nil⟩ (λy e=>ai e) c
inductive EG(vs:List V)(H:AH):V->AH->Prop
 |mk (z:vs.length<=aM):EG vs H (.tup vs) H
def yL:V->Bool
 | .none=>AD|_=>AB
inductive D9(u:V)(H:AH):V->AH->Prop
 |mk:D9 u H (.bool (yL u)) H
inductive Ji(u:V)(H:AH):V->AH->Prop
 |mk {l:List V} (x:IsL H l u):Ji u H (.bool (!l.isEmpty)) H
inductive Iy(l:List (List Nat))(H:AH):V->V->AH->Prop
 |mk {x:List Nat}:Iy l H (.str x) (.bool (l.contains x)) H
inductive BM(s:AG)(ov:AF)(name:AN)(id:String):Prop
 |mk {T:String} (pa:PlainAttrs T) (slot:Slot T name id) (ty:typeOf (.builtin id)=Ae (.type "method_descriptor")) (hT:s.TypeIs ov T) (hd:∀a,ov=.ref a->∃ob,s.heap.get? a=AA ob/\ob.dict=AE)
def Mt.nm:Mt->AN
 | .append=>"append"| .pop=>"pop"| .insert=>"insert"| .add=>"add"| .discard=>"discard"| .f7=>"get"| .gv=>"pop"
def Mt.id:Mt->String
 | .append=>"list.append"| .pop=>"list.pop"| .insert=>"list.insert"| .add=>"set.add"| .discard=>"set.discard"| .f7=>"dict.get"| .gv=>"dict.pop"
def Recv(W:Wd)(m:Mt)(u:V)(H:AH):Prop:=∀{μ:Mu} {s:AG} {cu:AF},bC W μ H s.heap->VR μ s.heap u cu->BM s cu m.nm m.id
def c6(W:Wd)(m:Mt)(us:List V)(H:AH)(v:V)(B:AH):Prop:=∀{n:Nat} {A:Ab} {s:AG} {μ:Mu} {J:List AF} {R:AF->AG->Prop},Ok W n A μ H s->aT μ s.heap us J->Kc W μ s B v R->Wp W A (call (.builtin m.id) J) R s
variable{a:AJ}{name:AN}{j:Nat}
def BM.of{B:String}(x:nC s.heap a T)(L:PlainAttrs T)(J:Slot T name B)(D:typeOf (.builtin B)=Ae (.type "method_descriptor")):BM s (.ref a) name B:=by
 cases x with|mk C c d=>show⟨L,J,D,⟨_,C,c⟩,λb e=>⟨_,T4 e▸C,d⟩⟩
def XL.obj(x:XL s.heap a B):nC s.heap a "list":=x.casesOn λe=>⟨e,rfl,rfl⟩
section
variable(hc:H[i]?=AA (.lst l))
def Recv.append:Recv W .append (.obj i) H:=λ{y s y} N hu=>jD N hc hu (P:=λc=>BM s c _ _) λy y y x y y=>.of x.obj DS F.slot_list_append F.type_list_append
def Recv.pop:Recv W .pop (.obj i) H:=λ{y s y} N hu=>jD N hc hu (P:=λc=>BM s c _ _) λy y y x y y=>.of x.obj DS F.slot_list_pop F.type_list_pop
def Recv.insert:Recv W .insert (.obj i) H:=λ{y s y} N hu=>jD N hc hu (P:=λc=>BM s c _ _) λy y y x y y=>.of x.obj DS F.slot_list_insert F.type_list_insert
end
def Recv.add(J:H[i]?=AA (.set q)):Recv W .add (.obj i) H:=λ{y s y} N hu=>tS N J hu (P:=λc=>BM s c _ _) λy y d y=>.of (vx d) F.plainAttrs_set F.slot_set_add F.type_set_add
def Recv.discard(J:H[i]?=AA (.set q)):Recv W .discard (.obj i) H:=λ{y s y} N hu=>tS N J hu (P:=λc=>BM s c _ _) λy y d y=>.of (vx d) F.plainAttrs_set F.slot_set_discard F.type_set_discard
def Recv.get{st:Nat}(J:H[i]?=AA (.dict aJ st)):Recv W .f7 (.obj i) H:=λ{y s y} N hu=>lD N J hu (P:=λc=>BM s c _ _) λy y y d y=>.of (uq d) Ii DT F.type_dict_get
def Recv.Hz{aJ:List<|List Atom×V}{st:Nat}(J:H[i]?=AA (.az aJ st)):Recv W .f7 (.obj i) H:=λ{y s y} N hu=>rF N J hu (P:=λc=>BM s c _ _) λy y y d y=>.of (v9 d) Ii DT F.type_dict_get
def Recv.gv{st:Nat}(J:H[i]?=AA (.dict aJ st)):Recv W .gv (.obj i) H:=λ{y s y} N hu=>lD N J hu (P:=λc=>BM s c _ _) λy y y d y=>.of (uq d) Ii F.slot_dict_pop F.type_dict_pop
def c6.append(E:H[i]?=AA (.lst l))(z:(l++[v]).length<=aM):c6 W .append [.obj i,v] H .none<|H.set i (.lst<|l++[v]):=λ{y A s y y R} K J c=>
 J.tg (P:=λT=>Wp W A (call (.builtin "list.append") T) R s) λy cv hu hv=>jD K.N E hu (P:=λcu=>Wp W A (call (.builtin "list.append") [cu,cv]) R s) λy B C x r y=>let ⟨M⟩:=x
  append_at M (λh' L D=>c (te K.N C x (oA L) ⟨JM B cv▸D⟩ (r.append<|.one hv) z) .of_none) (bu▸r.length▸fq (aA (aY _ _)<|a5▸z))
def V5(B:List AF):B.toArray.eraseIdxIfInBounds (B.toArray.size-1)=B.dropLast.toArray:=by
 apply IP
 rw[bu,Array.eraseIdxIfInBounds];split
 .rw[List.eraseIdx_toArray,rf,List.eraseIdx_length_sub_one]
 rename_i q;rw[bu] at q
 have:=TG.mp<|TY λh=>q (w4 h w3)
 rw[this];rfl
def c6.pop(Y:H[i]?=AA (.lst l))(E:l.getLast?=AA v):c6 W .pop [.obj i] H v<|H.set i (.lst l.dropLast):=λ{y A s y y R} K D c=>
 D.Rg (P:=λM=>Wp W A (call (.builtin "list.pop") M) R s) λy hu=>jD K.N Y hu (P:=λcu=>Wp W A (call (.builtin "list.pop") [cu]) R s) λa B C x r z=>x.casesOn λG=>by
  rw[TF] at E;obtain⟨⟨L,J⟩⟩:=r.get E;have T:=te (tk:=s.toks) K.N C x (oA<|lu ..) (wF (f:=λxs=>xs.eraseIdxIfInBounds<|B.toArray.size-1) G<|V5 B) (List.dropLast_eq_take.symm▸List.dropLast_eq_take.symm▸r.length.symm▸r.take _)<|aA (List.length_dropLast▸nB _ _) z;show call_meets F.slot_list_pop (lU x) F.entry_list_pop (F.args_list_pop_1 _) (PySem.MeetsSeq.list_pop_last a B.toArray _ _ (bu▸lx▸r.length▸L)<|bu▸r.length▸fq z) ⟨G,c T<|T.up J⟩
def Yz(B:List AF)(J:AF)(C:j<=B.length):(let k':=if ((j:Int)<0) then((j:Int)+(B.toArray.size:Int)).toNat else min (j:Int).toNat B.toArray.size;(B.toArray.extract 0 k').push J++B.toArray.extract k')=(B.take j++J::B.drop j).toArray:=by
 have D:=Int.not_lt.mpr<|eI j;simp only[D,if_false,De,bu,uQ C];apply IP
 simp
 show uP<|by simp
def Y0(J:j<=n)(z:n<=aM):¬(!Builtin.List.listFitsIndex (j:Int))=AB:=by
 rw[Lp (eI j)<|rU (Int.ofNat_le.mpr J) (oG z)];decide
def Y6{k:Int}(e:k=j)(x:XL s.heap a B)(D:j<=B.length)(z:B.length<=aM)
  (q:∀h',AS a s.heap h'->XL h' a (B.take j++cv::B.drop j)->R .none {s with heap:=h'}):AQ (Ai W.prog W.w) A (call (.builtin "list.insert") [.ref a,.int k t,cv]) R F0 s:=by
 obtain⟨C⟩:=x;have J:=e▸Y0 D z;refine call_meets F.slot_list_insert (lU ⟨C⟩) F.entry_list_insert (F.args_list_insert_3 _ _ _) (AutoSeq1.list_insert_list_int_val_1 a B.toArray _ k t cv J<|bu▸fq z) ⟨C,?_⟩;subst e;show q _ (lu ..)<|wF C (Yz B cv D)
def c6.insert(Y:H[i]?=AA (.lst l))(G:j<=l.length)(z:l.length+1<=aM):c6 W .insert [.obj i,.int j,v] H .none<|H.set i (.lst<|l.take j++v::l.drop j):=λ{y A s y y R} K J c=>
 J.H9 (P:=λD=>Wp W A (call (.builtin "list.insert") D) R s) λy Z cv hu E hv=>E.cP (P:=λck=>Wp W A (call (.builtin "list.insert") [_,ck,cv]) R s) λt=>jD K.N Y hu (P:=λcu=>Wp W A (call (.builtin "list.insert") [cu,_,cv]) R s) λa B C x r T=>
  Y6 rfl x (r.length▸G) (r.length▸T) λh' M L=>c (te K.N C x (oA M) L ((r.take j).append<|.cons hv (r.drop j)) (by rw[a5,fK,<-bH,<-a5,Dv];show z)) .of_none
def c6.get{st:Nat}(T:H[i]?=AA (.dict aJ st)):c6 W .f7 [.obj i,dG k,d] H ((aa aJ k).getD d) H:=λ{y A s y y R} K J c=>
 J.H9 (P:=λB=>Wp W A (call (.builtin "dict.get") B) R s) λy ck cd hu D hd=>lD K.N T hu (P:=λcu=>Wp W A (call (.builtin "dict.get") [cu,ck,cd]) R s) λa cs C D_ r=>
  Kq DT D_.typeIs F.entry_dict_get (F.args_dict_get_3 _ _ _) (meets_dict_get_default (dZ W.prog W.w) a (key_is D) (nc K.wk K.N C) cd) ⟨_,D_.mapOf,c.here K.N<|(r.get k).or hd⟩
def c6.Hz{aJ:List<|List Atom×V}{st:Nat}{k:List Atom}(M:H[i]?=AA (.az aJ st)):c6 W .f7 [.obj i,.tup<|k.map dG,d] H ((aa aJ k).getD d) H:=λ{y A s y y R} K J c=>
 J.H9 (P:=λD=>Wp W A (call (.builtin "dict.get") D) R s) λy ck cd hu L hd=>wA L (P:=λck=>Wp W A (call (.builtin "dict.get") [_,ck,cd]) R s) λT B y=>rF K.N M hu (P:=λcu=>Wp W A (call (.builtin "dict.get") [cu,_,cd]) R s) λa cs C D_ r=>
  Kq DT (RN D_) F.entry_dict_get (F.args_dict_get_3 _ _ _) (meetsH_dict_get_default (Aj<|dZ W.prog W.w) a T (nc K.wk K.N C) cd) ⟨room K.rm,k,cs,B,D_,c.here K.N (by
   have q:=(r.get k).or hd
   revert q
   rcases atKey cs k with _|_<;>show λq=>q)⟩
def aA6{a:Atom}(J:VR μ h (dG a) ck):(keyPart ck).isSome=AB:=by
 rcases a with _|_;show J.cP (P:=λck=>(keyPart ck).isSome=AB) λy=>rfl;show J.hZ (P:=λck=>(keyPart ck).isSome=AB) λy=>rfl
def c6.gv{st:Nat}(M:H[i]?=AA (.dict aJ st))(E:aa aJ k=AA v)(z:aJ.length<=aM):c6 W .gv [.obj i,dG k] H v<|H.set i (.dict (qe aJ k)<|st+1):=λ{y A s y y R} K J c=>
 J.tg (P:=λD=>Wp W A (call (.builtin "dict.pop") D) R s) λy ck hu L=>lD K.N M hu (P:=λcu=>Wp W A (call (.builtin "dict.pop") [cu,ck]) R s) λa cs C D_ r=>let ⟨⟨Z,Y⟩⟩:=r.find E
  Kq F.slot_dict_pop D_.typeIs F.entry_dict_pop (F.args_dict_pop_2 _ _) (meets_dict_pop_there (dZ W.prog W.w) a (key_is L) [] (.inl rfl)<|aA6 L) ⟨cs,_,D_,r.length▸fq z,Z,λh' B G=>have T:=RY K.N M rfl C D_ G B<|r.del k;c T<|T.up Y⟩
theorem PH:∀{q M:List Int},q.Nodup->(∀x∈q,x∈M)->q.length<=M.length
 | [],M=>λz z=>bK _|x::q,M=>λh B=>by
  rw[List.nodup_cons] at h;have D:=B x h_;have C:=PH h.2 λy J=>(TM (λe:y=x=>h.1<|e▸J)).mpr<|B y (.tail _ J);rw[JH D] at C;show aA (bj C)<|bJ (D8<|TL D)
def vG(e:Int×AF):Int:=match e.2 with
 | .int i _=>i|_=>0
theorem Oj(f:α->β):∀(l:List α) (j:Nat),(l.eraseIdx j).map f=(l.map f).eraseIdx j
 | [],_=>rfl|_::_,0=>rfl|x::l,j+1=>aF (f x::·)<|Oj f l j
variable{k:Int}
def aDU{L:List Int}(D:q.Nodup)(h:∀x∈q,x∈L)(B:L.length=q.length)(J:L[j]?=AA k):k∉L.eraseIdx j:=λT=>by
 have:=PH D λx C=>(lb<|x=k).elim (λe=>e▸T) λe=>by
  obtain⟨i,hi⟩:=List.mem_iff_getElem?.mp<|h x C;show List.mem_eraseIdx_iff_getElem?.mpr ⟨i,λq=>e<|ai (hi.symm.trans<|q▸J),hi⟩
 rw[TH<|qm J,B] at this;show absurd this<|Nat.not_le.mpr (w4 (B▸bZ (bK _) (qm J)) w3)
section
variable(xs:Array α)
def E5(p:Nat):(Az xs p).toList=xs.toList.eraseIdx p:=by
 rw[List.eraseIdx_eq_take_drop_succ];simp [Az]
 show uP<|by simp
def sO{p:Nat}(h:p<xs.size):(Az xs p).size=xs.size-1:=by
 rw[<-oR,E5,TH<|oR▸h,oR]
def Y5(p:Nat)(x:α):(CG xs p x).size=xs.size+1:=by
 unfold CG;rw[Array.size_append,IQ,SO,SO,Nat.sub_zero,D4,dX,bQ<|min _ _,Nat.min_comm,Nat.sub_add_min_cancel]
end
def Vo{t:SetTable}(h:t.fits n=AB)(B:i<n):(t.drop i).fits (n-1)=AB:=by
 unfold SetTable.fits at h ⊢;rw[eQ,lB,kA] at h ⊢;have C:=h.1▸B;unfold SetTable.drop;rw[SM C];refine⟨h.1▸sO _ C,?_⟩;have J:=h.2;unfold SetTable.fill at J ⊢;rw[sO _ C,Y5,<-bH,dX,D8<|Jf C];show J
variable{E Q:AF->AG->Prop}{ep:Nat}{M:Model}
def aFq{Q:Option Nat->AG->Prop}{es:Array<|Int×AF}{tb:SetTable}
  (B:s.heap.get? a=AA o) (D:o.data=.set es ep tb) (J:ElemsOf (A6 prog w) es.toList) (T:es.size<scanBound) (C:tb.fits es.size=AB)
  (h:Q (es.toList.findIdx? λe=>A7 k e.2) s):AQ (Ai prog w) A (setFind a (.int k t)<|hashInt k) Q E s:=by
 refine aH<|wpAny_setState_of B D C ?_
 dsimp only
 rw[byScan_of rfl T J];simp only[↓reduceIte];refine aH<|DC ?_;refine aH<|wpAny_setScan_of int_is B D C J ?_;change AQ _ _ (match (match es.toList.findIdx? (λe=>A7 k e.2) with|some j=>ScanMet.found (0+j)|none=>.absent) with| .found i=>_| .absent=>_| .anew=>_) _ _ _
 generalize es.toList.findIdx? (λe=>A7 k e.2)=r at h;rcases r with _|j;show bA h
 dsimp only;rw[cT];show bA h
def sJ{l:List<|Int×AF}(J:ElemsOf (A6 prog w) l){e:Int×AF}(C:e∈l)(k:Int):A7 k e.2=AB↔vG e=k:=by
 obtain⟨⟨B,D,_⟩,_⟩:=J e C;obtain⟨u,T⟩:=EH D;unfold vG;rw[T];show lB
def Vj{L:List<|Int×AF}(O:q.Nodup)(Y:∀x,x∈q↔x∈L.map vG)(R:L.length=q.length)(C:(L.map vG)[j]?=AA k)(M:ElemsOf (A6 prog w) L)(D:Int):
  (q.filter (· != k)).contains D=AB↔∃e∈L.eraseIdx j,A7 D e.2=AB:=by
 have B:=aDU O (λx Z=>(Y x).mp Z) (by rw[aO];show R) C
 rw[<-Oj] at B;refine(Di).trans<|List.mem_filter.trans ⟨λG=>G.elim λP S=>?_,λG=>G.elim λe E=>E.elim λhe A=>?_⟩
 .obtain⟨e,he,J⟩:=List.mem_map.mp<|(Y D).mp P;obtain⟨i,hi⟩:=List.mem_iff_getElem?.mp he;refine⟨e,List.mem_eraseIdx_iff_getElem?.mpr ⟨i,λz=>bne_iff_ne.mp S ?_,hi⟩,(sJ M he D).mpr J⟩;rw[f3,<-z,hi] at C;show J.symm.trans<|ai C
 have T:=TO he;have J:=(sJ M T D).mp A;show⟨(Y D).mpr<|List.mem_map.mpr ⟨e,T,J⟩,bne_iff_ne.mpr λz=>B<|List.mem_map.mpr ⟨e,he,J.trans z⟩⟩
def UO{m:Sem α}{Q:α->AG->Prop}{J:AF->AG->Prop}(h:∀E,AQ M A m Q E s):AQ M A m Q J s:=h _
section
variable(hS:s.heap.SetOf (A6 prog w) a (λk=>q.contains k) q.length)(hn:q.Nodup)
def Vi{Q:Bool->AG->Prop}
  (h:∀h' b,AS a s.heap h'->h'.SetOf (A6 prog w) a (λk'=>(q.filter (· != k)).contains k') (q.filter (· != k)).length->Q b {s with heap:=h'}):AQ (Ai prog w) A (setDiscardHashed a (.int k t)<|hashInt k) Q E s:=by
 obtain⟨o,es,ep,tb,Y,I,hd,J,M,hb,P,T⟩:=id hS;have Z:=λx=>
  (Di).symm.trans<|(M x).trans ⟨λK=>K.elim λe C=>C.elim λhe D=>List.mem_map.mpr ⟨e,he,(sJ J he x).mp D⟩,λm=>(List.mem_map.mp m).elim λe C=>C.elim λhe D=>⟨e,he,(sJ J he x).mpr D⟩⟩
 refine aH<|aFq Y hd J hb P ?_;rcases hr:List.findIdx? (λe:Int×AF=>A7 k e.2) es.toList with _|j
 .have D:k∉q:=λD=>by
   obtain⟨e,he,R⟩:=List.mem_map.mp<|(Z k).mp D
   have:=List.findIdx?_eq_none_iff.mp hr e he
   rw[(sJ J he k).mpr R] at this;rcases this with _|_
  have X:q.filter (· != k)=q:=List.filter_eq_self.mpr λx N=>bne_iff_ne.mpr λe=>D<|e▸N;show bA<|h s.heap AD (Heap.SameBut.refl a s.heap) (X.symm▸hS)
 obtain⟨S,O,_⟩:=List.findIdx?_eq_some_iff_getElem.mp hr;have B:=oR▸S;have G:(es.toList.map vG)[j]?=AA k:=f3▸cK S▸aF AA ((sJ J (m8 S) k).mp O);have L:=m6 (Obj.putSet (Az es j)<|tb.drop j) Y (by rw[putSet_of _ _ hd];rfl)
 rw[putSet_of _ _ hd] at L;refine aH<|wpAny_setState_of Y hd P (aH<|wpAny_storeSet_of Y hd (aH<|wpAny_point (bA<|h _ AB (lu ..) ⟨_,Az es j,ep+1,tb.drop j,L,I,rfl,?_,?_,?_,?_,?_⟩)) (sO _ B▸aA (nB _ _) (aA (dc hb) ⋯)))
 show λe he=>J e<|TO (E5 es j▸he)
 .rw[E5];show λk'=>Vj hn Z (oR▸T) G J k'
 .rw[sO _ B];show bZ (nB _ _) hb
 .rw[sO _ B];show Vo P B
 rw[sO _ B,<-List.Nodup.erase_eq_filter hn k,JH<|(Z k).mpr (eK G),T]
def U9
  (h:∀h',AS a s.heap h'->h'.SetOf (A6 prog w) a (λk'=>(q.filter (· != k)).contains k') (q.filter (· != k)).length->Q .none {s with heap:=h',toks:=s.toks+1}):
  AQ (Ai prog w) A (call (.builtin "set.discard") [.ref a,.int k t]) Q E s:=by
 refine pz F.slot_set_discard hS.typeIs F.entry_set_discard ?_<|F.args_set_discard_2 _ _;unfold Builtin.«set.discard» Builtin.Frozenset.oneOther;simp only[List.isEmpty_nil,bind_assoc];unfold Builtin.Frozenset.addrOf CO setDiscard;refine aH<|bA ?_
 try dsimp only
 refine aH<|bA ?_
 try dsimp only
 refine aH<|wpAny_tryCatch (UO λB=>?_);show fw<|aH ((A6 prog w).pyHash int_is<|Vi (s:={s with toks:=s.toks+1}) hS hn λh' b J hd=>bA ⟨_,rfl,h h' J hd⟩)
end
def c6.discard(M:H[i]?=AA (.set q)):c6 W .discard [.obj i,.int k] H .none (H.set i (.set (q.filter (· != k)))):=λ{y A s y y R} K J c=>
 J.tg (P:=λD=>Wp W A (call (.builtin "set.discard") D) R s) λy ck hu L=>L.cP (P:=λck=>Wp W A (call (.builtin "set.discard") [_,ck]) R s) λt=>tS K.N M hu (P:=λcu=>Wp W A (call (.builtin "set.discard") [cu,_]) R s) λa C d n=>
  U9 d n λh' T B=>c (RZ K.N C d T B<|n.filter _) .of_none
def UC(q:List Int)(k:Int):(λk'=>q.contains k'||decide (k'=k))=λk'=>(if q.contains k then q else q++[k]).contains k':=by
 funext k'
 rw[IW,rP,Di,kA,Di];split
 .rename_i h;show⟨λx=>x.elim id λe=>e▸Di.mp h,.inl⟩
 rw[nA,JK]
def UB(q:List Int)(k:Int):(if q.contains k=AB then q.length else q.length+1)=(if q.contains k then q else q++[k]).length:=by
 split
 rfl;rw[a5];rfl
def UD(n:q.Nodup):(if q.contains k then q else q++[k]).Nodup:=by
 split
 show n;rename_i h;show JL.mpr ⟨n,List.nodup_cons.mpr ⟨eL,d7⟩,λx B y J e=>h<|Di.mpr (JK.mp J▸e▸B)⟩
def c6.add(M:H[i]?=AA (.set q))(z:q.length<4000):c6 W .add [.obj i,.int k] H .none<|H.set i (.set<|if q.contains k then q else q++[k]):=λ{y A s y y R} K J c=>
 J.tg (P:=λD=>Wp W A (call (.builtin "set.add") D) R s) λy ck hu L=>L.cP (P:=λck=>Wp W A (call (.builtin "set.add") [_,ck]) R s) λt=>tS K.N M hu (P:=λcu=>Wp W A (call (.builtin "set.add") [cu,_]) R s) λa C d n=>
  call_set_add int_is rfl d (bZ z ⋯) λh' T B=>c (RZ K.N C d T (UC q k▸UB q k▸B)<|UD n) .of_none
def aCN:Slot "reversed" "__init__" "object.__init__":=
 .of (owner:="object") (n:="__init__") (by rw[pZ,oh];kernel_rfl) d_ d_ d_
  (by first|show .inl d_|show .inr<|d_) (by rw[sW];kernel_rfl)
def VB:TypeCalled "reversed" "reversed.__new__" "object.__init__":=
 ⟨d_,d_,⟨_,_,F.mro_reversed⟩,madeBy_type F.mro_reversed F.lookup_reversed_new<|d_,d_,by rw[sW];kernel_rfl,aCN⟩
def aHe:BC (.type "tuple") "__reversed__"=Ae AE:=by rw[pZ,oh];kernel_rfl
def HH:Manifest.owners.lookup (String.ofList ['d','e','s','r','e','v','e','r'].reverse)=AA Manifest.sig_reversed:=k_
def v3:Slot "reversed" "__next__" "reversed.__next__":=
 .of (owner:="reversed") (n:="__next__") (by rw[pZ,oh];kernel_rfl) d_ d_ d_
  (by first|show .inl d_|show .inr<|d_) (by rw[sW];kernel_rfl)
def Ld:entryFor table "reversed.__next__"=AA Builtin.«reversed.__next__»:=entryFor_of_tree<|k_
def KJ(a:AF):argsOk "reversed.__next__" ⟨[a],[]⟩:=by
 unfold argsOk;rw[Qs (n:=['_','_','t','x','e','n','_','_']) k_ HH];kernel_rfl
def Qy:Slot "reversed" "__iter__" "reversed.__iter__":=
 .of (owner:="reversed") (n:="__iter__") (by rw[pZ,oh];kernel_rfl) d_ d_ d_
  (by first|show .inl d_|show .inr<|d_) (by rw[sW];kernel_rfl)
def UU(a:AF):argsOk "reversed.__iter__" ⟨[a],[]⟩:=by
 unfold argsOk;rw[Qs (n:=['_','_','r','e','t','i','_','_']) k_ HH];kernel_rfl
def V2:entryFor table "reversed.__iter__"=AA Builtin.«dict_keyiterator.__iter__»:=
 entryFor_alias (id':="dict_keyiterator.__iter__") k_ (by first|rfl|decide+kernel|(simp+decide [String.splitOnAux])) d_<|k_
def z4(l:AJ)(i:Int):B5:={cls:=.type "reversed",data:=.fields #[.ref l,CK i]}
variable{l it:AJ}{B:Array AF}{i:Int}
def sub_tuple_dict:isSubtype (.type "tuple") (.type "dict")=Ae AD:=by rw[sW];kernel_rfl
def M9(h:s.heap.IsTuple l B):s.TypeIs (.ref l) "tuple":=h.elim λo C=>C.elim λD J=>J.elim λhc y=>⟨o,D,hc⟩
def aFM(l:AJ)(B:Array AF):MeetsIn prog w (Builtin.«reversed.__new__» ⟨[.type "reversed",.ref l],[]⟩)
  (λy R s=>s.heap.IsTuple l B/\(B.size:Int)<2 ^ 63/\R (.ok<|.ret (.ref s.heap.objs.size)) {s with heap:=s.heap.push<|z4 l ((B.size:Int)-1),toks:=s.toks+1+1}):=
 .of_wp λA R s h=>by
  obtain⟨L,M,h⟩:=h;have T:=M9 L;refine aH<|iZ (newClass_reversed _) ?_
  try dsimp only
  refine aH<|iZ (by first|rfl|kernel_rfl) ?_
  refine aH<|iZ (by first|rfl|kernel_rfl) ?_
  try dsimp only
  refine aH<|t6 T aHe ?_
  try dsimp only
  refine aH ?_
  wp_delta
  refine aH<|DB T sub_tuple_dict ?_;rw[aB ⋯]
  refine aH<|t6 T PySem.F.slot_tuple_getitem.lookup ?_
  try dsimp only
  rw[aC<|by decide+kernel]
  refine bA ?_;refine aH<|len_tuple (L.elim λo D=>D.elim λE C=>C.elim λhc J=>J.elim λn hd=>⟨o,E,hc,n,hd⟩) M ?_;refine aH<|iZ rfl ?_;refine aH ?_;unfold Cb;refine kj ?_<|by size_fits
  show bA ⟨_,rfl,h⟩
def aHk(a:AF):checkTypeCall "reversed" ⟨[a],[]⟩=Ae ():=F.typeCall_reversed_1 a
def U8(D:s.heap.IsTuple l B)(C:(B.size:Int)<2 ^ 63)
  (h:Q (.ref s.heap.objs.size) {s with heap:=s.heap.push<|z4 l ((B.size:Int)-1),toks:=s.toks+1+1}):AQ (Ai prog w) A (call (.type "reversed") [.ref l]) Q E s:=
 callType_newIn VB ⋯ (aHk _) (F.newCall_reversed_1 _) (λJ=>F.args_object_init_2 J _) F.entry_reversed_new (aFM l B)
  ⟨D,C,⟨_,eC _ rfl,rfl⟩,h⟩
def ik(h:AW)(a l:AJ)(i:Int):Prop:=∃o,h.get? a=AA o/\o.cls=.type "reversed"/\o.data=.fields #[.ref l,CK i]
def ik.typeIs(x:ik s.heap a l i):s.TypeIs (.ref a) "reversed":=x.elim λo B=>B.elim λC J=>J.elim λhc y=>⟨o,C,hc⟩
def ik.at(x:ik h a l i)(e:∀o,h.get? a=AA o->h'.get? a=AA o):ik h' a l i:=x.elim λo J=>J.elim λB r=>⟨o,e _ B,r⟩
def aEr{i:Nat}{Q:Option AF->AG->Prop}(J:ik s.heap it l (i:Int))(L:s.heap.IsTuple l B)(T:B[i]?=AA x)(G:B.size<=aM)
  (M:∀h' tk,ik h' it l ((i:Int)-1)->AS it s.heap h'->Q (AA x) {s with heap:=h',toks:=tk}):AQ (Ai prog w) A (pyNext<|.ref it) Q E s:=by
 obtain⟨o,C,hc,hd⟩:=id J;refine aH (DA (IJ J.typeIs v3
  (pz v3 J.typeIs Ld ?_<|KJ _)))
 refine aH<|iZ rfl ?_
 try dsimp only
 refine aH<|t5 C hd rfl ?_;refine aH<|t5 C hd rfl ?_;change AQ _ _ (if (i:Int)<0 then _ else _) _ _ s
 rw[aB<|Int.not_lt.mpr (eI i)];refine aH<|t6 (M9 L) PySem.F.slot_tuple_getitem.lookup ?_;refine aH<|wpAny_mkInt ?_;have D:=(Array.getElem?_eq_some_iff.mp T).1;refine aH<|DA (MR L (O7 i) (yq D G) (Ql D) T ?_)
 try dsimp only
 refine aH<|t5 C hd rfl ?_
 try dsimp only
 refine aH<|DD C hd (by simp) ?_
 first
 |refine bA ⟨x,rfl,bA<|M _ _ ?_ (lu ..)⟩|refine aH<|bA (bA ⟨x,rfl,bA<|M _ _ ?_ (lu ..)⟩)
 show⟨_,m6 _ C<|Jj (uU hd _),(Tg ..).trans hc,by
  rw[uU hd];simp⟩
def aEq{Q:Option AF->AG->Prop}(T:A.handled=AE)(J:ik s.heap it l<|-1)
  (L:∀h',CW it s.heap h'->Q AE {s with heap:=h'}):AQ (Ai prog w) A (pyNext<|.ref it) Q E s:=by
 obtain⟨o,B,hc,hd⟩:=id J;refine aH (DA (IJ J.typeIs v3
  (pz v3 J.typeIs Ld ?_<|KJ _)))
 refine aH<|iZ rfl ?_
 try dsimp only
 refine aH<|t5 B hd rfl ?_;refine aH<|t5 B hd rfl ?_;change AQ _ _ (if (-1)<0 then _ else _) _ _ s
 rw[aC ⋯]
 refine aH<|DC ?_;refine aH ?_
 wp_delta
 refine aH<|DD B hd (by simp) ?_
 have C:=m6 (Obj.mapFields (·.set! 1 (CK<|-1))) B<|Jj (uU hd _);have D:=uU hd (·.set! 1 (CK<|-1));refine DD C D (by simp) ?_
 refine aH ?_
 first
 |change AQ _ _ (newExc (.type "StopIteration") [] >>= _) _ _ _|(refine aH ?_;change AQ _ _ (newExc (.type "StopIteration") [] >>= _) _ _ _)
 refine aH ?_;simp only[newExc,newTuple];refine aH<|kj ?_ (by size_fits)
 refine aH<|iZ (by first|rfl|(simp only[firstArgMember];rfl)) ?_
 refine kj ?_<|by size_fits
 refine aH<|wpAny_handled ?_
 first|rw[T]|rw[T]
 refine aH<|bA (wpAny_throw ?_);refine aH<|DB ⟨_,eC _ rfl,rfl⟩ isSubtype_stop ?_;show bA<|L _ λb o hb e=>p6 _ (p6 _<|(rS _ _<|ku hb).trans ((rS _ _<|ku hb).trans e))
def QJ(J:ik s.heap it l i)(h:Q (.ref it) s):AQ (Ai prog w) A (Bh<|.ref it) Q E s:=by
 refine wpAny_pyIter_slot J.typeIs Qy<|pz Qy J.typeIs V2 ?_ (UU _);show bA ⟨_,rfl,"reversed",_,J.typeIs,v3.lookup,h⟩
def aIE(K:A.handled=AE)(I l:AJ)(Y:l≠I)(B:List AF)(P:B.length<=aM):
  Walks prog w A I [I,l] [I] B.reverse.length (λi v=>B.reverse[i]?=AA v) (λi h=>i<=B.length/\ik h I l ((B.length:Int)-1-(i:Int))/\h.IsTuple l B.toArray) where
 sub:=λb hb=>by simp at hb;simp [hb]
 frame:=λy y y x S=>⟨x.1,x.2.1.at λo e=>S I (by simp) o e,(x.2.2.elim λo T=>T.elim λG r=>⟨o,S l (by simp) o G,r⟩)⟩
 item:=λi s Q E hi x M=>by
  rw[oT] at hi;have C:=bZ (bK _) hi;have e:B.length-1-i=((B.length-1-i:Nat):Int):=by
   rw[Int.ofNat_sub<|Nat.le_sub_one_of_lt hi,Int.ofNat_sub C];rfl
  have J:=x.2.1;rw[e] at J;have R:B.toArray[B.length-1-i]?=AA (B[B.length-1-i]'(bZ (nB _ _)<|w4 C w3)):=(lx ..).trans<|cK _;refine aEr J x.2.2 R (by simpa using P) λh' tk D L=>?_
  have N:((B.length-1-i:Nat):Int)-1=B.length-1-((i+1):Int):=by
   rw[<-e];show Dd _ _ _
  rw[N] at D;show M _ h' tk (by rw[S7 hi];simpa using R) ⟨hi,D,(x.2.2.elim λo T=>T.elim λG r=>⟨o,(L.2 l Y).trans G,r⟩)⟩ λb o hb O=>L.extBut b o (λh=>hb<|by simp [h]) O
 done:=λs Q E x M=>by
  have J:=x.2.1;rw[oT] at J;have e:B.length-1-(B.length:Int)=-1:=by
   rw[Dd,Ir,<-Dd,Int.sub_self];rfl
  rw[e] at J;show aEq K J λh' Z=>M h' s.toks λb o hb O=>Z b o (λh=>hb<|by simp [h]) O
 self:=λy y y y x M=>QJ x.2.1 M
variable{R:Result->AG->Prop}{S:AJ}{acc:List AF}{res:AF}
def Ll{j Q:List AJ}{J:List AF}{r:Nat->AW->Prop}(W:Walks prog w A.in1 I j Q J.length (λi v=>J[i]?=AA v) r)(S:AJ)(Y:S∉j)(T:AF):
  ∀(k i:Nat) (s:AG) (acc:List AF),J.length-i=k->i<=J.length->r i s.heap->XL s.heap S acc->acc.length+k<=aM->
  (∀h' tk,XL h' S (acc++J.drop i)->(∀b o,b∉S::Q->s.heap.get? b=AA o->h'.get? b=AA o)->R (.ok<|.ret T) {s with heap:=h',toks:=tk})->
  BJ (Ai prog w) A (.builtin "list.extend.loop" ⟨[.ref S,.ref I,T],[]⟩) R s:=by
 have X:=Hm;have G:=λh=>Y<|W.sub _ h;intro k
 induction k with
 |zero=>
  intro i s acc O hi hst hS Z N;have K:=wy hi<|Ja O;subst K;refine codeAny_builtin SX ?_;rw[SJ wU _];refine aH (W.done s _ _ hst λh' tk E=>?_);show bA<|N h' tk (by rw[I8,fJ];show hS.at λo e=>E S o G e) λb o hb e=>E b o (λq=>hb<|.tail _ q) e
 |succ k u=>
  intro i s acc O hi hst hS Z N;have B:i<J.length:=Tc<|O▸jQ k;refine codeAny_builtin SX ?_;rw[SJ wU _];refine aH (W.item i s _ _ B hst λv h' tk y L E=>?_);obtain⟨hS⟩:=hS;have D:=E S _ G hS;refine aH ?_;have z:=m6 (Au (·.push v)) D rfl;refine IL D rfl (bA ⟨Pp wU _,u (i+1) _ (acc++[v]) ((Nat.sub_succ _ _).trans<|aF Nat.pred O) B (W.frame _ _ _ L λb hb o e=>?_) (wF D<|JM acc v) (a5▸aA (bJ<|dX ..) Z) λh'' P C M=>?_⟩)
   (bu▸aA (aA (aY _ _) Z) X) (by rw[IQ,bu];show bj<|aA (aA (aY _ _) Z) X)
  .show(rS _ _ (λh:S=b=>Y<|h▸hb)).trans e
  refine N h'' P ?_ λb o hb e=>M b o hb ?_
  .have:J.drop i=v::J.drop (i+1):=by
    have m:=Dj B;have g:J[i]=v:=by
     have:=cK B
     rw[y] at this;show(ai this).symm
    rw[m,g]
   rw[this];rw[bp] at C;show C
  show(rS _ _ (λh:S=b=>hb<|h▸qB)).trans<|E b o (λq=>hb<|.tail _ q) e
def aFL:BC (.type "reversed") "__len__"=Ae AE:=by rw[pZ,oh];kernel_rfl
def Ho:Slot "reversed" "__length_hint__" "reversed.__length_hint__":=
 .of (owner:="reversed") (n:="__length_hint__") (by rw[pZ,oh];kernel_rfl) d_ d_ d_
  (by first|show .inl d_|show .inr<|d_) (by rw[sW];kernel_rfl)
def V1:entryFor table "reversed.__length_hint__"=AA Builtin.«reversed.__length_hint__»:=entryFor_of_tree<|k_
def UT(a:AF):argsOk "reversed.__length_hint__" ⟨[a],[]⟩:=by
 unfold argsOk;rw[Qs (n:=['_','_','t','n','i','h','_','h','t','g','n','e','l','_','_']) k_ HH];kernel_rfl
def aGU:isSubtype (.type "reversed") (.type "reversed")=Ae AB:=F.sub_reversed_self
def U7(D:ik s.heap it l<|(B.size:Int)-1)(Y:s.heap.IsTuple l B)(G:(B.size:Int)<2 ^ 63)
  (h:∀t tk,Q (.int (B.size:Int) t) {s with toks:=tk}):AQ (Ai prog w) A (call (.builtin "reversed.__length_hint__") [.ref it]) Q E s:=by
 obtain⟨o,T,hc,hd⟩:=id D;refine pz Ho D.typeIs V1 ?_<|UT _;refine aH<|iZ rfl ?_;refine aH<|t5 T hd (x:=.ref l) rfl ?_;rw[aB<|show ¬((Value.ref l == AX)=AB) from aI]
 refine aH<|len_tuple (Y.elim λo L=>L.elim λT C=>C.elim λhc J=>J.elim λn hd=>⟨o,T,hc,n,hd⟩) G ?_;refine aH<|iZ rfl ?_
 try dsimp only
 refine aH<|t5 T hd rfl ?_;change AQ _ _ (if (B.size:Int)<B.size-1+1 then _ else _) _ _ _
 have M:B.size-1+1=(B.size:Int):=Si _ _;rw[aB<|M.symm▸DZ _];refine aH<|wpAny_mkInt (bA ⟨_,rfl,?_⟩);rw[M];show h _ _
def G8(B:S≠I)(J:S≠l):S∉[I,l]:=λm=>(JJ.mp m).elim B λm=>J<|JK.mp m
def PJ{b:AJ}(B:b≠S)(J:b≠I):b∉[S,I]:=G8 B J
def Qj(h:S≠I):BZ (.ref S) (.ref I)=AD:=by unfold BZ;simpa using h
def WG{Q:Fin->AG->Prop}{B:List AF}(R:XL s.heap S acc)(Y:ik s.heap I l<|(B.length:Int)-1)(k:s.heap.IsTuple l B.toArray)
  (K:S≠I) (N:acc.length+B.length<=aM)
  (X:∀h' tk,XL h' S acc->(∀b o,b≠S->s.heap.get? b=AA o->h'.get? b=AA o)->Q (.again<|.builtin "list.extend.loop" ⟨[.ref S,.ref I,res],[]⟩) {s with heap:=h',toks:=tk}):
  AQ (Ai prog w) A.in1 (Aq (.ref S) (.ref I) res) Q E s:=by
 have P:=Y.typeIs;have hn:=aA (bU _ _) N;refine aH<|SF P ?_;rw[aB (by rw[Qj K];decide)]
 refine aH<|QJ Y ?_;refine aH<|fw ?_;refine aH<|t6 P aFL ?_;refine aH<|t6 P Ho.lookup ?_;generalize O:"reversed.__length_hint__"=id0
 wp_delta
 rw[show splitId id0=AA ("reversed","__length_hint__") from by subst O;decide+kernel]
 subst O;refine aH<|DB P aGU ?_;rw[aB ⋯]
 rw[aB<|by decide+kernel]
 refine aH<|DC ?_;refine aH<|iZ (Ho.bind _) ?_;have G:B.toArray.size=B.length:=bu▸rfl;refine aH<|DA (U7 (G.symm▸Y) k (G▸oG hn) λt tk=>?_);rw[G];have L:¬((B.length:Int)<0):=Int.not_lt.mpr<|eI _;have J:¬BY (B.length:Int).toNat=AB:=by
  unfold BY;rw[kA,De];show Nat.not_lt.mpr<|aA hn ⋯
 have M:=Lp (eI _)<|oG hn;generalize (B.length:Int)=z at M L J;refine aH<|iZ rfl ?_
 dsimp only
 rw[aB (by rw[M];decide),aB L,aB J]
 refine bA ?_;by_cases j:z=0
 .rw[j];rw[aB<|by decide+kernel]
  show bA<|X s.heap tk R λb o y e=>e
 rw[bne_iff_ne.mpr j];rw[aC<|by decide+kernel]
 refine aH<|DC (aH ?_);have D:=bu▸aA (aY _ _) N;have C:(acc.toArray.push AX).size<=Ba:=by rw[IQ];show aA (bj D) ⋯
 obtain⟨R⟩:=R;refine aH<|IL R rfl ?_ (fq D) (eM C);have T:=m6 (Au (·.push AX)) R rfl;refine IL T rfl ?_ C<|Array.pop_push▸eM (fq D);have Z:=m6 (Au (·.pop)) T rfl;show bA<|X _ tk ⟨Z.trans<|aF AA (by unfold Au;dsimp only;rw[Array.pop_push])⟩ λb o hb e=>(rS _ _<|ku hb).trans ((rS _ _<|ku hb).trans e)
def WI(X:A.handled=AE){B:List AF}(j:XL s.heap S acc)(T:ik s.heap I l<|(B.length:Int)-1)(K:s.heap.IsTuple l B.toArray)
  (D:S≠I) (L:S≠l) (Y:l≠I) (G:acc.length+B.length<=aM)
  (k:∀h' tk,XL h' S (acc++B.reverse)->(∀b o,b≠S->b≠I->s.heap.get? b=AA o->h'.get? b=AA o)->R (.ok<|.ret res) {s with heap:=h',toks:=tk}):
  AQ (Ai prog w) A.in1 (Aq (.ref S) (.ref I) res)
   (λP s'=>match P with| .done f=>R (.ok f) s'| .again c'=>c'.quiet=AB/\BJ (Ai prog w) A c' R s') (λe s'=>R (.error e) s') s:=
 WG j T K D G λh₁ tk C J=>⟨Pp wU _,
  Ll (aIE (A:=A.in1) X I l Y B<|aA (bU _ _) G) S (G8 D L) res B.reverse.length 0 _ acc rfl (bK _)
   ⟨bK _,by rw[Int.natCast_zero,Iw];show T.at λo e=>J _ o (ku D) e,(K.elim λo M=>M.elim λQ r=>⟨o,J l o (ku L) Q,r⟩)⟩ C (oT.symm▸G) λh' E O Z=>
  k h' E O λb o N q e=>Z b o (PJ N q)<|J b o N e⟩
def aCR:BC (.type "list_reverseiterator") "__len__"=Ae AE:=by rw[pZ,oh];kernel_rfl
def aCQ:BC (.type "list_reverseiterator") "__length_hint__"=Ae (AA<|.builtin "list_reverseiterator.__length_hint__"):=by rw[pZ,oh];kernel_rfl
def WH(j:A.handled=AE){B:List AF}(k:XL s.heap S acc)(J:s.heap.IsRevIter I l<|(B.length:Int)-1)(X:s.heap.IsList l B.toArray)
  (D:S≠I) (Z:S≠l) (G:l≠I) (N:acc.length+B.length<=aM)
  (q:∀h' tk,XL h' S (acc++B.reverse)->(∀b o,b≠S->b≠I->s.heap.get? b=AA o->h'.get? b=AA o)->R (.ok<|.ret res) {s with heap:=h',toks:=tk}):
  AQ (Ai prog w) A.in1 (Aq (.ref S) (.ref I) res)
   (λK s'=>match K with| .done f=>R (.ok f) s'| .again c'=>c'.quiet=AB/\BJ (Ai prog w) A c' R s') (λe s'=>R (.error e) s') s:=by
 have L:=J.typeIs;refine aH<|SF L ?_;rw[aB (by rw[Qj D];decide)]
 refine aH<|wpAny_pyIter_revIter J ?_;refine aH<|fw ?_;refine aH<|t6 L aCR ?_;refine aH<|t6 L aCQ ?_;generalize C:"list_reverseiterator.__length_hint__"=id0
 wp_delta
 rw[show splitId id0=AA ("list_reverseiterator","__length_hint__") from by subst C;decide+kernel]
 subst C;refine aH<|DB (b:=AB) L (by rw[sW];kernel_rfl) ?_
 refine bA ?_;rw[aB ⋯]
 have T:=Walks.listRev (prog:=prog) (w:=w) (A:=A.in1) j I l G B.toArray;have W:Walks prog w A.in1 I [I,l] [I] B.reverse.length (λi v=>B.reverse[i]?=AA v)<|λi h=>i<=B.toArray.size/\h.IsRevIter I l (B.toArray.size-1-i)/\h.IsList l B.toArray:=by
  have e:B.toArray.size=B.reverse.length:=by simp
  refine⟨T.sub,T.frame,λi s Q E hi st P=>T.item i s Q E (e▸hi) st λv h' tk r=>P v h' tk ?_,λs Q E st P=>T.done s Q E (by rw[e];rw[<-e];simpa using st) P,T.self⟩
  rw[oT] at hi;rw[S7 hi]
  simpa using r
 refine bA ⟨Pp wU _,Ll W S (G8 D Z) res B.reverse.length 0 _ acc rfl (bK _) ⟨bK _,by simpa using J,X⟩ k (oT.symm▸N) λh' M O Y=>q h' M O λb o z u e=>Y b o (PJ z u) e⟩
variable{B:List AF}
def U6(X:A.handled=AE)(Y:s.heap.IsRevIter I l<|(B.length:Int)-1)(K:s.heap.IsList l B.toArray)(M:l≠I)(P:B.length<=aM)
  (j:∀h' tk,(∀b o,b≠I->s.heap.get? b=AA o->h'.get? b=AA o)->XL h' s.heap.objs.size B.reverse->Q (.ref s.heap.objs.size) {s with heap:=h',toks:=tk}):
  AQ (Ai prog w) A (call (.type "list") [.ref I]) Q E s:=by
 refine callType_codes (Q₁:=λD s₁=>D=.ref s.heap.objs.size/\s₁={s with heap:=s.heap.push {cls:=.type "list",data:=.seq #[]}}) F.called_list (F.typeCall_list_1 _) F.entry_list_init
  (code_list_new _ ⟨rfl,rfl⟩) λD s₁ h₁=>?_
 obtain⟨rfl,rfl⟩:=h₁;have hS:(s.heap.push {cls:=.type "list",data:=.seq #[]}).get? s.heap.objs.size=AA {cls:=.type "list",data:=.seq #[]}:=eC _ rfl;refine⟨⟨_,hS,rfl⟩,F.args_list_init_2 _ _,?_⟩;refine aH ?_;refine aH<|wpAny_seqItems hS rfl (bA ?_);refine aH<|IL hS rfl ?_;have C:=m6 (Au<|λy=>(#[])) hS rfl;have J:∀b o,s.heap.get? b=AA o->((s.heap.push {cls:=.type "list",data:=.seq #[]}).update s.heap.objs.size<|Au (λy=>(#[]))).get? b=AA o:=
  λb o e=>(rS _ _<|iC (iP e)).trans<|p6 _ e
 refine aH<|wpAny_letGo ?_;obtain⟨S,L,O,Z⟩:=id Y;obtain⟨R,T,G⟩:=id K;refine WH (A:=A.in1) X ⟨C⟩ ⟨S,J _ _ L,O,Z⟩ ⟨R,J _ _ T,G⟩ (iC<|iP L) (iC<|iP T) M (by rw[m9,cT];show P) λh' tk hX N=>⟨rfl,j h' tk (λb o hb e=>N b o (eV<|iP e) hb<|J b o e) hX⟩
def U5(Z:A.handled=AE)(L:XL s.heap S acc)(C:ik s.heap I l<|(B.length:Int)-1)(G:s.heap.IsTuple l B.toArray)
  (T:S≠I) (D:S≠l) (J:l≠I) (M:acc.length+B.length<=aM)
  (O:∀h' tk,XL h' S (acc++B.reverse)->(∀b o,b≠S->b≠I->s.heap.get? b=AA o->h'.get? b=AA o)->Q .none {s with heap:=h',toks:=tk}):
  AQ (Ai prog w) A (call (.builtin "list.extend") [.ref S,.ref I]) Q E s:=by
 refine wpAny_call<|codeAny_call_builtin F.slot_list_extend.plain F.entry_list_extend (F.slot_list_extend.check _ _ _ _ _ _ _ _ (lU L) (F.args_list_extend_2 _ _) ?_);refine aH<|iZ (by rfl) ?_
 show WI (R:=wants Q E) Z L C G T D J M λh' tk hX Y=>O h' tk hX Y
variable{cv:List (Atom×AF)}{ns:List Int}
inductive IntKeys:List (Atom×AF)->List Int->Prop
 |nil:IntKeys [] []|cons {n:Int} {x:AF} {r:List (Atom×AF)} {l:List Int}:IntKeys r l->IntKeys ((.int n,x)::r) (n::l)
def ZC(h:IntKeys cv ns):∀{vs:List AF},vs.length=cv.length->(∀(j:Nat) (v:AF),vs[j]?=AA v->∃k x,cv[j]?=AA (k,x)/\(dZ prog w).is k v=AB)->IntsAre vs ns:=by
 induction h with
 |nil=>intro vs h _;rw[TG.mp h];show .nil|@cons n x r l _ D=>
  intro vs C B;rcases vs with _|⟨v,vs⟩
  .rcases C with _|_
  obtain⟨k,y,J,L⟩:=B 0 v rfl;have J:=aF As<|ai J;subst J;obtain⟨t,T⟩:=EH<|L;show T▸.cons n t (D (oW C) λj u hu=>B (j+1) u hu)
def VA(I:A.handled=AE){d:AJ}(M:(d == B9)=AD)(K:s.heap.DictOf (dZ prog w) d cv)
  (G:IntKeys cv ns) (C:cv.length<64)
  (h:∀h' tk a vs,(∀b o,s.heap.get? b=AA o->h'.get? b=AA o)->s.heap.get? a=AE->XL h' a vs->IntsAre vs (rC ns)->Q (.ref a) {s with heap:=h',toks:=tk}):
  AQ (Ai prog w) A (call (.builtin "sorted") [.ref d]) Q E s:=by
 have P:Ba=2 ^ 24:=rfl;obtain⟨ep,Z⟩:=K.dictAt;refine Calls.call_function_entry kind_sorted plain_sorted entry_sorted (args_sorted1 _) ?_;refine aH<|bA ?_;refine aH<|kdu_collect (kdl_dict M) I Z (aA (dc C) ⋯) λh' tk acc Y J=>?_
 have hl:acc.toList.length=cv.length:=oR▸J.1;have N:=ZC G hl λj v e=>J.2 j v<|SN▸e;refine aH<|wpAny_newList ?_ (hl▸aA (dc C) ⋯)
 have B:(h'.push {cls:=.type "list",data:=.seq acc.toList.toArray}).get? h'.objs.size=AA (seqObj "list" acc.toList.toArray 0):=eC _ rfl;refine aH<|fw (pz slot_list_sort ⟨_,B,rfl⟩ entry_list_sort (list_sort_tree B N (hl▸C) λT L q k X=>⟨_,rfl,?_⟩)<|args_list_sort _);obtain⟨e,he⟩:=sortedHeap_at B;have D:L=rC ns:=by
  refine List.Perm.eq_of_pairwise (λa b y y R O=>Iv R O) X ?_<|k.trans (TP ..).symm
  have:=List.pairwise_mergeSort (le:=λa b:Int=>decide<|a<=b) (λa b c R O=>a6<|du (dK R) (dK O)) (λa b=>by rw[rP,kA,kA];show Int.le_total a b) ns
  show this.imp λh=>dK h
 refine bA ⟨_,rfl,h _ _ h'.objs.size T.toList (λb o S=>?_) (qY Y) ⟨he⟩<|D▸q⟩;have hb:=iP<|Y b o S;rw[sortedHeap_old (eV hb) (by rw[wa];show qG hb)]
 show p6 _<|Y b o S
variable{i:Nat}{l:List V}{cs:List (Atom×AF)}
def uW(W:Wd)(u v:V)(H J:AH):Prop:=∀{n:Nat} {A:Ab} {s:AG} {μ:Mu} {cu:AF} {R:AF->AG->Prop},Ok W n A μ H s->VR μ s.heap u cu->Kc W μ s J v R->Wp W A (call (.type "reversed") [cu]) (λI s₁=>Wp W A (call (.type "list") [I]) R s₁) s
def Qa(xs:List AF):((xs.toArray.size:Nat):Int)-1=(xs.length:Int)-1:=bu▸rfl
def uW.lst(T:IsL H l u)(q:LR l.reverse H v H'):uW W u v H H':=λ{y A s y y R} K hu c=>
 T.at K.N hu (P:=λcu=>Wp W A (call (.type "reversed") [cu]) (λI s₁=>Wp W A (call (.type "list") [I]) R s₁) s) λx xs B r z=>by
  obtain⟨J⟩:=id B;refine call_reversed_list B.is ?_;rw[Qa];have D:(s.heap.push<|revObj x (xs.length-1)).get? s.heap.objs.size=AA (revObj x<|xs.length-1):=eC _ rfl;refine U6 K.rm.hd ⟨_,D,rfl,rfl⟩ ⟨_,cO _ _ _ _ J,rfl,_,rfl⟩ (eV<|iP J) (r.length▸z) λh' tk L hX=>?_;refine nj (s:=s) q K.N r.rev (oT.symm▸z) (λb o e=>L b o (eV<|iP e)<|cO _ _ b o e) ?_ hX c;rcases e:s.heap.get? (s.heap.push<|revObj x (xs.length-1)).objs.size with _|o;rfl;have C:=iP e;rw[wa] at C;show absurd C<|Nat.not_lt.mpr (b8 _)
def oY(W:Wd)(u x:V)(H B:AH):Prop:=∀{n:Nat} {A:Ab} {s:AG} {μ:Mu} {cu J:AF} {R:AF->AG->Prop},Ok W n A μ H s->VR μ s.heap u cu->VR μ s.heap x J->Kc W μ s B .none R->Wp W A (call (.type "reversed") [J]) (λI s₁=>Wp W A (call (.builtin "list.extend") [cu,I]) R s₁) s
def ry(W:Wd)(u:V)(H:AH):Prop:=∀{μ:Mu} {s:AG} {cu:AF},bC W μ H s.heap->VR μ s.heap u cu->BM s cu "extend" "list.extend"
def ry.lst(J:H[i]?=AA (.lst l)):ry W (.obj i) H:=λ{y s y} N hu=>jD N J hu (P:=λc=>BM s c _ _) λy y y x y y=>.of x.obj DS F.slot_list_extend F.type_list_extend
def oY.tup(S:H[i]?=AA (.lst l))(z:l.length+r.length<=aM):oY W (.obj i) (.tup r) H<|H.set i (.lst<|l++r.reverse):=λ{j A s j cu L R} K hu Y c=>
 jD K.N S hu (P:=λcu=>Wp W A (call (.type "reversed") [L]) (λI s₁=>Wp W A (call (.builtin "list.extend") [cu,I]) R s₁) s) λx B C hl hv j=>
 Y.gf (P:=λL=>Wp W A (call (.type "reversed") [L]) (λI s₁=>Wp W A (call (.builtin "list.extend") [.ref x,I]) R s₁) s) λy ys G M E J=>by
  obtain⟨T⟩:=id hl;obtain⟨D⟩:=id M;refine U8 M.is (bu▸J.length▸oG E) ?_;rw[Qa];have Z:(s.heap.push<|z4 y (ys.length-1)).get? s.heap.objs.size=AA (z4 y<|ys.length-1):=eC _ rfl;refine U5 K.rm.hd ⟨cO _ _ _ _ T⟩ ⟨_,Z,rfl,rfl⟩ ⟨_,cO _ _ _ _ D,rfl,_,rfl⟩
   (eV<|iP T) (λq=>G<|q▸xt C) (eV<|iP D) (hv.length▸J.length▸z) λh' tk hX O=>?_
  show c (te K.N C hl (λb o hb e=>O b o hb (eV<|iP e)<|cO _ _ b o e) hX (hv.append J.rev)<|a5.symm▸oT.symm▸z) .of_none
def PR.ints(r:PR μ h aJ cs):∀{ns:List Int},aJ.map (·.1)=ns.map Atom.int->IntKeys cs ns:=by
 induction r with
 |nil=>
  intro ns e;rcases ns with _|_;show .nil;show nomatch e
 |cons _ x J=>
  intro ns e;rcases ns with _|⟨n,ns⟩;show nomatch e;have B:=(p8 e).1;subst B;show .cons<|J (p8 e).2
def ZD(x:IntsAre vs ns):aT μ h (ns.map V.int) vs:=by
 induction x with
 |nil=>show .nil|cons n t _ J=>show .cons .gX J
def Tu.dict{st:Nat}(L:H[i]?=AA (.dict aJ st))(D:aJ.map (·.1)=ns.map Atom.int)(J:aJ.length<64)(q:LR ((rC ns).map V.int) H v H'):P1 W (.obj i) v H H'<|λa=>call (.builtin "sorted") [a]:=λ{y A s y y R} K hu c=>
 lD K.N L hu (P:=λcu=>Wp W A (call (.builtin "sorted") [cu]) R s) λy y C d r=>VA K.rm.hd (nc K.wk K.N C) d (r.ints D) (r.length▸J) λh' tk a vs T B hX M=>
  nj q K.N (ZD M) (by
   have e:=aF A8 D;rw[aO,aO] at e;rw[aO];unfold rC;rw[TK,<-e];show dc<|iB J ⋯) T B hX c
variable{m:Nat}
def dig{c d:Nat}(B:c<256)(J:d<256)(h:n*256+c=m*256+d):n=m/\c=d:=by
 have D:=aF (· / 256)<|D5 n 256▸D5 m 256▸h;have C:=aF (· % 256)<|D5 n 256▸D5 m 256▸h;rw[Nat.mul_add_div ⋯,Nat.mul_add_div ⋯,Nat.div_eq_of_lt B,Nat.div_eq_of_lt J] at D
 rw[Nat.mul_add_mod,Nat.mul_add_mod,Nat.mod_eq_of_lt B,Nat.mod_eq_of_lt J] at C;show⟨D,C⟩
def qS:List Nat->Nat
 | []=>1|c::r=>qS r*256+c
theorem Kw:∀l:List Nat,1<=qS l
 | []=>aV _|c::r=>aA (Kw r)<|aA (TZ _ ⋯) (aY _ _)
def Kv(c:Nat)(r:List Nat):1≠qS (c::r):=eV<|b6 ⋯ (aA (Td 256<|Kw r)<|aY _ _)
theorem Kt:∀l r:List Nat,(∀c∈l,c<256)->(∀c∈r,c<256)->qS l=qS r->l=r
 | [],[]=>λy y y=>rfl| [],c::r=>λy y h=>absurd h (Kv c r)|c::l,[]=>λy y h=>absurd h.symm (Kv c l)|c::l,d::r=>λhl J h=>by
  obtain⟨C,B⟩:=dig (hl c h_) (J d h_) h;rw[B,Kt l r (λx m=>hl x<|.tail _ m) (λx m=>J x<|.tail _ m) C]
theorem L9:∀l:List Nat,l.foldr (λc n=>n*256+c) 1=qS l
 | []=>rfl|c::l=>aF (·*256+c)<|L9 l
def K6(a:AN):aq a=qS a.cps.toList.reverse:=by unfold aq;rw[List.foldl_eq_foldr_reverse,L9]
def xW{a b:AN}(B:eB a)(J:eB b)(h:aq a=aq b):a=b:=by
 rw[K6,K6] at h;have e:=List.reverse_inj.mp<|Kt _ _ (λc q=>(B c<|List.mem_reverse.mp q).1) (λc q=>(J c<|List.mem_reverse.mp q).1) h;cases a;cases b;show aF Str.mk<|IP e
variable{nm':AN}{hsh:Int}{k k':Nat}{cv:AF}
section
variable{P:AR}{fl:List (Nat×V)}{nm:AN}
def yM{J:AN}:(CN nm' t).isStr J=AB↔nm'=J:=by
 show lB
def YB{c:AF}:getL nm (⟨hsh,.str nm t,c⟩::es)=AA (AA c):=by
 unfold getL;rw[JB (p:=λx:AV=>x.key.isStr nm)<|yM.mpr rfl]
def YC{c:AF}(e:nm'≠nm):getL nm (⟨hsh,.str nm' t,c⟩::es)=getL nm es:=by
 unfold getL;rw[JA (p:=λx:AV=>x.key.isStr nm)<|λq=>e (yM.mp q)];rfl
def FR.get(x:FR P μ h fl es)(D:eB nm):Ex λo=>bP (getL nm es=AA o)<|lY μ h (aa fl<|aq nm) o:=by
 induction x with
 |nil=>show⟨⟨rfl,.no⟩⟩|@cons nm' t y cv r T J hv _ C=>
  by_cases B:nm'=nm
  .subst B;rw[YB,vH];show⟨⟨rfl,.yes hv⟩⟩
  rw[YC B,vI λq=>B<|xW J D q];show C
def FR.len(x:FR P μ h fl es):es.length=fl.length:=by
 induction x with
 |nil=>rfl|cons _ _ _ J=>show aF (·+1) J
def aBG(J:k∉fl.map (·.1)):cB ((k,y)::fl) k v=(k,v)::fl:=by
 unfold cB;rw[rV,a6 rfl,IZ,aC rfl,da,aC rfl];refine aF _<|(jO λp C=>aB λq=>J<|List.mem_map.mpr ⟨p,C,q⟩).trans (List.map_id fl)
def aBH(J:k'≠k):cB ((k',y)::fl) k v=(k',y)::cB fl k v:=by
 unfold cB;rw[rV,bE J,DK,da,aB J];split<;>rfl
def FR.put(x:FR P μ h fl es)(T:eB nm)(D:VR μ h v cv)(B:(fl.map (·.1)).Nodup):FR P μ h (cB fl (aq nm) v)<|putL nm (Ak P nm) (.str nm t) cv es:=by
 induction x with
 |nil=>show .cons T D .nil|@cons nm' u y c r Z J M E L=>
  unfold putL;obtain⟨Y,G⟩:=List.nodup_cons.mp B;by_cases C:nm'=nm
  .subst C;rw[aC<|yM.mpr rfl,aBG Y];show .cons J D E
  rw[aB<|λq=>C (yM.mp q),aBH λq=>C<|xW J T q];show .cons J M<|L G
theorem keys_map:∀fl:List<|Nat×V,(fl.map λp=>if p.1=k then(p.1,v) else p).map (·.1)=fl.map (·.1)
 | []=>rfl|p::r=>by rw[da,da,keys_map r];split<;>rfl
def aBI(J:(fl.map (·.1)).Nodup):((cB fl k v).map (·.1)).Nodup:=by
 unfold cB;split
 .rw[keys_map];show J
 rename_i ha;rw[bw];refine JL.mpr ⟨J,List.nodup_cons.mpr ⟨eL,d7⟩,λx D y B e=>ha ?_⟩;obtain⟨p,C,q⟩:=List.mem_map.mp D;show List.any_eq_true.mpr ⟨p,C,a6<|q.trans (e.trans<|JK.mp B)⟩
end
def qh(J:nF W)(N:bC W μ H s.heap):W.K.In s.heap:=λa o e=>N.base a o<|J.GK a o e
theorem YX:∀{v:V} {cv:AF},VR μ h v cv->BO cv=AB
 | .none=>λr=>r.ti (P:=λc=>BO c=AB) rfl| .bool _=>λr=>r.rI (P:=λc=>BO c=AB) rfl| .int _=>λr=>r.cP (P:=λc=>BO c=AB) λy=>rfl| .str _=>λr=>r.hZ (P:=λc=>BO c=AB) λy=>rfl| .tup _=>λr=>r.gf (P:=λc=>BO c=AB) λy y y y y y=>rfl| .lst _=>λr=>r.th (P:=λc=>BO c=AB) λy y y y y y=>rfl| .obj _=>λr=>r.rJ (P:=λc=>BO c=AB) λy y=>rfl
theorem QF(J:AN)(C:Int)(B v:AF):∀es:List AV,(putL J C B v es).length<=es.length+1
 | []=>aV _|y::r=>by
  unfold putL;split
  show b8 _;show bj<|QF J C B v r
def Fm{c:Nat}{T:List<|Nat×V}(N:bC W μ H s.heap)(D:H[i]?=AA (.inst c T))(M:VR μ s.heap (.obj i) cv)
  (k:∀a d cA ox es n,μ.l[i]?=AA (a,AA d)->W.cls c=AA cA->ox.dict=AA d->BA s.heap a ox cA (AA<|Bu es n)->FR W.w.params μ s.heap T es->(T.map (·.1)).Nodup->P (.ref a)):P cv:=
 M.rJ λp C=>(N.dT D).casesOn λJ B y=>B.casesOn λe D hd I f L=>q5 J C (P:=λp=>P<|.ref p.1)<|k _ _ _ _ _ _ (J.trans<|aF AA (iD rfl e)) D hd I f L
inductive wJ(a:Nat)(H:AH):V->V->Prop
 |mk {i c:Nat} {fl:List (Nat×V)} {v:V} (hc:H[i]?=AA (.inst c fl)) (h:iS c a=AD) (g:aa fl a=AA v):wJ a H (.obj i) v
def KU(D:nF W)(N:bC W μ H s.heap){T:AN}(M:T∈W.attrs)(G:VR μ s.heap u cu)(e:wJ (aq T) H u v){J:Bool}{R:AF->AG->Prop}(c:Kc W μ s H v R):Wp W A (getAttr cu T J) R s:=by
 cases e with
 |mk hc L g=>
  refine Fm N hc G (P:=λcu=>Wp W A (getAttr cu T J) R s) λa d cA ox es n C B hd I f Z=>?_;obtain⟨⟨Y,E⟩⟩:=f.get<|D.xC _ M;rw[g] at E
  cases E with
  |yes hv=>show get_value (qh D N) I (plainGet_of<|D.Ej _ _ T B).1 (findObj_own (D.Eg _ _ B) (D.Ef _ _ _ B M L) rfl Y) (YX hv)<|c.here N hv
set_option tactic.hygienic true in
def aFH(J:(getL name es).isSome=AB):(!es.toArray.any (·.key.isStr name)&&es.toArray.any (·.refKey))=AD:=by
 rw[<-SK,<-SK];unfold getL at J;split at J
 .rename_i en he;rw[List.any_eq_true.mpr ⟨en,TN he,List.find?_some he⟩];rfl
 split at J
 .rcases J with _|_
 rename_i z;rw[SP] at z;rw[z,IV]
def aDw{x J:AJ}{tk:Tok}{v:AF}{K:Frag}(X:K.In s.heap)
  (I:InstAt s.heap x ox cA<|AA (Bu es n)) (L:ox.dict=AA J) (C:CL K cA=AB) (O:takerIn K cA name=AA AE) (P:(clsIn K cA).any (·.hasDict)=AB)
  (S:(getL name es).isSome=AB) (Y:es.length<950)
  (h:(s.heap.update J<|CV name (Ak w.params name) (.str name s.toks) v).get? J=AA (Bu (putL name (Ak w.params name) (.str name s.toks) v es)<|putN name es n)->
   R (.ok<|.ret .none) {s with heap:=s.heap.update J<|CV name (Ak w.params name) (.str name s.toks) v,toks:=s.toks+1}):
  BJ (Ai prog w) A (.call (.builtin "object.__setattr__") ⟨[.ref x,.str name tk,v],[]⟩) R s:=by
 refine osa_open X I C O λb=>?_;obtain⟨cd,hc,B⟩:=any_some P;have D_:=yG I L;obtain⟨Z,D,hn,-⟩:=I;obtain⟨N,E,G,M⟩:=ox;subst D L;have e:=putName_dict name (Ak w.params name) (.str name s.toks) v es n;have T:=m6 (CV name (Ak w.params name) (.str name s.toks) v) D_ (by rw[e];rfl)
 rw[e] at T;refine aH<|bA (aH<|aH (wpAny_loadPart Z<|aH ((looks_clsIn X hc).here ?_)));rw[B];refine bA<|aH (bA<|aH ?_);refine aH<|aH (wpAny_askSetting<|bA (aH<|R8 (aH<|wpAny_loadPart D_ ?_)))
 dsimp only
 rw[aRefKeyMayBeTheName_at,aFH S];refine wpAny_updatePart D_<|aH (wpAny_lookBehind T (pastItsLine_dict<|bu▸sizeLine_eq▸aA (QF _ _ _ _ es) (aA (bj<|dc Y) ⋯))<|bA (h T))
inductive l7(a:Nat)(H:AH)(v:V):V->AH->Prop
 |mk {i c:Nat} {fl:List (Nat×V)} (hc:H[i]?=AA (.inst c fl)) (h:iS c a=AD) (z:fl.length<900):l7 a H v (.obj i) (H.set i (.inst c (cB fl a v)))
def aHj{d:AJ}(B:(foot μ).Nodup)(C:μ.l[i]?=AA (a,AA d)):a≠d:=λq=>by
 have J:=(JL.mp B).2.1;obtain⟨D,l2,hl⟩:=List.append_of_mem<|eK C;rw[hl,uO,JC] at J;show(List.nodup_cons.mp (JL.mp (JL.mp J).2.1).1).1<|q▸.head _
def get_some{P:AR}{T:List<|Nat×V}{B:AN}(f:FR P μ h T es)(C:eB B):(getL B es).isSome=AB:=(f.get C).casesOn λJ=>J.casesOn λD y=>D▸rfl
def QI(B:nF W)(N:bC W μ H s.heap){D:AN}(T:D∈W.attrs)(O:VR μ s.heap u cu)(Z:VR μ s.heap v cv)(e:l7 (aq D) H v u H'){R:Unit->AG->Prop}(c:Ku W μ s H' R):Wp W A (setAttr cu D cv) R s:=by
 cases e with
 |mk hc L Y=>
  refine Fm N hc O (P:=λcu=>Wp W A (setAttr cu D cv) R s) λa d cA ox es n C J hd I f M=>?_;have S:takerIn W.K cA D=AA AE:=by unfold takerIn;rw[B.Ef _ _ _ J T L];rfl
  refine set_plain (qh B N) I (B.LD _ _ J)<|aDw (qh B N) I hd (B.cover _ _ J) S (B.Eg _ _ J) (get_some f<|B.xC _ T) (f.len▸iB Y ⋯) λG=>?_
  show c<|turn N C (.tail _ h_) (oA<|lu ..) (yG I hd) G rfl rfl (λE=>⟨rfl,J,hd,⟨(Heap.get?_update_ne _ _ _ _<|aHj N.apart C).trans I.at_,I.cls,I.no,by rw[hd];show G⟩,(f.kp<|E.kp .none).put (B.xC _ T) (VR.ext E .none v Z) M,aBI M⟩) λy e=>au e
def pW(l u:AF):B5:={cls:=.type "slice",data:=.fields #[l,u,.none]}
def dv(W:Wd)(o:AF->B5)(u x v:V)(H B:AH):Prop:=∀{n:Nat} {A:Ab} {s:AG} {μ:Mu} {cu J:AF} {R:AF->AG->Prop},Ok W n A μ H s->VR μ s.heap u cu->VR μ s.heap x J->Kc W μ s B v R->dI W A {s with heap:=s.heap.push<|o J} cu (AP cu<|.ref s.heap.objs.size) R
def rt(W:Wd)(u x y v:V)(H C:AH):Prop:=∀{n:Nat} {A:Ab} {s:AG} {μ:Mu} {cu B J:AF} {R:AF->AG->Prop},Ok W n A μ H s->VR μ s.heap u cu->VR μ s.heap x B->VR μ s.heap y J->Kc W μ s C v R->dI W A {s with heap:=s.heap.push<|pW B J} cu (AP cu<|.ref s.heap.objs.size) R
def oM(b:AF):B5:=pW .none b
def jd(b:AF):B5:=pW b .none
def Ky(k n:Nat):max (0:Int) (min (k:Int) (n:Int))=((min k n:Nat):Int):=by
 rw[Int.max_eq_right<|Int.le_min.mpr ⟨eI _,eI _⟩];rcases Jb k n with h|h
 .rw[Int.min_eq_left<|Int.ofNat_le.mpr h,uQ h]
 rw[Int.min_eq_right<|Int.ofNat_le.mpr h,D3 h]
def aGS(n k:Nat):n-min k n=n-k:=by
 rcases Jb k n with h|h
 .rw[uQ h]
 rw[D3 h,qH,Nat.sub_eq_zero_of_le h]
def not_neg(k:Nat):¬((k:Int)<0):=Int.not_lt.mpr<|eI k
def OL(x:AN):x.length=x.cps.toList.length:=by change x.cps.size=_;rw[oR]
def aH1(n k:Nat):AL AE (AA (k:Int)) 1 n=AL (AA ((0:Nat):Int)) (AA ((min k n:Nat):Int)) 1 n:=by
 unfold AL;simp only[not_neg,if_false,show(1>0)=True from eq_true ⋯,if_true,Ky,Nat.zero_min,Nat.min_assoc,D4]
 rfl
def W2(n k:Nat):AL (AA (k:Int)) AE 1 n=AL (AA ((min k n:Nat):Int)) (AA ((n:Nat):Int)) 1 n:=by
 unfold AL;simp only[not_neg,if_false,show((1:Int)>0)=True from eq_true ⋯,if_true,Ky,Nat.min_assoc,D4]
def aGP(x:AN)(k:Nat):(AL AE (AA (k:Int)) 1 x.length).filterMap (x.cps[·]?)=x.cps.toList.take k/\(AL AE (AA (k:Int)) 1 x.length).length=min k x.length:=by
 rw[aH1];refine⟨?_,by rw[Tx (bK _)<|rj _ _];simp⟩
 rw[Tw x (bK _)<|rj _ _,uL,Nat.sub_zero,OL,<-List.take_take,JP]
def aGN(x:AN)(k:Nat):(AL (AA (k:Int)) AE 1 x.length).filterMap (x.cps[·]?)=x.cps.toList.drop k/\(AL (AA (k:Int)) AE 1 x.length).length=x.length-k:=by
 rw[W2];refine⟨?_,by rw[Tx (rj _ _)<|aV _,aO,kq,aGS]⟩
 rw[Tw x (rj _ _)<|aV _,OL];rcases Jb k x.cps.toList.length with h|h
 .rw[uQ h,uP<|oS▸aV _]
 rw[D3 h,Sx<|aV _,Sx h,JQ]
variable{x:List Nat}
def aGO{x:AN}(J:x.length<=aM)(h:∀t tk,Q (.str x t) {s with toks:=tk}):(Made.str x).post Q s:=⟨fq J,h _ _⟩
def str_slice{u:Tok}{l r:Option<|Int×Tok}{y:List Nat}{B:AJ}{R:AF->AG->Prop}(N:bC W μ H s.heap)(k:∀b o,s.heap.get? b=AA o->h'.get? b=AA o)(z:x.length<=aM)(D:h'.IsSlice B l r AE)
  (C:(AL (l.map (·.1)) (r.map (·.1)) 1 (⟨x.toArray⟩:AN).length).filterMap ((⟨x.toArray⟩:AN).cps[·]?)=y/\(AL (l.map (·.1)) (r.map (·.1)) 1 (⟨x.toArray⟩:AN).length).length=m) (L:m=x.length->y=x) (T:y.length<=x.length)
  (c:Kc W μ s H (.str y) R):dI W A {s with heap:=h'} (.str ⟨x.toArray⟩ u) (AP (.str ⟨x.toArray⟩ u)<|.ref B) R:=by
 refine⟨typeIs_str _ _ _,PySem.F.slot_str_getitem.lookup,wpAny_getItem_str_slice D rfl ?_⟩;unfold sliceMade slicePicked;simp only[Option.map_none,Option.getD_none];split
 .rename_i hq;rw[eQ] at hq;have J:=lB.mp hq.2;rw[C.2] at J;rw[L<|J.trans (bu ..)] at c;show c (.grow N k) .zY
 rw[C.1];show aGO (by change y.toArray.size<=_;rw[bu];show aA T z) λt tk=>c (.grow N k) .zY
theorem Vp:∀{x:List Nat},x.length-j=x.length->x.drop j=x
 | []=>λy=>Dl|_::_=>λq=>match j,q with
  |0,_=>rfl|_+1,q=>absurd q<|eV (w4 (jQ _)<|jQ _)
def dv.tV(z:x.length<=aM):dv W oM (.str x) (.int j) (.str<|x.take j) H H:=λ{y A s y y y R} K hu J c=>
 J.cP (P:=λB=>dI W A {s with heap:=s.heap.push<|oM B} _ (AP _<|.ref s.heap.objs.size) R) λt=>hu.hZ (P:=λcu=>dI W A {s with heap:=s.heap.push<|oM (.int j t)} cu (AP cu<|.ref s.heap.objs.size) R) λu=>
  str_slice (l:=AE) (r:=AA (j,t)) K.N (cO _ _) z ⟨_,eC _ rfl,rfl,rfl⟩ (aGP ⟨x.toArray⟩ j) (λq=>uP<|q▸Nat.min_le_left _ _) (Ds▸rj _ _) c
def dv.Cr(z:x.length<=aM):dv W jd (.str x) (.int j) (.str<|x.drop j) H H:=λ{y A s y y y R} K hu J c=>
 J.cP (P:=λB=>dI W A {s with heap:=s.heap.push<|jd B} _ (AP _<|.ref s.heap.objs.size) R) λt=>hu.hZ (P:=λcu=>dI W A {s with heap:=s.heap.push<|jd (.int j t)} cu (AP cu<|.ref s.heap.objs.size) R) λu=>
  str_slice (l:=AA (j,t)) (r:=AE) K.N (cO _ _) z ⟨_,eC _ rfl,rfl,rfl⟩ (aGN ⟨x.toArray⟩ j) (λq=>Vp<|(bu ..)▸q) (oS▸nB _ _) c
section
variable(hl:IsL H l u)
def dv.Oe(q:LR (l.take j) H v H'):dv W oM u (.int j) v H H':=λ{y A s y y y R} K hu B c=>
 B.cP (P:=λC=>dI W A {s with heap:=s.heap.push<|oM C} _ (AP _<|.ref s.heap.objs.size) R) λt=>hl.at K.N hu (P:=λcu=>dI W A {s with heap:=s.heap.push<|oM (.int j t)} cu (AP cu<|.ref s.heap.objs.size) R) λa xs x r z=>by
  have J:=x.at λo e=>cO s.heap (oM<|.int j t) a o e;refine⟨lU J,slot_list_getitem.lookup,R7 J.is ⟨_,eC _ rfl,rfl,rfl⟩ .none (.int _ t) .none (by simp) ?_<|bu▸r.length▸fq z⟩
  rw[slicePick_upto',rf];show nj (s:=s) q K.N (r.take j) (Ds▸aA (rj _ _) z) (λb o e=>cO _ _ _ _<|cO _ _ b o e) (qY<|cO _ _) .new c
def dv.aCS(q:LR (l.drop j) H v H'):dv W jd u (.int j) v H H':=λ{y A s y y y R} K hu B c=>
 B.cP (P:=λC=>dI W A {s with heap:=s.heap.push<|jd C} _ (AP _<|.ref s.heap.objs.size) R) λt=>hl.at K.N hu (P:=λcu=>dI W A {s with heap:=s.heap.push<|jd (.int j t)} cu (AP cu<|.ref s.heap.objs.size) R) λa xs x r z=>by
  have J:=x.at λo e=>cO s.heap (jd<|.int j t) a o e;refine⟨lU J,slot_list_getitem.lookup,R7 J.is ⟨_,eC _ rfl,rfl,rfl⟩ (.int _ t) .none .none (by simp) ?_<|bu▸r.length▸fq z⟩
  rw[slicePick_from',rf];show nj (s:=s) q K.N (r.drop j) (oS▸aA (nB _ _) z) (λb o e=>cO _ _ _ _<|cO _ _ b o e) (qY<|cO _ _) .new c
def rt.lst(J:j<=k)(T:k<=l.length)(q:LR ((l.take k).drop j) H v H'):rt W u (.int j) (.int k) v H H':=λ{y A s y y y y R} K hu D C c=>
 D.cP (P:=λM=>dI W A {s with heap:=s.heap.push<|pW M _} _ (AP _<|.ref s.heap.objs.size) R) λt=>C.cP (P:=λL=>dI W A {s with heap:=s.heap.push<|pW (.int j t) L} _ (AP _<|.ref s.heap.objs.size) R) λt'=>hl.at K.N hu (P:=λcu=>dI W A {s with heap:=s.heap.push<|pW (.int j t) (.int k t')} cu (AP cu<|.ref s.heap.objs.size) R) λa xs x r z=>by
  have B:=x.at λo e=>cO s.heap (pW (.int j t)<|.int k t') a o e;refine⟨lU B,slot_list_getitem.lookup,R7 B.is ⟨_,eC _ rfl,rfl,rfl⟩ (.int _ t) (.int _ t') .none (by simp) ?_<|bu▸r.length▸fq z⟩
  rw[slicePick_run _ _ _ (bu▸r.length▸T) J,rf,<-List.drop_take];show nj (s:=s) q K.N ((r.take k).drop j) (oS▸Ds▸aA (nB _ _) (aA (rj _ _) z)) (λb o e=>cO _ _ _ _<|cO _ _ b o e) (qY<|cO _ _) .new c
end
def dv.aHb(D:1<=j)(C:j<=l.length):dv W jd (.tup l) (.int j) (.tup<|l.drop j) H H:=λ{y A s y y y R} K hu B c=>
 B.cP (P:=λT=>dI W A {s with heap:=s.heap.push<|jd T} _ (AP _<|.ref s.heap.objs.size) R) λt=>hu.gf (P:=λcu=>dI W A {s with heap:=s.heap.push<|jd (.int j t)} cu (AP cu<|.ref s.heap.objs.size) R) λa xs y x z r=>by
  have J:=x.at λo e=>cO s.heap (jd<|.int j t) a o e;refine⟨H8 J,PySem.F.slot_tuple_getitem.lookup,getItem_tuple_from J.is ⟨_,eC _ rfl,rfl,rfl⟩ D (bu▸r.length▸C) ?_<|bu▸r.length▸fq z⟩;rw[rf];show y6 (s:=s) K.N (r.drop j) (oS▸aA (nB _ _) z) (λb o e=>cO _ _ _ _<|cO _ _ b o e) (qY<|cO _ _) .new c
def q1(vs:List V)(P:V->Prop):Prop:=match vs with
 | [u]=>P u|_=>False
def q2(vs:List V)(P:V->V->Prop):Prop:=match vs with
 | [u,x]=>P u x|_=>False
def q3(vs:List V)(P:V->V->V->Prop):Prop:=match vs with
 | [u,x,y]=>P u x y|_=>False
inductive Jo(W:Wd)(u x:V)(H:AH)(v:V):AH->Prop
 |mk (p:ee W u x H v):Jo W u x H v H
inductive IT(a:Nat)(u:V)(H:AH)(v:V):AH->Prop
 |mk (p:wJ a H u v):IT a u H v H
def Prim(W:Wd)(o:Op)(vs:List V)(H:AH)(v:V)(J:AH):Prop:=match o with
 | .tup=>EG vs H v J| .lst=>bP (vs.length<=aM) (LR vs H v J)| .hN=>DR H v J| .q4=>P0 W H v J (call (.type "set") [])| .sub=>q2 vs λu x=>Jo W u x H v J| .lV=>q2 vs λu x=>dv W oM u x v H J| .je=>q2 vs λu x=>dv W jd u x v H J| .cut=>q3 vs λu x y=>rt W u x y v H J| .attr a=>q1 vs λu=>IT a u H v J| .bin op=>q2 vs λu x=>P2 W u v x H J (AY op)| .cmp op=>q2 vs λu x=>P2 W u v x H J (AI op)| .n4=>q1 vs λu=>D9 u H v J| .hO=>q1 vs λu=>Ji u H v J| .fm l=>q1 vs λu=>Iy l H u v J| .f1 f=>q1 vs λu=>P1 W u v H J (λa=>call f.fv [a])| .listRev=>q1 vs λu=>uW W u v H J
def Fn(W:Wd)(n:Nat)(f:Nat)(vs:List V)(H:AH)(Q:V->AH->Prop):Prop:=∀{a:AJ},W.nS f=AA a->∀{A:Ab} {s:AG} {μ:Mu} {cvs:List AF} {R:AF->AG->Prop},Ok W n A μ H s->aT μ s.heap vs cvs->
 (∀{v:V} {H':AH},Q v H'->Kc W μ s H' v R)->BJ (Ai W.prog W.w) A (.call (.ref a) ⟨cvs,[]⟩) (wants R F0) s
inductive Seq(P Q:V->AH->Prop):Prop
 |mk {v:V} {H:AH} (p:P v H) (q:Q v H)
inductive rp(W:Wd)(n c:Nat)(vs:List V)(H:AH)(Q:V->AH->Prop):Prop
 |mk {f:Nat} (h:W.T.init c=AA f) (k:Fn W n f (.obj H.length::vs) (H++[.inst c []]) (λr H'=>bP (r=.none) (Q (.obj H.length) H')))
inductive qD(W:Wd)(m:Nat)(u:V)(H:AH)(P:Nat->Prop):Prop
 |mk {i c f:Nat} {fl:List (Nat×V)} (e:u=.obj i) (hc:H[i]?=AA (.inst c fl)) (h:W.T.qo c m=AA f) (g:aa fl m=AE) (p:P f)
inductive qE(ws:List V)(H:AH)(Q:V->AH->Prop):Prop
 |mk {v:V} {H':AH} (r:LR ws H v H') (q:Q v H')
set_option genCtorIdx true in
inductive Kd where
 |tup|lst|dict (st:Nat)|az (st:Nat)
inductive It:Kd->V->List V->AH->Prop
 |tup {l:List V} {H:AH}:It .tup (.tup l) l H|lst {u:V} {l:List V} {H:AH} (h:IsL H l u):It .lst u l H|dict {i st:Nat} {aJ:List (Atom×V)} {H:AH} (hc:H[i]?=AA (.dict aJ st)):It (.dict st) (.obj i) (aJ.map λp=>dG p.1) H|az {i st:Nat} {aJ:List (List Atom×V)} {H:AH} (hc:H[i]?=AA (.az aJ st)):It (.az st) (.obj i) (aJ.map λp=>.tup (p.1.map dG)) H
inductive uI(src:V)(H:AH)(P:(AH->Prop)->List V->Prop):Prop
 |mk {k:Kd} {l:List V} (h:It k src l H) (p:P (It k src l) l)
def kn(J:AH->Prop)(el:ae->AH->(V->AH->Prop)->Prop)(x:Nat)(F:ae):List V->AH->(List V->AH->Prop)->Prop
 | [],H,Q=>bP (J H) (Q [] H)|v::r,H,Q=>bP (J H)<|el (upd F x v) H λw H=>kn J el x F r H λws H=>Q (w::ws) H
inductive Df(v:V)(P:Nat->Prop):Prop
 |mk {k:Nat} (e:v=.int k) (z:k<=aM) (p:P k)
def jm(k:Nat):List V:=(Av k).map λi:Nat=>V.int i
mutual
noncomputable def bV(W:Wd)(n:Nat):IE->ae->AH->(V->AH->Prop)->Prop
 | .const v,_,H,Q=>Q v H| .var x,F,H,Q=>Sm (F x) λv=>Q v H| .op o es,F,H,Q=>m5 W n es F H λvs H=>Seq (Prim W o vs H) Q| .call f es,F,H,Q=>m5 W n es F H λvs H=>Fn W n f vs H Q| .gK e m es,F,H,Q=>bV W n e F H λu H=>qD W m u H λf=>m5 W n es F H λvs H=>Fn W n f (u::vs) H Q| .bm m e es,F,H,Q=>bV W n e F H λu H=>bP (Recv W m u H) (m5 W n es F H λvs H=>Seq (c6 W m (u::vs) H) Q)| .jb e a,F,H,Q=>bV W n e F H λu H=>bP (ry W u H) (bV W n a F H λx H=>Ex λH'=>bP (oY W u x H H')<|Q .none H')| .new c es,F,H,Q=>m5 W n es F H λvs H=>rp W n c vs H Q| .and a b,F,H,Q=>bV W n a F H λv H=>Tq v H λt=>if t=AB then bV W n b F H Q else Q v H| .or a b,F,H,Q=>bV W n a F H λv H=>Tq v H λt=>if t=AB then Q v H else bV W n b F H Q| .not a,F,H,Q=>bV W n a F H λv H=>Tq v H λt=>Q (.bool<|!t) H| .ite c a b,F,H,Q=>bV W n c F H λv H=>Tq v H λt=>if t=AB then bV W n a F H Q else bV W n b F H Q| .comp e x it,F,H,Q=>bV W n it F H λsrc H=>uI src H λC_ l=>bP (l.length<=aM) (kn C_ (λF H Q=>bV W n e F H Q) x F l H λws H=>qE ws H Q)| .gS e x m,F,H,Q=>bV W n m F H λv H=>Df v λk=>kn (λy=>True) (λF H Q=>bV W n e F H Q) x F (jm k) H λws H=>qE ws H Q
noncomputable def m5(W:Wd)(n:Nat):fI->ae->AH->(List V->AH->Prop)->Prop
 | .nil,_,H,Q=>Q [] H| .cons e es,F,H,Q=>bV W n e F H λu H=>m5 W n es F H λus H=>Q (u::us) H
end
section
variable(k:ae->AH->Prop)(Q:Fl->ae->AH->Prop)
def PA:Fl->ae->AH->Prop
 | .aQ,F,H=>k F H|fl,F,H=>Q fl F H
def H4:Fl->ae->AH->Prop
 | .aQ,F,H=>k F H| .cnt,F,H=>k F H| .brk,F,H=>Q .aQ F H| .ret v,F,H=>Q (.ret v) F H
end
def w9(c:ae->AH->(V->AH->Prop)->Prop)(b:ae->AH->(Fl->ae->AH->Prop)->Prop):Nat->ae->AH->(Fl->ae->AH->Prop)->Prop
 |0,_,_,_=>False|k+1,F,H,Q=>c F H λv H=>Tq v H λt=>if t=AB then b F H (H4 (λF H=>w9 c b k F H Q) Q) else Q .aQ F H
def lr(J:AH->Prop)(x:Nat)(b:ae->AH->(Fl->ae->AH->Prop)->Prop):List V->ae->AH->(Fl->ae->AH->Prop)->Prop
 | [],F,H,Q=>bP (J H) (Q .aQ F H)|v::r,F,H,Q=>bP (J H)<|b (upd F x v) H (H4 (λF H=>lr J x b r F H Q) Q)
inductive lZ(op:AZ)(u:V)(H:AH)(w:V)(Q:V->AH->Prop):Prop
 |add {a b:Int} (o:op=.Add) (e:u=.int a) (e':w=.int b) (q:Q (.int (a+b)) H)|sub {a b:Int} (o:op=.Sub) (e:u=.int a) (e':w=.int b) (q:Q (.int (a-b)) H)|lst {i:Nat} {l l':List V} (o:op=.Add) (e:u=.obj i) (hc:H[i]?=AA (.lst l)) (hl:IsL H l' w) (z:l.length+l'.length<=aM) (q:Q (.obj i) (H.set i (.lst (l++l'))))
mutual
noncomputable def DP(W:Wd)(n:Nat):IS->ae->AH->(Fl->ae->AH->Prop)->Prop
 | .asg x e,F,H,Q=>bV W n e F H λv H=>Q .aQ (upd F x v) H| .gR xs e,F,H,Q=>bV W n e F H λv H=>Ex λl=>bP (v=.tup l) (bP (l.length=xs.length)<|Q .aQ (jr F xs l) H)| .swap x y a b,F,H,Q=>bV W n a F H λu H=>bV W n b F H λw H=>Q .aQ (upd (upd F y w) x u) H| .cW a i e,F,H,Q=>bV W n e F H λv H=>bV W n a F H λu H=>bV W n i F H λx H=>Ex λH'=>bP (iq W u x v H H') (Q .aQ F H')| .setAttr o a e,F,H,Q=>bV W n e F H λv H=>bV W n o F H λu H=>Ex λH'=>bP (l7 a H v u H') (Q .aQ F H')| .aug x op e,F,H,Q=>Sm (F x) λu=>bV W n e F H λw H=>lZ op u H w λv H=>Q .aQ (upd F x v) H| .mB t a op e,F,H,Q=>bV W n t F H λu H=>Ex λv=>bP (wJ a H u v) (bV W n e F H λw H=>lZ op v H w λr H=>bP (∀i,v≠.obj i)<|Ex λH'=>bP (l7 a H r u H') (Q .aQ F H'))| .expr e,F,H,Q=>bV W n e F H λz H=>Q .aQ F H| .ite c a b,F,H,Q=>bV W n c F H λv H=>Tq v H λt=>if t=AB then ig W n a F H Q else ig W n b F H Q| .eG c b,F,H,Q=>Ex λk=>w9 (bV W n c) (λF H Q=>ig W n b F H Q) k F H Q| .forIn x e b,F,H,Q=>bV W n e F H λv H=>uI v H λC_ l=>lr C_ x (λF H Q=>ig W n b F H Q) l F H Q| .forR x m b,F,H,Q=>bV W n m F H λv H=>Df v λk=>lr (λz=>True) x (λF H Q=>ig W n b F H Q) (jm k) F H Q| .ret e,F,H,Q=>bV W n e F H λv H=>Q (.ret v) F H| .cont,F,H,Q=>Q .cnt F H| .pass,F,H,Q=>Q .aQ F H
noncomputable def ig(W:Wd)(n:Nat):aL->ae->AH->(Fl->ae->AH->Prop)->Prop
 | .nil,F,H,Q=>Q .aQ F H| .cons s J,F,H,Q=>DP W n s F H<|PA (λF H=>ig W n J F H Q) Q
end
structure Rb(A:Ab)(n:Nat):Prop where
 u:A.units+20*n+1310<BU
 d:A.depth+3*n+4<recursionLimit
 hd:A.handled=AE
def Rb.rm(R:Rb A n):Rm A n:=⟨bZ (b7 ⋯ _) R.u,bZ (b7 ⋯ _) R.d,R.hd⟩
def Rb.made(R:Rb A n)(B:AJ)(J:List AF):Rm (A.under<|.builtin "type.__call__" ⟨.ref B::J,[]⟩) n:=
 ⟨bZ (show A.units+1+20*n+1300<=A.units+20*n+1310 by rw[dX A.units 1];show b7 (show 1301<=1310 by decide)<|A.units+20*n) R.u,bZ (show A.depth+1+3*n+2<=A.depth+3*n+4 by rw[dX A.depth 1];show b7 (show 3<=4 by decide)<|A.depth+3*n) R.d,R.hd⟩
structure iA(Y:Ac)(env:Bp):Prop where
 kind:env.scope.kind=.function
 g:env.globals=Al
 b:env.builtins=BS
 loc:∀x,Y.names.lookup x=AA .local->env.kindOf x=AA .local
 cell:∀x,Y.names.lookup x=AA .cell->env.kindOf x=AA .cell
 free:∀x,Y.names.lookup x=AA .free->env.kindOf x=AA .cell\/env.kindOf x=AA .free
 glob:∀x,Y.names.lookup x=AA .globalImplicit->env.kindOf x=AA .globalImplicit
 cells:∀x,Y.names.lookup x=AA .cell\/Y.names.lookup x=AA .free->∃c,env.cells.lookup x=AA c
inductive uG(μ:Mu)(h:AW)(m:AN->Option AF)(nm:AN)(v:V):Prop
 |mk {cv:AF} (e:m nm=AA cv) (r:VR μ h v cv)
inductive uF(μ:Mu)(h:AW)(env:Bp)(cm:AN->Option AF)(nm:AN)(v:V):Prop
 |mk {c:AJ} {cv:AF} (l:env.cells.lookup nm=AA c) (e:cm nm=AA cv) (r:VR μ h v cv)
structure SR(W:Wd)(μ:Mu)(h:AW)(env:Bp)(cm:AN->Option AF)(n:AN)(c:AJ):Prop where
 is:h.IsCell c (cm n)
 out:c∉foot μ
 old:W.h₀.get? c=AE
 ne:c≠env.locals
structure FO(W:Wd)(μ:Mu)(F:ae)(h:AW)(env:Bp)(m cm:AN->Option AF):Prop where
 ns:h.Ns env.locals m
 out:env.locals∉foot μ
 old:W.h₀.get? env.locals=AE
 cell:∀n c,env.cells.lookup n=AA c->SR W μ h env cm n c
 apart:∀n n' c,env.cells.lookup n=AA c->env.cells.lookup n'=AA c->n=n'
 loc:∀nm v,eB nm->F (aq nm)=AA v->env.kindOf nm=AA .local->uG μ h m nm v
 dT:∀nm v,eB nm->F (aq nm)=AA v->env.kindOf nm=AA .cell\/env.kindOf nm=AA .free->uF μ h env cm nm v
inductive eH(W:Wd)(μ:Mu)(F:ae)(h:AW)(env:Bp):Prop
 |mk {m cm:AN->Option AF} (fo:FO W μ F h env m cm)
def own(env:Bp)(a:AJ):Prop:=a=env.locals\/∃n,env.cells.lookup n=AA a
variable{F':ae}{env:Bp}{m cm:AN->Option AF}{Y:Ac}{x y:AN}{R:Unit->AG->Prop}
section
variable{F:ae}{nm:AN}
def uG.kp(x:uG μ h m nm v)(E:Kp μ h μ' h'):uG μ' h' m nm v:=x.casesOn λe r=>⟨e,r.kp E⟩
def uF.kp(x:uF μ h env cm nm v)(E:Kp μ h μ' h'):uF μ' h' env cm nm v:=x.casesOn λl e r=>⟨l,e,r.kp E⟩
def PK(x:h.Ns a m)(k:∀o,h.get? a=AA o->h'.get? a=AA o):h'.Ns a m:=by obtain⟨o,es,ep,J,r⟩:=x;show⟨o,es,ep,k o J,r⟩
def zW(x:h.Ns a m):∃o,h.get? a=AA o/\∀xs n,o.data≠.seq xs n:=by
 obtain⟨o,es,ep,J,hd,_⟩:=x;show⟨o,J,λxs n e=>by rw[hd] at e;rcases e with _|_⟩
def Ks{c:AJ}{v:Option AF}(x:h.IsCell c v)(k:∀o,h.get? c=AA o->h'.get? c=AA o):h'.IsCell c v:=x.elim λo J=>J.elim λB hd=>⟨o,k o B,hd⟩
def Eh{c:AJ}{v:Option AF}(x:h.IsCell c v):∃o,h.get? c=AA o/\∀xs n,o.data≠.seq xs n:=by
 obtain⟨o,J,hd⟩:=x;show⟨o,J,λxs n e=>by rw[hd] at e;rcases e with _|_⟩
section
variable(x:FO W μ F h env m cm)
def FO.Pg(B:own env a):∃o,h.get? a=AA o/\∀xs n,o.data≠.seq xs n:=
 B.elim (λe=>e▸zW x.ns) λJ=>J.elim λn hn=>Eh (x.cell n a hn).is
def FO.HG(B:own env a):a∉foot μ/\W.h₀.get? a=AE:=
 B.elim (λe=>e▸⟨x.out,x.old⟩) λJ=>J.elim λn hn=>⟨(x.cell n a hn).out,(x.cell n a hn).old⟩
def FO.n3:ky (own env) h:=λa o ha B=>let ⟨_,J,q⟩:=x.Pg ha;ai (J.symm.trans B)▸q
end
def eH.n3(x:eH W μ F h env):ky (own env) h:=x.casesOn λy=>y.n3
def eH.Pf(x:eH W μ F h env)(C:h.get? I=AE):¬own env I:=λq=>x.casesOn λy=>(y.Pg q).elim λz J=>J.elim λB z=>au<|C.symm.trans B
def FO.to(x:FO W μ F h env m cm)(E:Kp μ h μ' h')(k:∀a o,own env a->h.get? a=AA o->h'.get? a=AA o):FO W μ' F h' env m cm where
 ns:=PK x.ns λo=>k _ o<|.inl rfl
 out:=(zW x.ns).elim λy J=>J.elim λB y=>E.nf x.out B
 old:=x.old
 cell:=λn c hc=>have q:=x.cell n c hc;(Eh q.is).elim λy J=>J.elim λB y=>⟨Ks q.is λo=>k _ o<|.inr ⟨n,hc⟩,E.nf q.out B,q.old,q.ne⟩
 apart:=x.apart
 loc:=λnm v hn e k=>(x.loc nm v hn e k).kp E
 dT:=λnm v hn e k=>(x.dT nm v hn e k).kp E
def eH.to(x:eH W μ F h env)(E:Kp μ h μ' h')(k:∀a o,own env a->h.get? a=AA o->h'.get? a=AA o):eH W μ' F h' env:=x.casesOn λy=>⟨y.to E k⟩
def eH.ext(x:eH W μ F h env)(E:Ext μ h μ' h'):eH W μ' F h' env:=x.casesOn λy=>⟨y.to (E.kp .none) λa o q e=>E.keep a o e (y.HG q).1 id⟩
structure Fr(W:Wd)(n:Nat)(Y:Ac)(env:Bp)(A:Ab)(μ:Mu)(H:AH)(F:ae)(s:AG):Prop where
 wk:nF W
 eo:iA Y env
 rb:Rb A n
 N:bC W μ H s.heap
 fo:eH W μ F s.heap env
section
variable(K:Fr W n Y env A μ H F s)
def Fr.ok:Ok W n A μ H s:=⟨K.wk,K.rb.rm,K.N⟩
def Fr.nx(X:cF W μ s H' μ' s'):Fr W n Y env A μ' H' F s':=⟨K.wk,K.eo,K.rb,X.N,K.fo.ext X.E⟩
end
structure w8(W:Wd)(X:AJ->Prop)(env:Bp)(μ:Mu)(s:AG)(F':ae)(H':AH)(μ':Mu)(s':AG):Prop where
 g:s'.gens=s.gens
 o:s'.os=s.os
 E:cS X μ s.heap μ' s'.heap
 N:bC W μ' H' s'.heap
 fo:eH W μ' F' s'.heap env
abbrev gr(W:Wd)(env:Bp):=w8 W (own env) env
section
variable(K:Fr W n Y env A μ H F s)
def Fr.sx(X:cF W μ s H' μ' s'):gr W env μ s F H' μ' s':=⟨X.g,X.o,X.E.any,X.N,K.fo.ext X.E⟩
def Fr.s0{tk:Nat}:gr W env μ s F H μ {s with toks:=tk}:=⟨rfl,rfl,.refl,K.N,K.fo⟩
def Fr.tH(X:gr W env μ s F' H' μ' s'):Fr W n Y env A μ' H' F' s':=⟨K.wk,K.eo,K.rb,X.N,X.fo⟩
end
def gr.trans{J:ae}(x:gr W env μ s F' H' μ' s')(y:gr W env μ' s' J H'' μ'' s''):gr W env μ s J H'' μ'' s'':=⟨y.g.trans x.g,y.o.trans x.o,x.E.trans y.E,y.N,y.fo⟩
def Ph(x:FO W μ F h env m cm)(N:bC W μ H h){b:AJ}(C:own env b)(D:AS b h h')(T:∃o,h'.get? b=AA o):cS (·=b) μ h μ h'/\Kp μ h μ h'/\bC W μ H h':=
 have J:=x.HG C;have k:=oA D;have E:=.one J.1 rfl k T;have B:=E.kp λa o e=>x.n3 a o<|e▸C
 ⟨E,B,N.to B (λa o m e=>k a o (λq=>J.1<|q▸m) e) λa o L e=>k a o (λq=>au<|J.2.symm.trans (q▸L)) e⟩
def tn(J:eB x)(B:eB nm)(e:upd F (aq x) v (aq nm)=AA u):(nm=x/\u=v)\/(nm≠x/\F (aq nm)=AA u):=by
 unfold upd at e;split at e
 .rename_i q;show .inl ⟨xW B J q,(ai e).symm⟩
 rename_i q;show .inr ⟨λr=>q<|r▸rfl,e⟩
def zv(m:AN->Option AF)(x:AN)(J:AF):AN->Option AF:=λy=>if y=x then AA J else m y
def HR:zv m x cv x=AA cv:=aC rfl
def HS(h:y≠x):zv m x cv y=m y:=aB h
set_option tactic.hygienic true in
def Q7(B:eH W μ F s.heap env)(N:bC W μ H s.heap)(O:iA Y env)(S:Y.names.lookup x=AA .local)(C:eB x)(P:VR μ s.heap v cv)
  (k:∀{s'},w8 W (·=env.locals) env μ s (upd F (aq x) v) H μ s'->R () s'):AQ M A (storeName env x cv) R E s:=by
 obtain⟨B⟩:=B;rename_i m cm;have G:=O.loc x S;refine wpAny_storeName_local G B.ns (λh' hn Z=>?_) (by rw[O.kind];rfl)
 obtain⟨o,I,_⟩:=zW hn;obtain⟨j,D,X⟩:=Ph B N (.inl rfl) Z ⟨o,I⟩;refine k ⟨rfl,rfl,j,X,⟨(⟨hn,B.out,B.old,λn c hc=>?_,B.apart,λnm u J e kk=>?_,λnm u J e kk=>?_⟩:FO W μ _ h' env (zv m x cv) cm)⟩⟩
 .have q:=B.cell n c hc;show⟨Ks q.is λo e=>oA Z c o q.ne e,q.out,q.old,q.ne⟩
 .rcases tn C J e with ⟨L,K⟩|⟨T,e⟩
  .show⟨L▸HR,K▸P.kp D⟩
  obtain⟨Q,r⟩:=B.loc nm u J e kk;show⟨(HS T).trans Q,r.kp D⟩
 rcases tn C J e with ⟨L,_⟩|⟨_,e⟩
 .rw[L,G] at kk;rcases kk with kk|kk<;>rcases kk with _|_
 show(B.dT nm u J e kk).kp D
def w8.own(x:w8 W X env μ s F' H' μ' s')(h:∀a,X a->Mine.own env a):gr W env μ s F' H' μ' s':=⟨x.g,x.o,x.E.weaken h,x.N,x.fo⟩
set_option tactic.hygienic true in
def rE(B:eH W μ F s.heap env)(N:bC W μ H s.heap)(Z:iA Y env)(T:Y.names.lookup x=AA .local\/Y.names.lookup x=AA .cell)(D:eB x)(K:VR μ s.heap v cv)
  (k:∀{s'},gr W env μ s (upd F (aq x) v) H μ s'->R () s'):AQ M A (storeName env x cv) R E s:=by
 rcases T with T|T;show Q7 B N Z T D K λX=>k (X.own λa e=>.inl e);obtain⟨B⟩:=B;rename_i m cm;have I:=Z.cell x T;obtain⟨c,hc⟩:=Z.cells x<|.inl T;have q:=B.cell x c hc;refine wpAny_storeName_cell Z.kind I hc q.is λh' L S=>?_;obtain⟨o,Q,_⟩:=Eh L;obtain⟨g,O,y⟩:=Ph B N (.inr ⟨x,hc⟩) S ⟨o,Q⟩;refine k ⟨rfl,rfl,g.weaken<|λa e=>.inr ⟨x,(show a=c from e)▸hc⟩,y,⟨(⟨B.ns.sameBut S<|ku q.ne,B.out,B.old,λn c' J=>?_,B.apart,λnm u C e kk=>?_,λnm u C e kk=>?_⟩:FO W μ _ h' env m<|zv cm x cv)⟩⟩
 .have r:=B.cell n c' J;refine⟨?_,r.out,r.old,r.ne⟩;by_cases hn:n=x
  .rw[hn] at J ⊢;rw[HR,<-ai<|hc.symm.trans J];show L
  rw[HS hn];show r.is.sameBut S λe=>hn<|B.apart _ _ _ J (e▸hc)
 .rcases tn D C e with ⟨G,_⟩|⟨_,e⟩
  .rw[G,I] at kk;rcases kk with _|_
  show(B.loc nm u C e kk).kp O
 rcases tn D C e with ⟨G,j⟩|⟨P,e⟩
 .show⟨G▸hc,G▸HR,j▸K.kp O⟩
 obtain⟨l,z,r⟩:=B.dT nm u C e kk;show⟨l,(HS P).trans z,r.kp O⟩
def isVar(Y:Ac)(x:AN):Bool:=match Y.names.lookup x with
 |some .local|some .cell|some .free=>AB|_=>AD
def eW(Y:Ac)(x:AN):Bool:=match Y.names.lookup x with
 |some .local|some .cell=>AB|_=>AD
def dH(x:AN):Bool:=x.cps.toList.all λc=>decide<|c<256/\c≠46
def jH(h:dH x=AB):eB x:=λc hc=>dK<|Sl.mp h c hc
def qZ(h:eW Y x=AB):Y.names.lookup x=AA .local\/Y.names.lookup x=AA .cell:=by
 unfold eW at h;generalize Y.names.lookup x=o at h;rcases o with _|k
 .rcases h with _|_
 rcases k with _|_<;>first|show .inl rfl|show .inr rfl|rcases h with _|_
def ZI(h:isVar Y x=AB):Y.names.lookup x=AA .local\/Y.names.lookup x=AA .cell\/Y.names.lookup x=AA .free:=by
 unfold isVar at h;generalize Y.names.lookup x=o at h;rcases o with _|k
 .rcases h with _|_
 rcases k with _|_<;>first|show .inl rfl|show .inr (.inl rfl)|show .inr (.inr rfl)|rcases h with _|_
def OV(D:eH W μ F s.heap env)(C:iA Y env)(G:isVar Y x=AB)(L:eB x)(Z:(x == ("__classdict__":AN))=AD)(e:F (aq x)=AA v)
  {M:Model} (h:∀cv,VR μ s.heap v cv->Q cv s):AQ M A (loadName env x) Q E s:=by
 obtain⟨D⟩:=D;have B:env.kindOf x=AA .cell\/env.kindOf x=AA .free->AQ M A (loadName env x) Q E s:=λk=>by
  obtain⟨l,T,r⟩:=D.dT x v L e k;have J:=(D.cell x _ l).is;rw[T] at J;show k.elim (λk=>wpAny_loadName_cell C.kind k l J<|h _ r) λk=>wpAny_loadName_free C.kind k l J (h _ r) Z
 rcases ZI G with k|k|k
 .obtain⟨T,r⟩:=D.loc x v L e<|C.loc x k;show wpAny_loadName_local C.kind (C.loc x k) D.ns T<|h _ r
 show B<|.inl (C.cell x k);show B<|C.free x k
end
def KE(W:Wd)(μ:Mu)(s:AG)(Q:V->AH->Prop)(R:AF->AG->Prop):Prop:=∀{v:V} {H':AH} {μ':Mu} {cv:AF} {s':AG},Q v H'->cF W μ s H' μ' s'->VR μ' s'.heap v cv->R cv s'
def KL(W:Wd)(μ:Mu)(s:AG)(Q:List V->AH->Prop)(R:List AF->AG->Prop):Prop:=∀{vs:List V} {H':AH} {μ':Mu} {cvs:List AF} {s':AG},Q vs H'->cF W μ s H' μ' s'->aT μ' s'.heap vs cvs->R cvs s'
def KT(W:Wd)(μ:Mu)(s:AG)(Q:V->Bool->AH->Prop)(R:Bool->AG->Prop):Prop:=∀{v:V} {t:Bool} {H':AH} {μ':Mu} {s':AG},Q v t H'->iu H' t v->cF W μ s H' μ' s'->R t s'
def SE(W:Wd)(n:Nat)(Y:Ac)(e:IE)(x:AK):Prop:=∀⦃F:ae⦄ ⦃H:AH⦄ ⦃Q:V->AH->Prop⦄ ⦃env:Bp⦄ ⦃A:Ab⦄ ⦃s:AG⦄ ⦃μ:Mu⦄ ⦃R:AF->AG->Prop⦄,bV W n e F H Q->Fr W n Y env A μ H F s->KE W μ s Q R->Wp W A (eval x env) R s
def ST(W:Wd)(n:Nat)(Y:Ac)(e:IE)(x:AK):Prop:=∀⦃F:ae⦄ ⦃H:AH⦄ ⦃Q:V->Bool->AH->Prop⦄ ⦃env:Bp⦄ ⦃A:Ab⦄ ⦃s:AG⦄ ⦃μ:Mu⦄ ⦃R:Bool->AG->Prop⦄,bV W n e F H (λv H=>Tq v H λt=>Q v t H)->Fr W n Y env A μ H F s->KT W μ s Q R->Wp W A (isTrue x env<|eval x env) R s
def noStar(x:AK):Bool:=x.ctorIdx != 22
inductive gq(W:Wd)(n:Nat)(Y:Ac):fI->List AK->Prop
 |nil:gq W n Y .nil []|cons {ie:IE} {ies:fI} {x:AK} {xs:List AK}:SE W n Y ie x->noStar x=AB->gq W n Y ies xs->gq W n Y (.cons ie ies) (x::xs)
abbrev fI.two(a b:IE):fI:=.cons a<|.cons b .nil
abbrev fI.one(a:IE):fI:=.cons a .nil
variable{Q:V->AH->Prop}{o:Op}{a b e:IE}{x xa xb:AK}{es:fI}{xs rest:List AK}{t:Bool}{i:Int}{pos p:An}{u:AF}{op:Bc}
section
variable{F:ae}{R:AF->AG->Prop}
def KE.kc(k:KE W μ s Q R)(q:Q v H'):Kc W μ s H' v R:=λY_ r=>k q Y_ r
def vZ(e:bV W n (.op o<|.one a) F H Q):bV W n a F H λu H=>Seq (Prim W o [u] H) Q:=e
def tL(e:bV W n (.op o<|.two a b) F H Q):bV W n a F H λu H=>bV W n b F H λx H=>Seq (Prim W o [u,x] H) Q:=e
def op3{c:IE}(e:bV W n (.op o<|.cons a (.two b c)) F H Q):bV W n a F H λu H=>bV W n b F H λx H=>bV W n c F H λy H=>Seq (Prim W o [u,x,y] H) Q:=e
def lR(h:noStar x=AB)(xs:List AK)(env:Bp):Ad (x::xs) env=(AD,eval x env)::Ad xs env:=by
 rcases x with _|_<;>first|rfl|rcases h with _|_
theorem v5:∀{xs:List AK},xs.all noStar=AB->∀(env:Bp) (pos:An),(A1 pos<|Ad xs env).any (·.1)=AD
 | []=>λy y y=>rfl|x::xs=>λh env pos=>by
  rw[uJ,eQ] at h;rw[lR h.1];show v5 h.2 env pos
def gq.Cp(h:gq W n Y es xs):xs.all noStar=AB:=by
 induction h with
 |nil=>rfl|cons C B _ J=>rw[uJ,B,J];rfl
def gq.all(h:gq W n Y es xs):∀{F:ae} {H:AH} {Q:List V->AH->Prop} {env:Bp} {A:Ab} {s:AG} {μ:Mu} {R:List AF->AG->Prop} {pos:An},m5 W n es F H Q->Fr W n Y env A μ H F s->KL W μ s Q R->Wp W A (BI<|A1 pos (Ad xs env)) R s:=by
 induction h with
 |nil=>show λe K k=>uc (k e (cF.refl K.N) .nil)|cons D C _ J=>show λe K k=>r9 (D e K λT X hu=>J T (K.nx X) λq Y_ B=>k q (X.trans Y_)<|.cons (Y_.up hu) B)<|lR C _ _
def iu.uniq{u:Bool}(x:iu H t v)(y:iu H u v):t=u:=by
 induction x using iu.casesOn with
 |none e=>cases y with|none J=>show e.symm.trans J
 |bool e=>cases y with|bool J=>show e.symm.trans J
 |int e=>cases y with|int J=>show e.symm.trans J
 |lst hc e=>cases y with|lst B J=>show(e.symm.trans<|aF (λl:List V=>!l.isEmpty) (Cell.lst.inj<|ai (hc.symm.trans B))).trans J
def Vr{xs:List AF}(h:xs.length=l.length):(!xs.toArray.isEmpty)=!l.isEmpty:=by
 rcases l with _|_
 .rw[TG.mp h];rfl
 rcases xs with _|_
 .rcases h with _|_
 rfl
def wB(N:bC W μ H s.heap)(J:VR μ s.heap v cv)(e:iu H t v){R:Bool->AG->Prop}(k:∀tk,R t {s with toks:=tk}):Wp W A (Be cv) R s:=by
 induction e using iu.casesOn with
 |none e=>show J.ti (P:=λc=>Wp W A (Be c) R s) (bA<|e▸k s.toks)|bool e=>show J.rI (P:=λc=>Wp W A (Be c) R s) (wpAny_truthy_bool<|e▸k s.toks)|int e=>show J.cP (P:=λc=>Wp W A (Be c) R s) λu=>PyProof.Rows.truthy_int (e▸k s.toks)|lst hc e=>show jD N hc J (P:=λc=>Wp W A (Be c) R s) λy y y x r z=>wpAny_truthy_list x.is (bu▸r.length▸oG z)<|Vr r.length▸e▸k _
def ST.plain(h:SE W n Y e x)(J:∀env,isTrue x env (eval x env)=(do let v <-eval x env;BE x.pos;By [v]<|Be v)):ST W n Y e x:=λ{y y y env y y y y} e K k=>
 PyProof.Rows.isTrue_plain (h e K λq X r=>q.casesOn λt p=>wB X.N r t λtk=>k p t ⟨X.g,X.o,X.E,X.N⟩)<|J env
def SE.int:SE W n Y (.const<|.int i)<|.Constant (.int i) k pos:=λy y y y y y y y e K k=>wpAny_Constant_int<|k e (.refl K.N) .gX
def SE.str{x:AN}:SE W n Y (.const<|.str x.cps.toList)<|.Constant (.str x) k pos:=λ{y y y env A s y R} e K k=>(R8 (k e (.refl K.N)<|.zY):Wp W A (mkText x) R s)
def SE.bool{x:Bool}:SE W n Y (.const<|.bool x)<|.Constant (.bool x) k pos:=λ{y y y env A s y R} e K k=>(bA (k e (.refl K.N) .vW):Wp W A (Ae<|Value.bool x) R s)
def SE.aDQ:SE W n Y (.const .none)<|.Constant .none k pos:=λ{y y y env A s y R} e K k=>(bA (k e (.refl K.N) .of_none):Wp W A (Ae AX) R s)
def SE.neg:SE W n Y (.const<|.int (-i))<|.UnaryOp .USub (.Constant (.int i) k p) pos:=λ{y y y env A s y R} e K k'=>
 (aH (wpAny_Constant_int<|aH (fV<|fw (PyProof.Rows.neg_int<|k' e (.refl K.N) .gX))):Wp W A (do let v <-eval (.Constant (.int i) k p) env;BE pos;By [v]<|unaryOp .USub v) R s)
def SE.var{x:AN}(J:isVar Y x=AB)(B:dH x=AB)(D:(x == ("__classdict__":AN))=AD)(C:(x == ("__debug__":AN))=AD):SE W n Y (.var<|aq x)<|.Name x pos:=λ{y y y y y s y y} e K k=>
 let ⟨h,q⟩:=e;wpAny_Name (OV K.fo K.eo J (jH B) D h λy r=>k q (.refl K.N) r) C
def SE.YI{x:AN}(J:Y.names.lookup x=AA .globalImplicit)(C:W.mJ x=AA i)(D:(x == ("__debug__":AN))=AD):SE W n Y (.const<|.int i)<|.Name x pos:=λ{y y y y y s y y} e K k=>by
 obtain⟨t,B⟩:=K.wk.int x i C;show JV K.eo.kind (K.eo.glob x J) (loadGlobal_global (K.eo.g▸K.wk.g.keeps K.N.base) B<|k e (.refl K.N) .gX) D
section
variable(K:Fr W n Y env A μ H F s)
def name_fn{x:AN}(J:Y.names.lookup x=AA .globalImplicit)(B:W.mg x=AA u)(C:(x == ("__debug__":AN))=AD)(h:R u s):Wp W A (eval (.Name x pos) env) R s:=
 JV K.eo.kind (K.eo.glob x J) (loadGlobal_global (K.eo.g▸K.wk.g.keeps K.N.base) B h) C
def tA{x:AN}(B:Y.names.lookup x=AA .globalImplicit)(J:x∈W.f5)(C:Bj x=AA u)(D:(x == ("__debug__":AN))=AD)(h:R u s):Wp W A (eval (.Name x pos) env) R s:=
 JV K.eo.kind (K.eo.glob x B) (loadGlobal_builtin (K.eo.g▸K.wk.g.keeps K.N.base) (K.wk.free x J).1 (K.eo.b▸K.wk.b.keeps K.N.base) ((K.wk.blt x (K.wk.free x J).2).trans C) h) D
end
section
variable(ha:SE W n Y a xa)(hb:SE W n Y b xb)
def SE.both{Q:V->V->AH->Prop}(e:bV W n a F H λu H=>bV W n b F H λx H=>Q u x H)(K:Fr W n Y env A μ H F s){P:AF->AF->AG->Prop}
  (k:∀{u x:V} {H':AH} {μ':Mu} {C B:AF} {s':AG},Q u x H'->cF W μ s H' μ' s'->VR μ' s'.heap u C->VR μ' s'.heap x B->P C B s'):Wp W A (eval xa env) (λC s₁=>Wp W A (eval xb env) (λB J=>P C B J) s₁) s:=
 ha e K λT X hu=>hb T (K.nx X) λq Y_ D=>k q (X.trans Y_) (Y_.up hu) D
def SE.bin{J:AZ}:SE W n Y (.op (.bin J)<|.two a b)<|.BinOp xa J xb pos:=λy y y y y y y y e K k=>
 wpAny_BinOp<|SE.both ha hb (tL e) K λp X hu B=>p.casesOn λp q=>p (K.nx X).ok hu B λY_ r=>k q (X.trans Y_) r
def SE.cmp(B:BW op xb=AD):SE W n Y (.op (.cmp op)<|.two a b)<|.Compare xa [op] [xb] pos:=λy y y y y y y y e K k=>
 wpAny_Compare1 (SE.both ha hb (tL e) K λp X hu J=>p.casesOn λp q=>p (K.nx X).ok hu J λY_ r=>k q (X.trans Y_) r) B
end
def RU{Q:V->Bool->AH->Prop}{R:Bool->AG->Prop}(X:cF W μ s H' μ' s')(r:VR μ' s'.heap v cv)(q:Tq v H' λt=>Q v t H')(k:KT W μ s Q R):Wp W A (Be cv) R s':=q.casesOn λt p=>wB X.N r t λy=>k p t ⟨X.g,X.o,X.E,X.N⟩
def ST.cmp(D:SE W n Y a xa)(C:SE W n Y b xb)(B:BW op xb=AD):ST W n Y (.op (.cmp op)<|.two a b)<|.Compare xa [op] [xb] pos:=λy y y y y y y y e K k=>
 aIO (SE.both D C (tL e) K λp X hu J=>p.casesOn λp q=>p (K.nx X).ok hu J λY_ r=>RU (X.trans Y_) r q k) B
def cF.tok{tk:Nat}(X:cF W μ s H' μ' s'):cF W μ s H' μ' {s' with toks:=tk}:=⟨X.g,X.o,X.E,X.N⟩
section
variable(ha:SE W n Y a xa)
def SE.and(B:SE W n Y b<|.BoolOp .And (xb::rest) pos):SE W n Y (.and a b)<|.BoolOp .And (xa::xb::rest) pos:=λ{F H Q env A s μ R} e K k=>by
 change Wp W A (do
  let v <-eval xa env
  BE pos
  let t <-By [v]<|Be v
  match BoolOp.And,t with
  | .And,AD| .Or,AB=>Ae v|_,_=>boolOp pos .And<|eval xb env::evalEach rest env) R s
 refine aH (ha e K λq X r=>aH<|fV (aH<|fw ?_));obtain⟨h,p⟩:=q;refine wB X.N r h λtk=>?_;split at p
 .rename_i J;subst J;show B p (K.nx X.tok) λq Y_ r=>k q (X.tok.trans Y_) r
 rename_i J;rw[Bool.eq_false_iff.mpr J];show bA<|k p X.tok r
def SE.or(B:SE W n Y b<|.BoolOp .Or (xb::rest) pos):SE W n Y (.or a b)<|.BoolOp .Or (xa::xb::rest) pos:=λ{F H Q env A s μ R} e K k=>by
 change Wp W A (do
  let v <-eval xa env
  BE pos
  let t <-By [v]<|Be v
  match BoolOp.Or,t with
  | .And,AD| .Or,AB=>Ae v|_,_=>boolOp pos .Or<|eval xb env::evalEach rest env) R s
 refine aH (ha e K λq X r=>aH<|fV (aH<|fw ?_));obtain⟨h,p⟩:=q;refine wB X.N r h λtk=>?_;split at p
 .rename_i J;rw[J];show bA<|k p X.tok r
 rename_i J;rw[Bool.eq_false_iff.mpr J];show B p (K.nx X.tok) λq Y_ r=>k q (X.tok.trans Y_) r
def SE.last{J:CP}:SE W n Y a<|.BoolOp J [xa] pos:=ha
end
section
variable(ha:ST W n Y a xa)
def ST.and(J:ST W n Y b<|.BoolOp .And (xb::rest) pos):ST W n Y (.and a b)<|.BoolOp .And (xa::xb::rest) pos:=λ{F H Q env A s μ R} e K k=>by
 change Wp W A (do
  match BoolOp.And,<-isTrue xa env (eval xa env) with
  | .And,AD=>Ae AD| .Or,AB=>Ae AB|_,_=>allTrue .And (xb::rest) env) R s
 refine aH (ha e K λ{v t y y y} q h X=>?_);rcases t with _|_
 .rw[aB aI] at q;obtain⟨h',q⟩:=q;show bA<|k (iu.uniq h' h▸q) h X
 show J (by rw[aC rfl] at q;show q) (K.nx X) λq h Y_=>k q h<|X.trans Y_
def ST.or(J:ST W n Y b<|.BoolOp .Or (xb::rest) pos):ST W n Y (.or a b)<|.BoolOp .Or (xa::xb::rest) pos:=λ{F H Q env A s μ R} e K k=>by
 change Wp W A (do
  match BoolOp.Or,<-isTrue xa env (eval xa env) with
  | .And,AD=>Ae AD| .Or,AB=>Ae AB|_,_=>allTrue .Or (xb::rest) env) R s
 refine aH (ha e K λ{v t y y y} q h X=>?_);rcases t with _|_;show J (by rw[aB aI] at q;show q) (K.nx X) λq h Y_=>k q h<|X.trans Y_
 rw[aC rfl] at q;obtain⟨h',q⟩:=q;show bA<|k (iu.uniq h' h▸q) h X
def ST.aBf:ST W n Y a<|.BoolOp .And [xa] pos:=λ{F H Q env A s μ R} e K k=>by
 change Wp W A (do
  match BoolOp.And,<-isTrue xa env (eval xa env) with
  | .And,AD=>Ae AD| .Or,AB=>Ae AB|_,_=>allTrue .And [] env) R s
 refine aH (ha e K λ{v t y y y} q h X=>?_);rcases t with _|_<;>show bA<|k q h X
def ST.aBg:ST W n Y a<|.BoolOp .Or [xa] pos:=λ{F H Q env A s μ R} e K k=>by
 change Wp W A (do
  match BoolOp.Or,<-isTrue xa env (eval xa env) with
  | .And,AD=>Ae AD| .Or,AB=>Ae AB|_,_=>allTrue .Or [] env) R s
 refine aH (ha e K λ{v t y y y} q h X=>?_);rcases t with _|_<;>show bA<|k q h X
end
end
variable{R:AF->AG->Prop}{xc xi:AK}{i:IE}
section
variable{F:ae}
def ST.not(J:ST W n Y a xa):ST W n Y (.not a)<|.UnaryOp .Not xa pos:=λ{F H Q env A s μ R} e K k=>
 (aH (J e K λq h X=>by
  obtain⟨h',p⟩:=q;show bA<|by cases h' with|bool e=>show e▸k p (.bool e) X):Wp W A (do return !(<-isTrue xa env<|eval xa env)) R s)
def SE.not(J:SE W n Y a xa):SE W n Y (.not a)<|.UnaryOp .Not xa pos:=λ{F H Q env A s μ R} e K k=>
 (aH (J e K λq X r=>aH<|fV (fw<|q.casesOn λh p=>PyProof.Rows.not_of (wB X.N r h λy=>k p X.tok .vW))):Wp W A (do let v <-eval xa env;BE pos;By [v]<|unaryOp .Not v) R s)
def SE.ite{c:IE}(J:ST W n Y c xc)(C:SE W n Y a xa)(B:SE W n Y b xb):SE W n Y (.ite c a b)<|.IfExp xc xa xb pos:=λ{F H Q env A s μ R} e K k=>
 (aH (J e K λ{y t y y y} q y X=>by
  induction t using Bool.casesOn with
  |true=>show C (by rw[aC rfl] at q;show q) (K.nx X) λq Y_ r=>k q (X.trans Y_) r|false=>show B (by rw[aB aI] at q;show q) (K.nx X) λq Y_ r=>k q (X.trans Y_) r):Wp W A (do if <-isTrue xc env (eval xc env) then eval xa env else eval xb env) R s)
def SE.tup(h:gq W n Y es xs):SE W n Y (.op .tup es)<|.Tuple xs k pos:=λ{F H Q env A s μ R} e K k=>
 (aH (fV (aH (h.all e K λp X r=>by
  obtain⟨p,q⟩:=p
  induction p using EG.casesOn with
  |mk z=>show kj (y6 X.N r z (cO _ _) (iU _) .new λY_ r=>k q (X.trans Y_) r) (by change(List.toArray _).size<=Ba;rw[bu,r.length];show fq z)))):Wp W A (do BE pos;newTuple<|<-BI (A1 pos<|Ad xs env)) R s)
def SE.lst(h:gq W n Y es xs):SE W n Y (.op .lst es)<|.List xs pos:=λ{F H Q env A s μ R} e K k=>
 (aH (fV (aH (h.all e K λp X r=>by
  obtain⟨⟨z,p⟩,q⟩:=p;show kj (nj p X.N r z (cO _ _) (iU _) .new λY_ r=>k q (X.trans Y_) r) (by change(List.toArray _).size<=Ba;rw[bu,r.length];show fq z)))):Wp W A (do BE pos;newList<|<-BI (A1 pos<|Ad xs env)) R s)
def SE.dict:SE W n Y (.op .hN .nil)<|.Dict [] [] pos:=λ{F H Q env A s μ R} e K k=>by
 obtain⟨p,q⟩:=e;rw[eval_Dict_empty];show aH<|fV (kj (aCw p K.N λY_ r=>k q Y_ r)<|by size_fits)
def G7(x:AK):Bool:=x.ctorIdx != 26
def aDY(h:G7 xi=AB)(o i:AF):subscripted xi AD o i=operate [o,i] (AP o i):=by
 rcases xi with _|_<;>first|rfl|rcases h with _|_
def dI.tail{g:AF×AF}{C:List AF}{J B:AF}(x:dI W A s J (AP J B) R)(h:subscripted xi AD J B=operate C (AP J B)):Wp W A (subscriptTail xa xi J B) R s:=x.casesOn λD hl w=>tail_any D hl w h
def SE.sub(D:SE W n Y a xa)(C:SE W n Y i xi)(J:G7 xi=AB):SE W n Y (.op .sub<|.two a i)<|.Subscript xa xi pos:=λy y y y y y y y e K k=>
 Subscript_ (SE.both D C (tL e) K λ{y y y y L T y} p X hu B=>by
  obtain⟨p,q⟩:=p
  cases p with
  |mk p=>show(p (K.nx X).ok hu B λY_ r=>k q (X.trans Y_) r).tail (g:=(L,T))<|aDY J _ _)
def SE.attr{J:AN}(D:SE W n Y a xa)(B:J∈W.attrs)(C:∀env,B7 xa J env (eval xa env)=eval xa env):SE W n Y (.op (.attr<|aq J)<|.one a)<|.Attribute xa J pos:=λ{F H Q env A s μ R} e K k=>by
 change Wp W A (do
  let o <-B7 xa J env<|eval xa env
  BE pos.atName
  let r <-By [o]<|getAttr o J AB
  letTemporaryGo xa o r
  Ae r) R s
 rw[C];refine aH (D (vZ e) K λp X hu=>aH<|fV (aH<|fw ?_));obtain⟨p,q⟩:=p
 cases p with
 |mk p=>show KU K.wk X.N B hu p λY_ r=>aH<|wpAny_letTemporaryGo (bA<|k q (X.trans Y_) r)
def Hn{T L:Option AK}{Q:AF->AG->Prop}
  (h:AQ M A (eval xa env) (λo s₁=>AQ M A (evalPart T env) (λl B=>AQ M A (evalPart L env) (λu J=>
   AQ M A (subscriptTail xa (.Slice T L AE p) o<|.ref J.heap.objs.size) Q E {J with heap:=J.heap.push<|pW l u}) E B) E s₁) E s):
  AQ M A (eval (.Subscript xa (.Slice T L AE p) pos) env) Q E s:=
 Subscript_<|oQ h (λo s₁ h₁=>wpAny_Slice<|oQ h₁ (λl B D=>oQ D (λu J C=>bA C) λy y e=>e) λy y e=>e) λy y e=>e
section
variable(ha:SE W n Y a xa)(hb:SE W n Y b xb)
def SE.lV:SE W n Y (.op .lV<|.two a b)<|.Subscript xa (.Slice AE (AA xb) AE p) pos:=λy y y y y y y y e K k=>
 Hn<|ha (tL e) K λB X hu=>bA (hb B (K.nx X) λp Y_ J=>p.casesOn λp q=>(p ((K.nx X).nx Y_).ok (Y_.up hu) J λC r=>k q ((X.trans Y_).trans C) r).tail (g:=(.none,.none)) rfl)
def SE.je:SE W n Y (.op .je<|.two a b)<|.Subscript xa (.Slice (AA xb) AE AE p) pos:=λy y y y y y y y e K k=>
 Hn<|ha (tL e) K λB X hu=>hb B (K.nx X) λp Y_ J=>bA (p.casesOn λp q=>(p ((K.nx X).nx Y_).ok (Y_.up hu) J λC r=>k q ((X.trans Y_).trans C) r).tail (g:=(.none,.none)) rfl)
def SE.cut{d:IE}{B:AK}(T:SE W n Y d B):SE W n Y (.op .cut<|.cons a (.two b d))<|.Subscript xa (.Slice (AA xb) (AA B) AE p) pos:=λy y y y y y y y e K k=>
 Hn<|ha (op3 e) K λM X hu=>hb M (K.nx X) λL Y_ D=>T L ((K.nx X).nx Y_) λp J C=>p.casesOn λp q=>(p (((K.nx X).nx Y_).nx J).ok ((Y_.trans J).up hu) (J.up D) C λU r=>k q (((X.trans Y_).trans J).trans U) r).tail (g:=(.none,.none)) rfl
end
end
inductive l8:List (List Nat)->List AK->Prop
 |nil:l8 [] []|cons {x:AN} {k:Nat} {p:An} {l:List (List Nat)} {xs:List AK}:l8 l xs->l8 (x.cps.toList::l) (.Constant (.str x) k p::xs)
inductive l9:List (List Nat)->List AF->Prop
 |nil:l9 [] []|cons {x:List Nat} {t:Tok} {l:List (List Nat)} {vs:List AF}:l9 l vs->l9 (x::l) (.str ⟨x.toArray⟩ t::vs)
def F1.nm:F1->AN
 | .len=>"len"| .sorted=>"sorted"| .list=>"list"| .tuple=>"tuple"| .str=>"str"
variable{u:V}{first cvs:List AF}{f:Nat}{p' pos':An}
section
variable{F:ae}
structure CE(W:Wd)(n:Nat)(Y:Ac)(e:IE)(x:AK):Prop where
 se:SE W n Y e x
 st:ST W n Y e x
def Em(C:SE W n Y a xa)(B:BW op xb=AD)
  (h:∀{env:Bp} {A:Ab} {s:AG} {μ:Mu} {H:AH} {F:ae} {u v:V} {H':AH} {D:AF} {R:AF->AG->Prop},Fr W n Y env A μ H F s->VR μ s.heap u D->Prim W o [u] H v H'->Kc W μ s H' v R->Wp W A (eval xb env) (λT J=>Wp W A (AI op D T) R J) s):
  CE W n Y (.op o<|.one a) (.Compare xa [op] [xb] pos):=
 ⟨λy y y y y y y y e K k=>wpAny_Compare1 (C (vZ e) K λp X hu=>p.casesOn λp q=>h (K.nx X) hu p λY_ r=>k q (X.trans Y_) r) B,
  λy y y y y y y y e K k=>aIO (C (vZ e) K λp X hu=>p.casesOn λp q=>h (K.nx X) hu p λY_ r=>RU (X.trans Y_) r q k) B⟩
def aDV(J:VR μ h u cu):(!(cu == AX))=yL u:=by
 rcases u with _|_;show J.ti (P:=λc=>(!(c == AX))=AD) rfl;show J.rI (P:=λc=>(!(c == AX))=AB) rfl;show J.cP (P:=λc=>(!(c == AX))=AB) λy=>rfl;show J.hZ (P:=λc=>(!(c == AX))=AB) λy=>rfl;show J.gf (P:=λc=>(!(c == AX))=AB) λy y y y y y=>rfl;show J.th (P:=λc=>(!(c == AX))=AB) λy y y y y y=>rfl;show J.rJ (P:=λc=>(!(c == AX))=AB) λy y=>rfl
def SE.n4(B:SE W n Y a xa):CE W n Y (.op .n4<|.one a)<|.Compare xa [.IsNot] [.Constant .none k p] pos:=
 Em B rfl λ{y y s y y y y y y D R} K hu e c=>by
  induction e using D9.casesOn with
  |mk=>show(bA (isNot_none<|aDV hu▸c.here K.N .vW):Wp W _ (Ae AX) (λC J=>Wp W _ (AI .IsNot D C) R J) s)
def aDD{a b:AJ}{xs:List AF}(B:s.heap.IsList a xs.toArray)(J:s.heap.IsList b #[])(C:A.units<BU)(e:xs.length=l.length):RcNeAt A s (.ref a) (.ref b)<|!l.isEmpty:=by
 rcases l with _|_
 .have h0:=TG.mp e;subst h0;show RcNeAt.lists (e:=λy=>AB) B J rfl C λj D=>absurd D<|uS j
 show RcNeAt.lists_lengths B J (by rw[bu,e];rfl) C
def SE.hO(C:SE W n Y a xa):CE W n Y (.op .hO<|.one a)<|.Compare xa [.NotEq] [.List [] p] pos:=
 Em C rfl λ{y A s y y y y y y B R} K hu e c=>by
  cases e with
  |mk hl=>
   refine(aH (fV<|aH (Calls.spliced_nil<|kj ?_ (by size_fits))):Wp W A (do BE p;newList<|<-BI []) (λD J=>Wp W A (AI .NotEq B D) R J) s)
   have k:=cO s.heap {cls:=.type "list",data:=.seq ([]).toArray};show hl.at K.N hu (P:=λB=>Wp W A (AI .NotEq B _) R _) λa xs x r z=>aDD (x.at<|k a).is ⟨_,eC _ rfl,rfl,0,rfl⟩ K.rb.rm.lt r.length _ _ _ _<|c (.grow K.N k) .vW
def l8.eval{l:List<|List Nat}(h:l8 l xs){Q:List AF->AG->Prop}:
  ∀{s:AG},(∀tk vs,l9 l vs->Q vs {s with toks:=tk})->AQ M A (BI<|A1 pos (Ad xs env)) Q E s:=by
 induction h generalizing Q with
 |nil=>show λ{s} h=>uc (h s.toks [] .nil)|@cons x k p l xs _ J=>show λ{s} h=>r9 (R8 (J (s:={s with toks:=s.toks+1}) λtk vs hv=>h tk (.str x s.toks::vs)<|.cons hv):AQ M A (mkText x) _ _ s)<|lR rfl _ _
def l9.any{l:List<|List Nat}(h:l9 l vs)(x:List Nat):vs.any (λy=>B8 ⟨x.toArray⟩ y)=l.contains x:=by
 induction h with
 |nil=>rfl|@cons y t l vs _ J=>
  rw[rV,I6,J];refine aF (·||_) ?_;change((⟨y.toArray⟩:AN) == ⟨x.toArray⟩)=_;rw[Cu,IW,kA,lB];show eq_comm
def l9.eq{l:List<|List Nat}(h:l9 l vs)(x:List Nat)(t:Tok):∀y∈vs,A2 A s y (.str ⟨x.toArray⟩ t)<|B8 ⟨x.toArray⟩ y:=by
 induction h with
 |nil=>show λz q=>aW q|@cons y t l vs _ J=>show λu hu=>(JJ.mp hu).elim (λe=>e▸Ih _ _ _ _)<|J u
def l9.len{l:List<|List Nat}(h:l9 l vs):vs.length=l.length:=by
 induction h with
 |nil=>rfl|cons _ J=>show aF (·+1) J
def l8.len{l:List<|List Nat}{vs:List AK}(h:l8 l vs):l.length=vs.length:=by
 induction h with
 |nil=>rfl|cons _ J=>show aF (·+1) J
def SE.fm{l:List<|List Nat}(M:SE W n Y a xa)(C:l8 l xs)(T:xs.length<'$'):CE W n Y (.op (.fm l)<|.one a)<|.Compare xa [.In] [.List xs p] pos:=
 Em M rfl λ{env A s z z z z z z D R} K hu e c=>by
  cases e with
  |mk=>
   refine hu.hZ (P:=λD=>Wp W A _ (λB J=>Wp W A (AI .In D B) R J) s) λt=>?_;refine(aH (fV<|aH (C.eval λtk vs hv=>?_)):Wp W A (do BE p;newList<|<-BI (A1 p<|Ad xs env)) (λB J=>Wp W A (AI .In _ B) R J) s);refine kj ?_ (by change vs.toArray.size<=Ba;rw[bu,hv.len,C.len];show aA (dc T) ⋯)
   show in_listAt _ ⟨_,eC _ rfl,rfl,0,rfl⟩ (λy L=>hv.eq _ t y<|Array.mem_toArray.mp L) (by rw[I4,hv.any];show c (.grow K.N<|cO _ _) .vW)
def Ee{f:AF}(B:CM W.K f=AB)(h:gq W n Y es xs)(K:Fr W n Y env A μ H F s){Q:List V->AH->Prop}(e:m5 W n es F H Q)
  (k:KL W μ s Q<|λcvs s₁=>Wp W A (call f<|first++cvs) R s₁):Wp W A (CF pos f first (A1 pos<|Ad xs env) []) R s:=by
 have hst:=h.Cp;have J:=h.all (pos:=pos) (R:=λcvs s₁=>W.K.In s₁.heap/\Wp W A (call f<|first++cvs) R s₁) e K λq X r=>⟨qh K.wk X.N,k q X r⟩
 induction h using gq.casesOn with
 |nil=>show callWith_K0 (qh K.wk K.N) B (k e (.refl K.N) .nil)|@cons ie C x rest L T D=>
  rw[uJ,eQ] at hst;show callWith_K K.wk.GK B J (lR hst.1 rest env)<|v5 hst.2 env pos
def FH{vs:List V}(q:Fn W n f vs H Q){a:AJ}(J:W.nS f=AA a)(K:Ok W n A μ H s)(r:aT μ s.heap vs cvs)(k:KE W μ s Q R):Wp W A (call (.ref a) cvs) R s:=
 wpAny_call<|q J K r λ{y y} q {y y y} X r=>k q X r
def SE.call{x:AN}(J:Y.names.lookup x=AA .globalImplicit)(C:W.mI x=AA f)(D:(x == ("__debug__":AN))=AD)(h:gq W n Y es xs):SE W n Y (.call f es)<|.Call (.Name x p) xs [] pos:=λ{F H Q y y y y y} e K k=>
 let ⟨a,ha,B⟩:=K.wk.fn x f C
 p0 (name_fn K J B D<|Ee (K.wk.FI f a ha) h K e λq X r=>FH q ha (K.nx X).ok r λq Y_ r=>k q (X.trans Y_) r)
section
variable(hst:(x::xs).all noStar=AB)
def xQ{J:String}{Q:AF->AG->Prop}
  (h:AQ M A (BI<|A1 pos (Ad (x::xs) env)) (λcvs s₁=>AQ M A (CA (.builtin J)<|first++cvs) Q E s₁) E s):
  AQ M A (CF pos (.builtin J) first (A1 pos<|Ad (x::xs) env) []) Q E s:=by
 have C:=v5 hst env pos;rw[uJ,eQ] at hst;rw[lR hst.1] at h C ⊢;show callWith_builtin C<|SQ h
def uk{Q:AF->AG->Prop}
  (h:AQ M A (BI<|A1 pos (Ad (x::xs) env)) (λcvs s₁=>AQ M A (CA (.type T) cvs) Q E s₁) E s):
  AQ M A (CF pos (.type T) [] (A1 pos<|Ad (x::xs) env) []) Q E s:=by
 have C:=v5 hst env pos;rw[uJ,eQ] at hst;rw[lR hst.1] at h C ⊢;show PySem.callWith_type C<|SQ h
end
def tK(h:noStar x=AB):[x].all noStar=AB:=by rw[uJ,h];rfl
def U3{f:F1}(J:noStar x=AB)(h:AQ M A (BI<|A1 pos (Ad [x] env)) (λcvs s₁=>AQ M A (CA f.fv cvs) R F0 s₁) F0 s):AQ M A (CF pos f.fv [] (A1 pos<|Ad [x] env) []) R F0 s:=by
 induction f using F1.casesOn with
 |len=>show xQ (tK J) h|sorted=>show xQ (tK J) h|_=>show uk (tK J) h
def W6(f:F1):Bj f.nm=AA f.fv:=by rcases f with _|_<;>decide+kernel
def W7(f:F1):(f.nm == ("__debug__":AN))=AD:=by rcases f with _|_<;>decide+kernel
def xG(B:SE W n Y a xa)(J:noStar xa=AB)(K:Fr W n Y env A μ H F s)(e:bV W n a F H Q){P:List AF->AG->Prop}
  (k:KE W μ s Q<|λC s₁=>P [C] s₁):Wp W A (BI<|A1 pos (Ad [xa] env)) P s:=
 r9 (B e K λq X r=>uc<|k q X r)<|lR J _ _
def SE.WZ{f:F1}(B:Y.names.lookup f.nm=AA .globalImplicit)(C:f.nm∈W.f5)(D:SE W n Y a xa)(J:noStar xa=AB):SE W n Y (.op (.f1 f)<|.one a)<|.Call (.Name f.nm p) [xa] [] pos:=λy y y y y y y y e K k=>
 p0<|tA K B C (W6 f) (W7 f) (U3 J<|xG D J K (vZ e) λp X hu=>p.casesOn λp q=>p (K.nx X).ok hu λY_ r=>k q (X.trans Y_) r)
def SE.aFp(J:Y.names.lookup ("set":AN)=AA .globalImplicit)(B:("set":AN)∈W.f5):SE W n Y (.op .q4 .nil)<|.Call (.Name "set" p) [] [] pos:=λ{F H Q y y y y y} e K k=>
 p0<|tA K J B d_ d_ (callWith_type0<|e.casesOn λp q=>p K.ok λY_ r=>k q Y_ r)
def SE.listRev(D:Y.names.lookup ("list":AN)=AA .globalImplicit)(T:("list":AN)∈W.f5)(B:Y.names.lookup ("reversed":AN)=AA .globalImplicit)(C:("reversed":AN)∈W.f5)
  (L:SE W n Y a xa) (J:noStar xa=AB):SE W n Y (.op .listRev<|.one a)<|.Call (.Name "list" p) [.Call (.Name "reversed" p') [xa] [] pos'] [] pos:=λy y y y y y y y e K k=>
 p0 (tA K D T d_ d_ (uk rfl (r9
  (p0 (tA K B C d_ d_ (uk (tK J) (xG L J K (vZ e) λp X hu=>p.casesOn λp q=>
   oQ (p (K.nx X).ok hu λY_ r=>k q (X.trans Y_) r) (λy y h=>uc h) λy y e=>e)))) (lR rfl _ _))))
end
abbrev PB(x:AK):Prop:=∀(nm:AN) (env:Bp),B7 x nm env (eval x env)=eval x env
variable{x:AN}{apos:An}{xo:AK}
section
variable{F:ae}
def SE.new{c:Nat}(i:Y.names.lookup x=AA .globalImplicit)(hf:W.mG x=AA c)(hd:(x == ("__debug__":AN))=AD)(h:gq W n Y es xs):SE W n Y (.new c es)<|.Call (.Name x p) xs [] pos:=λ{F H Q y A y y R} e K k=>by
 obtain⟨cA,O,l,L⟩:=K.wk.Kr x c hf;refine p0<|name_fn K i l hd (Ee (first:=[]) L h K (Q:=λvs H=>rp W n c vs H Q) e λ{vs v μ₁ cvs s₁} q X r=>wpAny_call ?_)
 obtain⟨G,q⟩:=q;obtain⟨fa,z,Z,M⟩:=K.wk.init c _ cA O G;have B:=(K.nx X).ok;obtain⟨J,g,d,tk,os⟩:=s₁;have f:W.K.In J:=qh (s:=⟨J,g,d,tk,os⟩) B.wk B.N;refine make_core (h:=J) (makes_of f<|K.wk.K5 c cA O) (looks_findIn f Z) (λS=>bind_fn f S<|lB.mp M) (.inl rfl) ?_;have w:∀b o,J.get? b=AA o->((J.push BL).push<|Cc cA J.objs.size).get? b=AA o:=λb o e=>cO _ _ _ _<|cO _ _ _ _ e;have I:(J.push BL).objs.size=J.objs.size+1:=wa ..;have o1:((J.push BL).push<|Cc cA J.objs.size).get? J.objs.size=AA BL:=cO _ _ _ _<|eC _ rfl;have o2:((J.push BL).push<|Cc cA J.objs.size).get? (J.objs.size+1)=AA (Cc cA J.objs.size):=I▸eC _ rfl;have f1:J.get? (J.objs.size+1)=AE:=I▸qY (cO J BL);have hn:∀a∈adr (J.objs.size+1,AA J.objs.size),J.get? a=AE:=Rc (P:=λa=>J.get? a=AE) rfl f1<|iU _;have T:=B.N.push (c:=.inst c []) w hn (List.nodup_cons.mpr ⟨λm=>Nat.succ_ne_self _<|JK.mp m,List.nodup_cons.mpr ⟨eL,d7⟩⟩) ⟨rfl,O,rfl,⟨o2,rfl,rfl,o1⟩,.nil,d7⟩ λy e=>au e;have D:cF W μ₁ ⟨J,g,d,tk,os⟩ (v++[.inst c []]) (μ₁.push (J.objs.size+1,AA J.objs.size)) ⟨(J.push BL).push<|Cc cA J.objs.size,g,d,tk,os⟩:=⟨rfl,rfl,xl w hn,T⟩;have C:=QD B.N (J.objs.size+1,AA J.objs.size);refine codeAny_mono (q z (R:=λu s'=>u=.none/\R (.ref<|J.objs.size+1) s') ⟨K.wk,K.rb.made cA cvs,T⟩ (.cons (.vY C)<|D.ups r) λ{y y} q {y y y} Y_ t=>?_) λr s' j=>?_
 .obtain⟨e,q⟩:=q;show(e▸t:VR _ _ .none _).ti (P:=λu=>u=AX/\R _ _) ⟨rfl,k q ((X.trans D).trans Y_)<|.vY (lO Y_.E.pre C)⟩
 cases r with
 |error e=>show j.elim|ok fl=>
  rcases fl with _|_|_|u;show j.elim;show j.elim;show j.elim;show j
def UN(h:xs.all noStar=AB)(B:xs.length<25)(env:Bp)(pos:An):
  methodCallForm (xs.length+([]:List CI).length) (A1 pos<|Ad xs env) (backToKw pos<|keywordEach [] env)=AB:=by
 change((A1 pos<|Ad xs env).all (λx=>!x.1)&&(backToKw pos<|keywordEach [] env).all (λx=>x.1.isSome)&&decide (xs.length+([]).length+(if ([]).isEmpty then 0 else 1)<30))=AB
 rw[eQ,eQ];refine⟨⟨Sl.mpr λx J=>?_,rfl⟩,a6<|b6 B ⋯⟩
 have:=List.any_eq_false.mp (v5 h env pos) x J
 rw[SP] at this;rw[this];rfl
def Gq{o:AK}{M:AN}(G:PB o)(T:xs.all noStar=AB)(E:xs.length<25)(B:(apos.endLine == pos.line)=AB)
  (h:Wp W A (eval o env) (λL s₁=>∀Z,Wp W A (getMethod L M Z) (λr J=>Wp W A (CF pos r.1 r.2 (A1 pos<|Ad xs env) []) R J) s₁) s):
  Wp W A (eval (.Call (.Attribute o M apos) xs [] pos) env) R s:=by
 rw[arm_eval_Call,G];refine aH (oQ h (λL s₁ h₁=>aH<|fV ?_) λy y e=>e);have D:methodCallPos AB o env apos pos=Ae pos:=by unfold methodCallPos;simp [B]
 unfold methodCall;rw[UN T E env pos];show aH<|fw (oQ (h₁ _) (λr J C=>aH<|iZ D C) λy y e=>e)
def SE.gK{o:IE}{J:AN}(m:SE W n Y o xo)(w:PB xo)(E:J∈W.lJ)(p:xs.length<25)(D:(apos.endLine == pos.line)=AB)(h:gq W n Y es xs):
  SE W n Y (.gK o (aq J) es) (.Call (.Attribute xo J apos) xs [] pos):=λ{F H Q y A y y R} e K k=>by
 refine Gq w h.Cp p D (m e K λ{u z μ₁ cu s₁} q X hu Z=>?_);obtain⟨e,M,B,G,q⟩:=q;subst e;refine Fm X.N M hu (P:=λcu=>VR μ₁ s₁.heap (.obj _) cu->Wp W A (getMethod cu J Z) _ s₁) (λa d cA ox es' g C S hd I f l hu=>?_) hu;obtain⟨i,O,L,T⟩:=K.wk.qo _ J _ cA S E B;have j:=plainGet_of<|K.wk.Ej _ cA J S;obtain⟨⟨t,v⟩⟩:=f.get<|K.wk.Ow J E;rw[G] at v
 cases v with
 |no=>show method_fn (qh K.wk X.N) I j.1 j.2 L (lB.mp T) (by change(lookIn J<|Bu es' g).map _=_;rw[lookIn_dict,t];rfl)<|Ee (K.wk.FI _ i O) h (K.nx X) q λq Y_ r=>FH q O ((K.nx X).nx Y_).ok (.cons (Y_.up hu) r) λq x r=>k q ((X.trans Y_).trans x) r
def Kh{C:String}{Z:Sem Bool}{Q:AF×List AF->AG->Prop}{B:AF}(b:BM s B name C)(h:Q (.builtin C,[B]) s):AQ (Ai prog w) A (getMethod B name Z) Q E s:=by
 cases b with|mk T J D L hd=>show getMethod_builtin L T J D hd h
def SE.bm{m:Mt}(L:SE W n Y a xa)(T:PB xa)(D:xs.length<25)(J:(apos.endLine == pos.line)=AB)(h:gq W n Y es xs):SE W n Y (.bm m a es)<|.Call (.Attribute xa m.nm apos) xs [] pos:=λ{F H Q env A y y R} e K k=>by
 refine Gq T h.Cp D J (L e K λq X hu Z=>?_);obtain⟨p,q⟩:=q;refine Kh (p X.N hu) ?_;have B:=λpos=>h.all (pos:=pos) (R:=λcvs s₁=>Wp W A (CA (.builtin m.id)<|[_]++cvs) R s₁) q (K.nx X) λq Y_ r=>q.casesOn λp q=>p ((K.nx X).nx Y_).ok (.cons (Y_.up hu) r) λC r=>k q ((X.trans Y_).trans C) r;have hst:=h.Cp;rcases h with _|⟨E,M⟩;show callWith_method0 (q.casesOn λp q=>p (K.nx X).ok (.cons hu .nil) λC r=>k q (X.trans C) r);show xQ hst<|B _
def SE.jb(E:SE W n Y a xa)(B:PB xa)(J:(apos.endLine == pos.line)=AB)(M:SE W n Y b xb)(C:noStar xb=AB)
  (T:Y.names.lookup ("reversed":AN)=AA .globalImplicit) (L:("reversed":AN)∈W.f5):SE W n Y (.jb a b)<|.Call (.Attribute xa "extend" apos) [.Call (.Name "reversed" p') [xb] [] pos'] [] pos:=λ{F H Q env A y y R} e K k=>by
 refine Gq B rfl (Nat.lt_of_sub_eq_succ rfl) J (E e K λq X hu Z=>?_);obtain⟨p,q⟩:=q;refine Kh (p X.N hu)<|xQ rfl (r9 ?_<|lR rfl _ _);refine p0 (tA (K.nx X) T L d_ d_ (uk (tK C) (xG M C (K.nx X) q λq Y_ r=>q.casesOn λD=>D.casesOn λp q=>
  oQ (p ((K.nx X).nx Y_).ok (Y_.up hu) r λG r=>k q ((X.trans Y_).trans G) r) (λy y h=>uc h) λy y e=>e)))
end
inductive uD(μ:Mu)(h:AW):Fl->Flow->Prop
 |aQ:uD μ h .aQ .next|brk:uD μ h .brk .brk|cnt:uD μ h .cnt .cont|ret {v:V} {cv:AF} (r:VR μ h v cv):uD μ h (.ret v) (.ret cv)
def KS(W:Wd)(env:Bp)(μ:Mu)(s:AG)(Q:Fl->ae->AH->Prop)(R:Flow->AG->Prop):Prop:=∀{fl:Fl} {F':ae} {H':AH} {μ':Mu} {f:Flow} {s':AG},Q fl F' H'->gr W env μ s F' H' μ' s'->uD μ' s'.heap fl f->R f s'
def SS(W:Wd)(n:Nat)(Y:Ac)(is:IS)(st:A9):Prop:=∀⦃F:ae⦄ ⦃H:AH⦄ ⦃Q:Fl->ae->AH->Prop⦄ ⦃env:Bp⦄ ⦃A:Ab⦄ ⦃s:AG⦄ ⦃μ:Mu⦄ ⦃R:Flow->AG->Prop⦄,DP W n is F H Q->Fr W n Y env A μ H F s->KS W env μ s Q R->Wp W A (exec st env) R s
def gP(W:Wd)(n:Nat)(Y:Ac)(is:aL)(st:List A9):Prop:=∀⦃F:ae⦄ ⦃H:AH⦄ ⦃Q:Fl->ae->AH->Prop⦄ ⦃env:Bp⦄ ⦃A:Ab⦄ ⦃s:AG⦄ ⦃μ:Mu⦄ ⦃R:Flow->AG->Prop⦄,ig W n is F H Q->Fr W n Y env A μ H F s->KS W env μ s Q R->Wp W A (execs st env) R s
def lK(x:AK):Bool:=x.ctorIdx != 8&&(x.ctorIdx != 9&&x.ctorIdx != 10)
def notTuple(x:AK):Bool:=x.ctorIdx != 25
def v7{t:Option AK}{l:Nat}:∀{x:AK},lK x=AB->swapsWith x t l env=Ae AD:=by
 intro x;rcases x with _|_<;>first|show λy=>rfl|show λh=>(aI h).elim
def aGJ{D:List AK}:∀{x:AK},notTuple x=AB->A4 [.Tuple D k p] x env=Ae AE:=by
 intro x;rcases x with _|_<;>first|show λy=>rfl|show λh=>(aI h).elim
def aGI{o:AK}{J:AN}:∀{x:AK},A4 [.Attribute o J p] x env=Ae AE:=by
 intro x;rcases x with _|_<;>show rfl
variable{R:Flow->AG->Prop}{xe:AK}{px py:An}{o:IE}{xs:List Nat}{es:List AK}
section
variable{F:ae}
section
variable(he:SE W n Y e xe)
set_option tactic.hygienic true in
def SS.asg(B:eW Y x=AB)(J:dH x=AB)(C:lK xe=AB):SS W n Y (.asg (aq x) e)<|.Assign [.Name x px] xe pos:=λ{F H Q y y y y y} D K k=>
 wpAny_Assign_Name (he D K λq X r=>rE (K.nx X).fo X.N K.eo (qZ B) (jH J) r λY_=>k q ((K.sx X).trans Y_) .aQ)<|v7 C
def SS.cW(T:SE W n Y a xa)(C:SE W n Y i xi)(D:lK xe=AB):SS W n Y (.cW a i e)<|.Assign [.Subscript xa xi p] xe pos:=λ{F H Q y y y y y} L K k=>
 wpAny_Assign_Subscript (he L K λq X r=>SE.both T C q (K.nx X) λq Y_ hu B=>q.casesOn λJ=>J.casesOn λp q=>
  p ((K.nx X).nx Y_).ok hu B (Y_.up r) λM=>k q (K.sx<|(X.trans Y_).trans M) .aQ)<|v7 D
def SS.setAttr{J:AN}(C:SE W n Y o xo)(D:J∈W.attrs)(T:lK xe=AB):SS W n Y (.setAttr o (aq J) e)<|.Assign [.Attribute xo J p] xe pos:=λ{F H Q env A s μ R} L K k=>by
 rw[arm_exec_Assign];refine aH<|fV ?_;change Wp W A (swapsWith xe (AA<|.Attribute xo J p) pos.line env >>= _) R s;rw[v7 T];refine aH<|bA ?_;rw[aB ⋯]
 refine aH (he L K λ{v y y cv s'} q X r=>?_);rw[aGI];refine aH<|bA ?_;change Wp W A (assign (.Attribute xo J p) env cv >>= λy=>Ae Flow.next) R s';rw[arm_assign_Attribute];show aH<|aH (fw<|C q (K.nx X) λq Y_ hu=>aH (fV<|aH (fw<|q.casesOn λB=>B.casesOn λp q=>QI K.wk Y_.N D hu (Y_.up r) p λM=>wpAny_release' (bA<|k q (K.sx<|(X.trans Y_).trans M) .aQ))))
def SS.expr(J:lK xe=AB):SS W n Y (.expr e)<|.Expr xe pos:=λ{F H Q env y y y y} B K k=>by
 rw[exec_Expr env xe pos (by unfold interactive;rw[K.eo.kind];rfl)<|v7 J]
 show aH<|fV (aH<|he B K λq X r=>wpAny_dropValue (k q (K.sx X) .aQ))
def SS.ret:SS W n Y (.ret e)<|.Return (AA xe) pos:=λ{F H Q y y y y y} J K k=>
 wpAny_Return_some<|he J K λq X r=>k q (K.sx X) (.ret r)
end
def SS.aFK:SS W n Y (.ret<|.const .none)<|.Return AE pos:=λ{y y y y y s y y} J K k=>wpAny_Return_none<|k J (K.s0) (.ret .of_none)
def SS.cont:SS W n Y .cont<|.Continue pos:=λ{y y y y y s y y} J K k=>aH<|fV (bA<|k J (K.s0) .cnt)
def SS.pass:SS W n Y .pass<|.Pass pos:=λ{y y y y y s y y} J K k=>wpAny_Pass<|k J (K.s0) .aQ
def gP.nil:gP W n Y .nil []:=λ{y y y y y s y y} J K k=>R6<|k J (K.s0) .aQ
def gP.cons{is:IS}{B:aL}{st:A9}{J:List A9}(T:SS W n Y is st)(D:gP W n Y B J):gP W n Y (.cons is B)<|st::J:=λ{F H Q y y y y y} L K k=>
 wpAny_execs_cons (T L K λq X C=>by
  rcases C with _|_|_|r;show D q (K.tH X) λq Y_ C=>k q (X.trans Y_) C;show k q X .brk;show k q X .cnt;show k q X<|.ret r)
def SS.ite{c:IE}{a b:aL}{C B:List A9}(D:ST W n Y c xc)(L:gP W n Y a C)(T:gP W n Y b B):SS W n Y (.ite c a b)<|.If xc C B pos:=λ{F H Q y y y y y} M K k=>
 wpAny_If (D M K λ{y t y y y} q y X=>by
  induction t using Bool.casesOn with
  |true=>show L (by rw[aC rfl] at q;show q) (K.nx X) λq Y_ J=>k q ((K.sx X).trans Y_) J|false=>show T (by rw[aB aI] at q;show q) (K.nx X) λq Y_ J=>k q ((K.sx X).trans Y_) J)
inductive jx(Y:Ac):List Nat->List AK->Prop
 |nil:jx Y [] []|cons {x:AN} {p:An} {xs:List Nat} {es:List AK}:eW Y x=AB->dH x=AB->jx Y xs es->jx Y (aq x::xs) (.Name x p::es)
section
variable(h:jx Y xs es)
def jx.len:es.length=xs.length:=by
 induction h with
 |nil=>rfl|cons _ _ _ J=>show aF (·+1) J
def jx.Vq(env:Bp):(Bk es env).length=es.length:=by
 induction h with
 |nil=>rfl|cons _ _ _ J=>show aF (·+1) J
def jx.each(env:Bp):(Bk es env).findIdx? (·.1)=AE:=by
 induction h with
 |nil=>rfl|@cons x p xs es _ _ _ J=>
  change((AD,assign (.Name x p) env)::Bk es env).findIdx? _=AE;rw[List.findIdx?_cons,J];rfl
end
set_option tactic.hygienic true in
def UY(T:jx Y xs es):∀{F:ae} {l:List V} {vs:List AF} {s:AG} {μ:Mu} {R:Unit->AG->Prop},l.length=xs.length->Fr W n Y env A μ H F s->aT μ s.heap l vs->(∀{s'},gr W env μ s (jr F xs l) H μ s'->R () s')->
  Wp W A (BX ((Bk es env).map (·.2)) vs) R s:=by
 induction T with
 |nil=>
  intro F l vs s μ R hl K hv k;rcases l with _|_;show bA<|k (K.s0);cases hl
 |@cons x p xs es C J _ B=>
  intro F l vs s μ R hl K hv k;rcases l with _|⟨v,l⟩
  .rcases hl with _|_
  refine hv.fU (P:=λvs=>Wp W A (BX (assign (.Name x p) env::(Bk es env).map (·.2)) vs) R s) λcv r hv D=>?_;show aH<|fw (II<|rE K.fo K.N K.eo (qZ C) (jH J) hv λX=>B (oW hl) (K.tH X) (D.ext X.E K.fo.n3) λY_=>k (X.trans Y_))
def Rt(D:A.handled=AE)(N:bC W μ H s.heap)(J:VR μ s.heap (.tup l) cv)(C:l.length=k){Q:List AF->AG->Prop}
  (h:∀{s₁ vs},cF W μ s H μ s₁->aT μ s₁.heap l vs->Q vs s₁):Wp W A (CT cv k AE) Q s:=
 J.gf (P:=λcv=>Wp W A (CT cv k AE) Q s) λa B y x z r=>by
  have:=wpAny_unpackItems_tuple (prog:=W.prog) (w:=W.w) (E:=F0) D x.is λh' he=>have X:=.grow N λb o e=>he b o (eV<|iP e) e;h X<|rf▸X.ups r
  rwa [bu,r.length,C] at this
def SS.gR(C:SE W n Y e xe)(J:jx Y xs es)(D:lK xe=AB)(B:∀env,iA Y env->A4 [.Tuple es k p] xe env=Ae AE):
  SS W n Y (.gR xs e) (.Assign [.Tuple es k p] xe pos):=λ{F H Q env A s μ R} T K kk=>
 Assign_Tuple (C T K λq X r=>by
  obtain⟨⟨e,hl,q⟩⟩:=q;subst e;rw[arm_assign_Tuple];refine aH<|fV ?_;unfold unpack;rw[J.each env,J.Vq env,J.len,<-hl];show aH<|fw (Rt K.rb.hd X.N r rfl λY_ r=>UY J hl ((K.nx X).nx Y_) r λL=>kk q ((K.sx<|X.trans Y_).trans L) .aQ)) (v7 (t:=AA<|.Tuple es k p) (l:=pos.line) (env:=env) D)<|B env K.eo
def aHh:2<=aM:=by decide
set_option tactic.hygienic true in
def SS.swap(u:SE W n Y a xa)(j:SE W n Y b xb)(M:noStar xa=AB)(L:noStar xb=AB)(I:eW Y x=AB)(S:eW Y y=AB)(Z:dH x=AB)(G:dH y=AB)
  (T:∀env,iA Y env->A4 [.Tuple [.Name x px,.Name y py] k p] (.Tuple [xa,xb] k' p') env=Ae (AA [x,y])):
  SS W n Y (.swap (aq x) (aq y) a b) (.Assign [.Tuple [.Name x px,.Name y py] k p] (.Tuple [xa,xb] k' p') pos):=λ{F H Q env A s μ R} g K kk=>by
 refine PyProof.Rows.Assign_Tuple_swapped (?_) rfl<|T env K.eo;refine aH<|fV (aH<|r9 (u g K λq X hu=>r9 (j q (K.nx X) λq Y_ T=>uc ?_)<|lR L _ _) (lR M _ _));refine kj ?_<|by size_fits
 refine y6 (R:=λv s=>Wp W A (CT v 2 AE) (λB D=>Wp W A (BX [λv=>bindName env y v,λv=>bindName env x v] B.reverse) (λz=>R .next) D) s) Y_.N (.cons (Y_.up hu)<|.one T) aHh (cO _ _) (iU _) .new λO r=>?_;refine Rt K.rb.hd O.N r rfl ?_;intro C vs U r;refine r.tg (P:=λvs=>Wp W A (BX [λv=>bindName env y v,λv=>bindName env x v] vs.reverse) (λz=>R .next) C) λcu cw hu T=>?_;have J:=K.nx<|((X.trans Y_).trans O).trans U;refine aH<|fw (wpAny_bindName<|rE J.fo J.N J.eo (qZ S) (jH G) T λV=>?_);refine aH<|fw (wpAny_bindName<|rE (J.tH V).fo V.N J.eo (qZ I) (jH Z) (hu.ext V.E J.fo.n3) λm=>?_);show bA<|kk q (((K.sx<|((X.trans Y_).trans O).trans U).trans V).trans m) .aQ
end
def OY:BC (.type "list") (dunderI "add")=Ae (AA<|.builtin "list.__iadd__"):=by rw[pZ,oh];kernel_rfl
def WQ:fillsInplaceSlot (.type "list") "add" (Operator.Add == .Add)=Ae AD:=by
 change(BC (.type "list") (dunderI "add") >>= λfi=>Ae<|fi.isSome&&!isSeqSlot fi)=Ae AD;rw[OY]
 kernel_rfl
def aFo:seqSlot? (.type "list") (dunderI "add")=Ae (AA<|.builtin "list.__iadd__"):=by
 unfold seqSlot?;rw[OY]
 kernel_rfl
variable{op:AZ}{cw:AF}
section
variable{F:ae}
def Yp{l b:AJ}{xs:List AF}{Q:AF->AG->Prop}(D:XL s.heap l xs)(T:XL s.heap b ys)(L:xs.length+ys.length<=aM)
  (h:∀h',XL h' l (xs++ys)->AS l s.heap h'->Q (.ref l) {s with heap:=h'}):AQ (Ai prog w) A (BD .Add (.ref l)<|.ref b) Q E s:=by
 have J:=bu▸bu▸fq L;refine fw ?_;refine aH<|SF (lU D) (aH<|iZ WQ ?_);rw[aB aI];refine aH<|PySem.wpAny_binaryOp1_none (lU D) (lU T) noFill_list_add ?_;refine aH<|iZ aFo ?_;refine aH<|DC ?_;obtain⟨C⟩:=D;obtain⟨B⟩:=T;refine call_meets PySem.F.slot_list_iadd ⟨_,C,rfl⟩ PySem.F.entry_list_iadd (PySem.F.args_list_iadd_2 _ _) (AutoSeq1.list___iadd___list_list_0 l xs.toArray _ b ys.toArray _ ?_ (aA (aY _ _) J)<|eM J) ⟨C,B,?_⟩;show λq=>Nat.not_lt.mpr J<|dK ((eQ _ _▸q).2);show h _ (wF C<|I5 _ _)<|lu ..
def KV{w:V}{R:AF->AG->Prop}(N:bC W μ H s.heap)(D:VR μ s.heap u cu)(B:VR μ s.heap w cw)(q:lZ op u H w Q)(k:KE W μ s Q R):Wp W A (BD op cu cw) R s:=by
 induction q using lZ.casesOn with
 |add o e L q=>
  subst o;subst e;subst L;show D.cP (P:=λc=>Wp W A (BD .Add c cw) R s) λt=>B.cP (P:=λc=>Wp W A (BD .Add _ c) R s) λt'=>PySem.P.iadd_int<|k q (.refl N) .gX
 |sub o e L q=>
  subst o;subst e;subst L;show D.cP (P:=λc=>Wp W A (BD .Sub c cw) R s) λt=>B.cP (P:=λc=>Wp W A (BD .Sub _ c) R s) λt'=>PySem.P.isub_int<|k q (.refl N) .gX
 |@lst i l l' o e hc hl z q=>
  subst o;subst e;show hl.at N B (P:=λc=>Wp W A (BD .Add cu c) R s) λb ys hb G S=>jD N hc D (P:=λc=>Wp W A (BD .Add c<|.ref b) R s) λa xs C Y M O=>
   Yp Y hb (M.length▸G.length▸z) λh' J Z=>have T:=te N C Y (oA Z) J (M.append G)<|a5▸z;k q T<|VR.vY (lO T.E.pre C)
set_option tactic.hygienic true in
def SS.aug(M:SE W n Y e xe)(T:eW Y x=AB)(J:dH x=AB)(C:(x == ("__classdict__":AN))=AD):
  SS W n Y (.aug (aq x) op e) (.AugAssign (.Name x p) op xe pos):=λ{F H Q y y y y y} D K k=>
 let ⟨E,D⟩:=D
 wpAny_AugAssign_Name (OV K.fo K.eo (by unfold isVar;rcases qZ T with q|q<;>rw[q]) (jH J) C E λcv B=>
  M D K λq X L=>KV X.N (X.up B) L q λq Y_ r=>rE (K.nx<|X.trans Y_).fo Y_.N K.eo (qZ T) (jH J) r λG=>k q ((K.sx<|X.trans Y_).trans G) .aQ)
def SS.mB{B:AN}(T:SE W n Y o xo)(L:SE W n Y e xe)(C:B∈W.attrs):
  SS W n Y (.mB o (aq B) op e) (.AugAssign (.Attribute xo B p) op xe pos):=λ{F H Q env A s μ R} M K k=>by
 rw[arm_exec_AugAssign_2];refine aH<|fV (aH<|T M K λq X hu=>?_);obtain⟨⟨ha,q⟩⟩:=q;refine aH<|fw (aH<|fV (aH<|KU K.wk X.N C hu ha λY_ hv=>?_));have E:=K.nx<|X.trans Y_;refine aH<|fw (L q E λq J D=>?_);refine aH<|fV (wpAny_operating<|KV J.N (J.up hv) D q λq U r=>?_);obtain⟨_,⟨⟨p,q⟩⟩⟩:=q;show aH<|fV (aH<|fw (QI K.wk U.N C (U.up<|J.up (Y_.up hu)) r p λV=>aH<|wpAny_release' (bA<|k q (K.sx<|(((X.trans Y_).trans J).trans U).trans V) .aQ)))
end
inductive jz(h:AW)(d:AJ)(es:Array AV)(ep:Nat):Prop
 |mk {o:B5} (at_:h.get? d=AA o) (x:o.ExactDict) (dat:o.data=.dict es ep)
variable{d:AJ}{es:Array AV}{i:Nat}{o:B5}
section
variable{es':Array AV}{ep':Nat}
def jz.typeIs(x:jz s.heap d es ep):s.TypeIs (.ref d) "dict":=x.casesOn λJ hc y=>⟨_,J,hc.1⟩
section
variable(x:jz h d es ep)
def jz.to(k:∀o,h.get? d=AA o->h'.get? d=AA o):jz h' d es ep:=x.casesOn λa b c=>⟨k _ a,b,c⟩
def jz.is(J:h.get? d=AA o):o.data=.dict es ep:=x.casesOn λa y c=>ai (a.symm.trans J)▸c
def jz.inj(y:jz h d es' ep'):es=es'/\ep=ep':=y.casesOn λa z c=>Data.dict.inj<|(x.is a).symm.trans c
end
def aEp{Q:AF->AG->Prop}(B:(d == B9)=AD)(T:jz s.heap d es ep)
  (L:Q (.ref s.heap.objs.size) {s with heap:=s.heap.push {cls:=.type "dict_keyiterator",data:=.fields #[.ref d,.int 0 0,.int es.size 0,.int ep 0]}}):
  AQ (Ai prog w) A (Bh<|.ref d) Q E s:=by
 have C:=T.typeIs;obtain⟨D,hc,J⟩:=T;refine wpAny_pyIter_slot C F.slot_dict_iter<|pz F.slot_dict_iter C F.entry_dict_iter ?_ (F.args_dict_iter_1 _);refine aH<|aH (wpAny_notOrdered_dict C ?_);refine bA ?_;change AQ _ _ (Bo d >>= _) _ _ s;unfold Bo;rw[aB (by rw[B];show aI)]
 refine aH<|bA (aH<|wpAny_dictEntries D J (aH<|wpAny_dictEpoch D J ?_));show aH<|kj (bA ⟨_,rfl,"dict_keyiterator",_,⟨_,eC _ rfl,rfl⟩,SY.lookup,L⟩)
def O2:¬((i:Int)<0):=Int.not_lt.mpr<|eI i
def QK{Q:Option AF->AG->Prop}(Y:A.handled=AE)(J:s.heap.IsKeyIter it d i es.size ep)(G:jz s.heap d es ep)
  (O:∀e,es[i]?=AA e->∀h',h'.IsKeyIter it d (i+1) es.size ep->AS it s.heap h'->Q (AA e.key) {s with heap:=h'})
  (h2:es[i]?=AE->∀h',CW it s.heap h'->Q AE {s with heap:=h'}):AQ (Ai prog w) A (pyNext<|.ref it) Q E s:=by
 obtain⟨o,M,hc,hd⟩:=id J;obtain⟨T,Z,L⟩:=G;refine aH (DA (IJ J.typeIs SY
  (pz SY J.typeIs F.entry_dict_keyiterator_next ?_<|F.args_dict_keyiterator_next_1 _)))
 refine aH<|bA (aH<|aH ?_)
 first|refine aH (R9 J.typeIs<|bA ?_)|refine aH<|SD J.typeIs (bA ?_)
 refine aH<|wpAny_fieldsOf M hd ?_;have D:BH "dict_keyiterator"=AD:=by decide
 rw[aB (show ¬(BH "dict_keyiterator"=AB) by rw[D];show aI)]
 change AQ _ _ (if (Value.ref d == AX)=AB then _ else _) _ _ s
 rw[aB<|show ¬((Value.ref d == AX)=AB) from aI]
 refine aH<|bA (aH<|wpAny_dictEntries T L ?_);rw[aB<|by simp]
 refine aH<|bA (aH<|wpAny_dictEpoch T L ?_);rw[aB<|by simp]
 refine bA ?_;rcases hx:es[i]? with _|e
 .have C:(if (i:Int)<0 then AE else es[(i:Int).toNat]?)=AE:=(aB O2).trans hx
  dsimp only
  rw[C];refine aH ?_
  first|refine aH (R9 J.typeIs<|bA ?_)|refine aH<|SD J.typeIs (bA ?_)
  change AQ _ _ (setField (.ref it) 0 .none >>= _) _ _ s;refine aH<|DD M hd (by simp) ?_
  refine aH ?_;simp only[newExc,newTuple];refine aH<|kj ?_ (by size_fits)
  refine aH<|iZ (by first|rfl|(simp only[firstArgMember];rfl)) ?_
  refine kj ?_<|by size_fits
  refine aH<|wpAny_handled ?_;rw[Y];refine aH<|bA (wpAny_throw ?_);refine aH<|DB ⟨_,eC _ rfl,rfl⟩ isSubtype_stop ?_;show bA<|h2 hx _ (((lu ..).extBut.push _).push _)
 have C:(if (i:Int)<0 then AE else es[(i:Int).toNat]?)=AA e:=(aB O2).trans hx
 dsimp only
 rw[C];refine aH ?_
 first|refine aH (R9 J.typeIs<|bA ?_)|refine aH<|SD J.typeIs (bA ?_)
 refine aH<|aIN J.typeIs ?_;change AQ _ _ (setField (.ref it) 1 (CK<|i+1) >>= _) _ _ s;refine aH<|DD M hd (by simp) ?_
 have B:(s.heap.update it (Obj.mapFields (·.setIfInBounds 1 (CK<|i+1)))).IsKeyIter it d (i+1) es.size ep:=
  ⟨_,m6 _ M<|Jj (uU hd _),(Tg ..).trans hc,by rw[uU hd];simp [CK]⟩
 refine aH<|fw ?_;refine aH<|aIN B.typeIs ?_;show bA<|bA ⟨_,rfl,bA<|O e hx _ B (lu ..)⟩
end
inductive qM(μ:Mu)(h:AW)(a:AJ)(l:List V):Prop
 |mk {es:Array AV} {ep:Nat} (x:jz h a es ep) (r:aT μ h l (es.toList.map (·.key))):qM μ h a l
variable{a:AJ}
section
variable{P:B4}
def km.vr{k:Atom}{v:AF}(x:km k v):VR μ h (dG k) v:=by
 rcases x with _|_;show .gX;show .zY
def aA7(r:PR μ h aJ cs):∀{es:List AV},Pairs (dZ P w) es cs->aT μ h (aJ.map λp=>dG p.1) (es.map (·.key)):=by
 induction r with
 |nil=>intro es p;rcases p with _|_;show .nil
 |cons hv _ J=>
  intro es p
  cases p with
  |cons C _ B=>
   have q:=(og C).vr (μ:=μ) (h:=h);show .cons q<|J B
def LH(d:h.DictOf (dZ P w) a cs)(r:PR μ h aJ cs):qM μ h a<|aJ.map λp=>dG p.1:=by
 obtain⟨_,_,_,J,x,hd,_,C,_⟩:=d;show⟨⟨J,x,hd⟩,aA7 r C⟩
def aA8{aJ:List<|List Atom×V}{J:List<|List Atom×AJ×AF}(r:TR μ h aJ J):aT μ h (aJ.map λp=>V.tup<|p.1.map dG) ((J.map<|entryOfKey (Aj<|dZ P w)).map (·.key)):=by
 induction r with
 |nil=>show .nil|cons _ C _ B=>show .cons C B
def RM{aJ:List<|List Atom×V}{J:List<|List Atom×AJ×AF}(d:h.DictOfH (Aj<|dZ P w) a J)(r:TR μ h aJ J):qM μ h a<|aJ.map λp=>V.tup (p.1.map dG):=by
 obtain⟨_,_,_,B,x,hd,he,_,_⟩:=d;show⟨⟨B,x,hd⟩,he▸aA8 r⟩
end
abbrev jM(I:AJ)(h J:AW):Prop:=∀b o,b≠I->h.get? b=AA o->J.get? b=AA o
def jU(J:AS I h h'):jM I h h':=λb y n e=>(J.2 b n).trans e
def xM(J:CW I h h'):jM I h h':=λb o n e=>J b o n e
variable{D_:AJ}
def PU(C:D_∈μ.g\/h.get? D_=AE)(J:I∉foot μ)(B:h.get? I=AA o):I≠D_:=λe=>
 C.elim (λm=>J<|e▸gF _ m) λm=>au<|m.symm.trans (e▸B)
def aDT{J:B5}{vs:Array AF}(D:h.get? I=AA J)(C:J.data=.fields vs):ky (·=I) h:=λb o e B xs n q=>
 nomatch C.symm.trans ((ai ((e▸D).symm.trans B)▸q:J.data=.seq xs n))
inductive jt(h:AW)(I:AJ):Prop
 |mk {o:B5} {vs:Array AF} (at_:h.get? I=AA o) (d:o.data=.fields vs)
def vJ(x:jt h I)(J:jM I h h'):Kp μ h μ h':=x.casesOn λB hd=>
 ⟨oU _,λy m=>.inl m,λb o xs n e d y=>J b o (λq=>aDT B hd b o q e xs n d) e⟩
section
variable(W:Wd)(I:AJ)(C_:AH->Prop)(l:List V)(A:Ab)(St:Mu->AW->Nat->Prop)
def Se:Prop:=∀{μ:Mu} {H:AH} {s:AG} {i:Nat} {v:V} {Q:Option AF->AG->Prop},bC W μ H s.heap->C_ H->St μ s.heap i->l[i]?=AA v->
  (∀{h':AW} {tk:Nat} {c:AF},VR μ h' v c->St μ h' (i+1)->jM I s.heap h'->Q (AA c) {s with heap:=h',toks:=tk})->Wp W A (pyNext<|.ref I) Q s
def Sa:Prop:=∀{μ:Mu} {H:AH} {s:AG} {i:Nat} {Q:Option AF->AG->Prop},bC W μ H s.heap->C_ H->St μ s.heap i->l[i]?=AE->
  (∀{h':AW} {tk:Nat},jM I s.heap h'->Q AE {s with heap:=h',toks:=tk})->Wp W A (pyNext<|.ref I) Q s
end
structure nE(W:Wd)(C_:AH->Prop)(l:List V)(A:Ab)(I:AJ)(St:Mu->AW->Nat->Prop):Prop where
 item:Se W I C_ l A St
 done:Sa W I C_ l A St
 keep:∀{X:AJ->Prop} {μ μ':Mu} {h h':AW} {H H':AH} {i:Nat},cS X μ h μ' h'->ky X h->¬X I->bC W μ H h->bC W μ' H' h'->C_ H->C_ H'->St μ h i->St μ' h' i
 grow:∀{μ μ':Mu} {h h':AW} {H:AH} {i:Nat} {D_:AJ},bC W μ H h->Kp μ h μ' h'->I∉foot μ'->D_∈μ.g\/h.get? D_=AE->jM D_ h h'->St μ h i->St μ' h' i
 nf:∀{μ:Mu} {h:AW} {i:Nat},St μ h i->I∉foot μ
 fl:∀{μ:Mu} {h:AW} {i:Nat},St μ h i->jt h I
 self:∀{μ:Mu} {s:AG} {i:Nat} {Q:AF->AG->Prop},St μ s.heap i->Q (.ref I) s->Wp W A (Bh (.ref I)) Q s
inductive k7(it:AW->Nat->Prop)(I:AJ)(src:V)(a:AJ)(μ:Mu)(h:AW)(i:Nat):Prop
 |mk (nf:I∉foot μ) (hv:VR μ h src (.ref a)) (it:it h i)
variable{src:V}{P:Prop}{e:Nat}{J_:AW->Nat->Prop}
def IsL.ref(x:IsL H l src)(N:bC W μ H h)(J:VR μ h src<|.ref a)(k:∀B,XL h a B->aT μ h l B->P):P:=
 x.at (s:={heap:=h}) N J (P:=λc=>c=.ref a->P) (λy B x r y e=>by injection e with e;subst e;show k B x r) rfl
def RX(J:VR μ h (.tup l)<|.ref a)(k:∀B,XT h a B->aT μ h l B->P):P:=
 J.gf (P:=λc=>c=.ref a->P) (λy B y x y r e=>by injection e with e;subst e;show k B x r) rfl
def ON(x:h.IsListIter I a i)(k:∀o,h.get? I=AA o->h'.get? I=AA o):h'.IsListIter I a i:=x.elim λy J=>J.elim λe r=>⟨_,k _ e,r⟩
def RQ(x:h.IsTupleIter I a i)(k:∀o,h.get? I=AA o->h'.get? I=AA o):h'.IsTupleIter I a i:=x.elim λy J=>J.elim λe r=>⟨_,k _ e,r⟩
def yo(x:h.IsListIter I a i):jt h I:=x.elim λy B=>B.elim λe J=>J.elim λy d=>⟨e,d⟩
def C5(x:h.IsTupleIter I a i):jt h I:=x.elim λy B=>B.elim λe J=>J.elim λy d=>⟨e,d⟩
def yY(x:h.IsKeyIter I a i n e):jt h I:=x.elim λy B=>B.elim λe J=>J.elim λy d=>⟨e,d⟩
def Pb(r:aT μ h l B)(J:l[i]?=AE):B.toArray[i]?=AE:=by rw[lx];show List.getElem?_eq_none_iff.mpr<|r.length▸List.getElem?_eq_none_iff.mp J
def k7.to(x:k7 J_ I src a μ h i)(E:Kp μ h μ' h')(J:I∉foot μ')(B:J_ h i->J_ h' i):k7 J_ I src a μ' h' i:=x.casesOn λy v t=>⟨J,v.kp E,B t⟩
def jt.nf(x:jt h I)(E:cS X μ h μ' h')(J:I∉foot μ):I∉foot μ':=x.casesOn λe y=>E.nf J e
def jt.off(x:jt h I)(B:D_∈μ.g\/h.get? D_=AE)(J:I∉foot μ):I≠D_:=x.casesOn λe y=>PU B J e
section
variable(mv:∀{h h' i},J_ h i->(∀o,h.get? I=AA o->h'.get? I=AA o)->J_ h' i)(fl:∀{h i},J_ h i->jt h I)
def k7.keep(E:cS X μ h μ' h')(B:ky X h)(C:¬X I)(x:k7 J_ I src a μ h i):k7 J_ I src a μ' h' i:=
 let ⟨J,_,t⟩:=x;x.to (E.kp B) ((fl t).nf E J) λt=>mv t λo e=>E.keep _ o e J C
def k7.grow(E:Kp μ h μ' h')(J:I∉foot μ')(D:D_∈μ.g\/h.get? D_=AE)(C:jM D_ h h')(x:k7 J_ I src a μ h i):k7 J_ I src a μ' h' i:=
 let ⟨B,_,t⟩:=x;x.to E J λt=>mv t λo e=>C _ o ((fl t).off D B) e
end
def aGE(G:A.handled=AE):nE W (It .lst src l) l A I (k7 (λh i=>h.IsListIter I a i) I src a) where
 item:=λ{μ H s i v Q} N c st hi k=>by
  cases c with|lst hl=>
  obtain⟨nf,hv,it⟩:=st;show hl.ref N hv λB x r=>by
   obtain⟨⟨hc,T⟩⟩:=r.get hi;refine wpAny_pyNext_list_item it x.is (lx▸hc) λh' C J=>?_;have E:=vJ (μ:=μ) (yo it)<|jU J;show k (T.kp E) ⟨nf,hv.kp E,C⟩<|jU J
 done:=λN c st hi k=>by
  cases c with|lst hl=>
  obtain⟨nf,hv,it⟩:=st;show hl.ref N hv λB x r=>wpAny_pyNext_list_end G it x.is (Pb r hi) λh' J=>k<|xM J
 keep:=λE L Y y y y y st=>st.keep (J_:=λh i=>h.IsListIter I a i) ON yo E L Y
 grow:=λy E D Z M st=>st.grow (J_:=λh i=>h.IsListIter I a i) ON yo E D Z M
 nf:=λst=>st.casesOn λnf y y=>nf
 fl:=λst=>st.casesOn λy y it=>yo it
 self:=λst q=>st.casesOn λy y it=>wpAny_pyIter_listiter it q
def aGG(G:A.handled=AE):nE W (It .tup src l) l A I (k7 (λh i=>h.IsTupleIter I a i) I src a) where
 item:=λ{μ H s i v Q} N c st hi k=>by
  rcases c with _|_;obtain⟨nf,hv,it⟩:=st;show RX hv λB x r=>by
   obtain⟨⟨hc,T⟩⟩:=r.get hi;refine wpAny_pyNext_tuple_item it x.is (lx▸hc) λh' C J=>?_;have E:=vJ (μ:=μ) (C5 it)<|jU J;show k (T.kp E) ⟨nf,hv.kp E,C⟩<|jU J
 done:=λN c st hi k=>by
  rcases c with _|_;obtain⟨nf,hv,it⟩:=st;show RX hv λB x r=>wpAny_pyNext_tuple_end G it x.is (Pb r hi) λh' J=>k<|xM J
 keep:=λE L Y y y y y st=>st.keep (J_:=λh i=>h.IsTupleIter I a i) RQ C5 E L Y
 grow:=λy E D Z M st=>st.grow (J_:=λh i=>h.IsTupleIter I a i) RQ C5 E D Z M
 nf:=λst=>st.casesOn λnf y y=>nf
 fl:=λst=>st.casesOn λy y it=>C5 it
 self:=λst q=>st.casesOn λy y it=>wpAny_pyIter_tupleiter it q
inductive T3(n:Nat)(I:AJ)(μ:Mu)(h:AW)(i:Nat):Prop
 |mk (nf:I∉foot μ) (it:IsRangeIter h I (i:Int) ((n:Int)-i) 1)
def aC9(h:(jm n)[i]?=AA v):i<n/\V.int (i:Int)=v:=by
 unfold jm at h;rw[f3] at h;obtain⟨j,B,e⟩:=Option.map_eq_some_iff.mp h;have J:=(List.getElem?_eq_some_iff.mp B).1;rw[kq] at J;rw[Dm J] at B;show⟨J,ai B▸e⟩
def aDA(h:(jm n)[i]?=AE):n<=i:=by
 have:=List.getElem?_eq_none_iff.mp h
 rwa [jm,aO,kq] at this
def aGF(L:A.handled=AE):nE W (λy=>True) (jm n) A I (T3 n I) where
 item:=λ{μ H s i v Q} N y st hi k=>by
  obtain⟨nf,it⟩:=st;obtain⟨D,e⟩:=aC9 hi;subst e;refine wpAny_pyNext_range_item it (Int.sub_pos_of_lt<|Int.ofNat_lt.mpr D) λh' J B=>?_;refine k .gX ⟨nf,?_⟩<|jU B;have Y:n-i-1=n-((i+1):Int):=Dd _ _ _;rw[Y] at J;show J
 done:=λN y st hi k=>st.casesOn λnf it=>wpAny_pyNext_range_end L it (Int.sub_nonpos_of_le<|Int.ofNat_le.mpr (aDA hi)) λh' B=>k<|xM B
 keep:=λE Z M y y y y st=>st.casesOn λnf it=>⟨E.nf nf it,E.keep _ _ it nf M⟩
 grow:=λy E C G T st=>st.casesOn λnf it=>⟨C,T _ _ (PU G nf it) it⟩
 nf:=λst=>st.casesOn λnf y=>nf
 fl:=λst=>st.casesOn λy it=>⟨it,rfl⟩
 self:=λst q=>st.casesOn λy it=>wpAny_pyIter_rangeiter it q
inductive EF(I:AJ)(j:Nat)(d:AJ)(μ:Mu)(h:AW)(i:Nat):Prop
 |mk {es:Array AV} {ep:Nat} (nf:I∉foot μ) (C:μ.l[j]?=AA (d,AE)) (hm:jz h d es ep) (it:h.IsKeyIter I d i es.size ep):EF I j d μ h i
def DM(W:Wd)(j st:Nat)(l:List V)(J:AH->Prop):Prop:=∀{μ:Mu} {H:AH} {h:AW},bC W μ H h->J H->∀{d:AJ},μ.l[j]?=AA (d,AE)->bP (qM μ h d l) (μ.st j=st)
variable{C_:AH->Prop}{Q:AF->AG->Prop}
section
variable{st:Nat}
def Vf:DM W j st l<|It (.dict st) (.obj j) l:=λ{μ H h} N c d C=>by
 cases c with|dict hc=>show(N.dT hc).casesOn λB J q=>J.casesOn λe dd r=>q5 B C (P:=λp=>bP (qM μ h p.1 _)<|μ.st j=st) ⟨LH dd r,q _ rfl⟩
def aGr:DM W j st l<|It (.az st) (.obj j) l:=λ{μ H h} N c d C=>by
 cases c with|az hc=>show(N.dT hc).casesOn λB J q=>J.casesOn λe dd r=>q5 B C (P:=λp=>bP (qM μ h p.1 _)<|μ.st j=st) ⟨RM dd r,q _ rfl⟩
def N6(x:h.IsKeyIter I a i n e)(k:∀o,h.get? I=AA o->h'.get? I=AA o):h'.IsKeyIter I a i n e:=x.elim λy J=>J.elim λe r=>⟨_,k _ e,r⟩
section
variable(r:aT μ h l (es.toList.map (·.key)))
def aA4(J:l[i]?=AA v)(k:∀e,es[i]?=AA e->VR μ h v e.key->P):P:=by
 obtain⟨⟨hc,hv⟩⟩:=r.get J;rw[f3] at hc;obtain⟨e,he,q⟩:=Option.map_eq_some_iff.mp hc;show k e ((SN).symm.trans he)<|q▸hv
def aA5:es.size=l.length:=by
 have:=r.length
 rwa [aO,oR] at this
end
def aDj(N:bC W μ H h)(B:D_∈μ.g\/h.get? D_=AE){p:AJ×Option AJ}(C:μ.l[j]?=AA p)(J:h.get? p.1=AA o):p.1≠D_:=λq=>
 B.elim (λm=>(JL.mp N.apart).2.2 D_ m p.1 (List.mem_flatMap.mpr ⟨p,eK C,.head _⟩) q.symm) λm=>au<|(q▸m).symm.trans J
def Q4(S:A.handled=AE)(M:DM W j st l C_):nE W C_ l A I (EF I j d) where
 item:=λ{μ H s i v Q} N c st hi k=>by
  obtain⟨nf,C,B,it⟩:=st;obtain⟨⟨D,r⟩,_⟩:=M N c C;obtain⟨O,Z⟩:=B.inj D;subst O;subst Z;refine aA4 r hi λe he hv=>QK S it B (λu T h' Y J=>?_) λhn=>au<|hn.symm.trans he;have E:=vJ (μ:=μ) (yY it)<|jU J;have q:=ai<|T.symm.trans he;refine k (q▸hv.kp E) ⟨nf,C,B.to λo e=>jU J _ o (λz=>nf<|z▸xt C) e,Y⟩<|jU J
 done:=λN c st hi k=>by
  obtain⟨nf,C,B,it⟩:=st;obtain⟨⟨D,r⟩,_⟩:=M N c C;obtain⟨O,Z⟩:=B.inj D;subst O;subst Z;show QK S it B (λu T=>absurd (Array.getElem?_eq_some_iff.mp T).1<|Nat.not_lt.mpr (aA5 r▸List.getElem?_eq_none_iff.mp hi)) λy h' J=>k<|xM J
 keep:=λE m X N g c c' st=>by
  obtain⟨nf,C,B,it⟩:=st;obtain⟨_,K⟩:=M N c C;have L:=lO E.pre C;obtain⟨_,s2⟩:=M g c' L;show⟨(yY it).nf E nf,L,B.to<|(E.gE j _ C).2 (s2.trans K.symm),N6 it λo e=>E.keep _ o e nf X⟩
 grow:=λN E G P R st=>by
  obtain⟨nf,C,B,it⟩:=st;show⟨G,lO E.pre C,B.to λo e=>R _ o (aDj N P C e) e,N6 it λo e=>R _ o ((yY it).off P nf) e⟩
 nf:=λst=>st.casesOn λnf y y y=>nf
 fl:=λst=>st.casesOn λy y y it=>yY it
 self:=λst q=>st.casesOn λy y y it=>wpAny_pyIter_keyiter it q
def Dg(W:Wd)(J:AH->Prop)(l:List V)(μ:Mu)(s:AG)(Q:AF->AG->Prop):Prop:=∀{o:B5} {St:Mu->AW->Nat->Prop},(∀{A':Ab},A'.handled=AE->nE W J l A' s.heap.objs.size St)->St μ (s.heap.push o) 0->Q (.ref s.heap.objs.size) {s with heap:=s.heap.push o}
section
variable(wk:nF W)(N:bC W μ H s.heap)
def LK(C:μ.l[j]?=AA (d,AE))(x:qM μ s.heap d l)
  (k:∀{o:B5} {t:Unit},(s.heap.objs.size∉foot μ->EF s.heap.objs.size j d μ (s.heap.push o) 0)->Q (.ref s.heap.objs.size) {s with heap:=s.heap.push o}):Wp W A (Bh<|.ref d) Q s:=
 let ⟨J,_⟩:=x;aEp (nc wk N C) J<|k (t:=()) λB=>⟨B,C,J.to<|cO _ _ _,⟨_,eC _ rfl,rfl,rfl⟩⟩
def Fu{k:Kd}(J:VR μ s.heap src cv)(x:It k src l H)(q:Dg W (It k src l) l μ s Q):Wp W A (Bh cv) Q s:=by
 have D:=N.out<|iU _;have M:∀{o:B5} {v:V} {c:AF},VR μ s.heap v c->VR μ (s.heap.push o) v c:=λr=>r.kp<|(ow<|cO _ _).kp .none
 cases x with
 |@tup l H=>
  refine J.gf (P:=λc=>VR μ s.heap (.tup l) c->Wp W A (Bh c) Q s) (λa B z x z z J=>?_) J;obtain⟨T⟩:=x;show wpAny_pyIter_tuple ⟨_,T,rfl,_,rfl⟩<|q aGG ⟨D,M J,⟨_,eC _ rfl,rfl,rfl⟩⟩
 |lst hl=>
  refine hl.at N J (P:=λc=>VR μ s.heap src c->Wp W A (Bh c) Q s) (λa B x z z J=>?_) J;obtain⟨T⟩:=x;show wpAny_pyIter_list ⟨_,T,rfl,_,rfl⟩<|q aGE ⟨D,M J,⟨_,eC _ rfl,rfl,rfl⟩⟩
 |dict hc=>show lD N hc J (P:=λc=>Wp W A (Bh c) Q s) λa cs C d r=>LK wk N C (LH d r) λy=>q (λL=>Q4 L Vf) (y D)|az hc=>show rF N hc J (P:=λc=>Wp W A (Bh c) Q s) λa cs C d r=>LK wk N C (RM d r) λy=>q (λL=>Q4 L aGr)<|y D
end
end
def pN(x:AK):Bool:=x.ctorIdx != 7
def sU{x:AK}(h:pN x=AB)(env:Bp)(v:AF):foldedSetIterable x env v=Ae v:=by
 rcases x with _|_<;>first|rfl|rcases h with _|_
variable{s₀:AG}{μ₀:Mu}{xb:List A9}{b:aL}{e:IE}
section
variable{F:ae}{St:Mu->AW->Nat->Prop}
def lX{m:Sem α}{R:α->AG->Prop}(h:Wp W A m R s):AQ (Ai W.prog W.w) A m R E s:=oQ h (λy y q=>q) λy y e=>e.elim
inductive Jr(W:Wd)(env:Bp)(μ:Mu)(s:AG)(c:ae->AH->(V->AH->Prop)->Prop)(b:ae->AH->(Fl->ae->AH->Prop)->Prop)(Q:Fl->ae->AH->Prop)(k:Nat)(s':AG):Prop
 |mk {μ':Mu} {F:ae} {H:AH} (X:gr W env μ s F H μ' s') (q:w9 c b k F H Q):Jr W env μ s c b Q k s'
set_option tactic.hygienic true in
def SS.eG{c:IE}{b:aL}(M:ST W n Y c xc)(E:gP W n Y b xb):SS W n Y (.eG c b)<|.While xc xb [] pos:=λ{F H Q env A s μ R} B K kk=>by
 obtain⟨B⟩:=B;rename_i k;refine wpAny_While<|codeAny_whileLoop (Jr W env μ s (bV W n c) (λF H Q=>ig W n b F H Q) Q) ?_ k ⟨K.s0,B⟩;intro k s₁ x;obtain⟨X,q⟩:=x;rename_i μ₁ T D;rcases k with _|k;show q.elim;refine lX (M q (K.tH X) λ{y t y y C} q y Y_=>?_);have J:=X.trans<|(K.tH X).sx Y_;rcases t with _|_
 .rw[aB aI] at q ⊢;show R6<|kk q J .aQ
 rw[aC rfl] at q ⊢;refine lX (E q (K.tH J) λq Y_ L=>?_);rcases L with _|_|_|r
 .show⟨k,c5 _,J.trans Y_,q⟩
 show kk q (J.trans Y_) .aQ
 .show⟨k,c5 _,J.trans Y_,q⟩
 show kk q (J.trans Y_)<|.ret r
def gr.but(X:gr W env μ₀ s₀ F H μ s)(D:s₀.heap.get? I=AE)(Y:W.h₀.get? I=AE)(Z:¬own env I)(L:I∉foot μ)(f:jt s.heap I)(J:jM I s.heap h'){tk:Nat}:gr W env μ₀ s₀ F H μ {s with heap:=h',toks:=tk}:=
 have ne:∀{b o},s₀.heap.get? b=AA o->b≠I:=λe q=>au<|D.symm.trans (q▸e);have T:=vJ f J
 ⟨X.g,X.o,⟨X.E.pre,X.E.gs,X.E.new,λb o e G M=>J b o (ne e)<|X.E.keep b o e G M,λb o e=>(X.E.live b o e).casesOn λB=>B.casesOn λR r=>⟨⟨J b _ (ne e) R,r⟩⟩,
  λi p C=>⟨(X.E.gE i p C).1,λq o e=>J _ _ (ne e)<|(X.E.gE i p C).2 q o e⟩,λa m o e=>J a o (ne e)<|X.E.gk a m o e⟩,
  X.N.to T (λa o m e=>J a o (λq=>L<|q▸m) e)<|λa o O e=>J a o (λq=>au<|Y.symm.trans (q▸O)) e,X.fo.to T λa o m e=>J a o (λq=>Z<|q▸m) e⟩
def lr.c{x:Nat}{b:ae->AH->(Fl->ae->AH->Prop)->Prop}{Q:Fl->ae->AH->Prop}(q:lr C_ x b l F H Q):C_ H:=by
 rcases l with _|_;show q.casesOn λc y=>c;show q.casesOn λc y=>c
inductive Ik(W:Wd)(env:Bp)(μ₀:Mu)(s₀:AG)(C_:AH->Prop)(l:List V)(St:Mu->AW->Nat->Prop)(x:Nat)(b:ae->AH->(Fl->ae->AH->Prop)->Prop)(Q:Fl->ae->AH->Prop)(k:Nat)(s':AG):Prop
 |mk {i:Nat} {r:List V} {μ' μ₂:Mu} {F:ae} {H H₂:AH} {h₂:AW} (hk:r.length=k) (hd:l.drop i=r) (X:gr W env μ₀ s₀ F H μ' s') (N:bC W μ₂ H₂ h₂) (c:C_ H₂) (st:St μ₂ h₂ i) (nX:ky (own env) h₂) (E:cS (own env) μ₂ h₂ μ' s'.heap) (q:lr C_ x b r F H Q):Ik W env μ₀ s₀ C_ l St x b Q k s'
def LP{l r:List α}{x:α}(h:l.drop i=x::r):l[i]?=AA x/\l.drop (i+1)=r:=by
 refine⟨?_,?_⟩
 .have:=aF (·[0]?) h
  rwa [JE] at this
 rw[<-List.tail_drop,h];rfl
def LS{l:List α}(h:l.drop i=[]):l[i]?=AE:=rX<|List.drop_eq_nil_iff.mp h
section
variable(K:Fr W n Y env A μ H F s)
set_option tactic.hygienic true in
def Wo{Q:Fl->ae->AH->Prop}(J:nE W C_ l A I St)(e:eW Y x=AB)(G:dH x=AB)(R:gP W n Y b xb)
  (C:s₀.heap.get? I=AE) (u:W.h₀.get? I=AE) (Z:¬own env I) (X:gr W env μ₀ s₀ F H μ s) (st:St μ s.heap 0) (q:lr C_ (aq x) (λF H Q=>ig W n b F H Q) l F H Q) {m:Result->AG->Prop}
  (S:KS W env μ₀ s₀ Q<|λf s'=>m (.ok f) s'):BJ (Ai W.prog W.w) A (.forLoop (.Name x px) (.ref I) xb [] env) m s:=by
 refine codeAny_forLoop (Ik W env μ₀ s₀ C_ l St (aq x) (λF H Q=>ig W n b F H Q) Q) ?_ l.length ⟨rfl,rfl,X,K.N,q.c,st,K.fo.n3,.refl,q⟩;intro k s₁ y;obtain⟨z,hd,X,L,D,st,t,E,q⟩:=y;rename_i i r μ₁ M p o H₂ j;have st:=J.keep E t Z L X.N D q.c st;rcases r with _|⟨v,r⟩
 .obtain⟨c,q⟩:=q;show lX<|J.done X.N c st (LS hd) λR=>R6 (S q (X.but C u Z (J.nf st) (J.fl st) R) .aQ)
 obtain⟨c,q⟩:=q;obtain⟨d1,g⟩:=LP hd;refine lX (J.item X.N c st d1 λ{h' tk cv} hc st' O=>?_);have B:=X.but C u Z (J.nf st) (J.fl st) O (tk:=tk);refine II (rE B.fo B.N K.eo (qZ e) (jH G) hc λY_=>?_);refine lX (R q ⟨K.wk,K.eo,K.rb,Y_.N,Y_.fo⟩ λq P a=>?_);have T:=(B.trans Y_).trans P;rcases a with _|_|_|d
 .show⟨r.length,z▸c5 _,rfl,g,T,B.N,c,st',B.fo.n3,(Y_.trans P).E,q⟩
 show S q T .aQ
 .show⟨r.length,z▸c5 _,rfl,g,T,B.N,c,st',B.fo.n3,(Y_.trans P).E,q⟩
 show S q T<|.ret d
set_option tactic.hygienic true in
def MD{Q:Fl->ae->AH->Prop}(L:eW Y x=AB)(B:dH x=AB)(M:gP W n Y b xb)(X:cF W μ s H' μ' s')(q:lr C_ (aq x) (λF H Q=>ig W n b F H Q) l F H' Q){D:Result->AG->Prop}
  (Z:KS W env μ s Q<|λf s'=>D (.ok f) s'):Dg W C_ l μ' s'<|λv s=>∀{a:AJ},v=.ref a->BJ (Ai W.prog W.w) A (.forLoop (.Name x px) (.ref a) xb [] env) D s:=λ{o St} hst J a e=>by
 injection e with e;subst e;have C:=iU s'.heap;have G:=cF.grow (tk:=s'.toks) X.N<|cO s'.heap o;have T:=X.trans G;show Wo (K.nx T) (hst K.rb.hd) L B M (X.E.none C) (X.N.qR C) ((K.nx X).fo.Pf C) (K.sx T) J q Z
end
def SS.forIn(T:SE W n Y e xe)(D:eW Y x=AB)(B:dH x=AB)(C:pN xe=AB)(L:gP W n Y b xb):
  SS W n Y (.forIn (aq x) e b) (.For (.Name x px) xe xb [] pos):=λ{F H Q env A s μ R} M K kk=>
 wpAny_For (T M K λq X r=>q.casesOn λit q=>Fu K.wk X.N r it λhst J=>MD K D B L X q kk hst J rfl)<|sU C env
end
variable{pc:An}
section
variable{F:ae}{St:Mu->AW->Nat->Prop}
inductive EE(h:AW)(r:AJ)(k:Nat):Prop
 |mk {t u v:Tok} (x:IsRange h r 0 (k:Int) 1 t u v):EE h r k
def HY{a:IE}(C:Y.names.lookup ("range":AN)=AA .globalImplicit)(D:("range":AN)∈W.f5)(T:SE W n Y a xa)(J:noStar xa=AB)(K:Fr W n Y env A μ H F s){P:Nat->AH->Prop}(e:bV W n a F H λv H=>Df v λk=>P k H)
  (h:∀{k:Nat} {H':AH} {μ':Mu} {s':AG} {r:AJ},P k H'->k<=aM->cF W μ s H' μ' s'->EE s'.heap r k->Q (.ref r) s'):
  Wp W A (eval (.Call (.Name "range" p) [xa] [] pos) env) Q s:=
 p0 (tA K C D (u:=.type "range") d_ d_ (uk (tK J) (xG T J K e λ{u B μ₁ cu s₁} q X hu=>by
  obtain⟨e,z,p⟩:=q;subst e;refine hu.cP (P:=λc=>Wp W A (call (.type "range") [c]) _ s₁) λt=>call_range_1 ?_;show h p z (X.trans<|.grow X.N (cO s₁.heap _)) ⟨eC _ rfl⟩)))
def xp{x:Int}(B:-1<=x)(J:x<=17000000):BK x=AB:=by
 unfold BK;rw[eQ];show⟨a6<|du ⋯ B,a6<|rU J ⋯⟩
def HZ(N:bC W μ H s.heap)(L:k<=aM){r:AJ}(x:EE s.heap r k)(q:Dg W (λy=>True) (jm k) μ s Q):Wp W A (Bh<|.ref r) Q s:=by
 obtain⟨T⟩:=x;have J:Builtin.Range.rangeSize 0 k 1=k:=by
  rw[rangeSize_one];split
  show Iw _;rename_i q;show(Iv (eI k)<|Int.not_lt.mp q)
 have C:=eI k;have D:=Int.ofNat_le.mpr L;have B:(k:Int)<=17000000:=du D ⋯
 refine wpAny_pyIter_range T ?_<|q aGF ⟨N.out<|iU _,?_⟩
 .unfold Builtin.Range.small;rw[J,aC ⋯,xp ⋯ ⋯,xp (du ⋯ C) B,xp ⋯ ⋯,xp (x:=k+(1-1)) (du ⋯<|du C (m7 (Int.add_zero _).symm))<|du (m7<|Int.add_zero _) B,IX]
  rfl
 rw[J];have e:(k-((0:Nat):Int))=k:=Iw _;rw[e];show eC _ rfl
def SS.forR(M:SE W n Y e xe)(J:noStar xe=AB)(L:Y.names.lookup ("range":AN)=AA .globalImplicit)(D:("range":AN)∈W.f5)(T:eW Y x=AB)(C:dH x=AB)(E:gP W n Y b xb):
  SS W n Y (.forR (aq x) e b) (.For (.Name x px) (.Call (.Name "range" p) [xe] [] pc) xb [] pos):=λ{F H Q env A s μ R} G K kk=>
 wpAny_For (HY L D M J K G λq z X r=>HZ X.N z r λJ B=>MD K T C E X q kk J B rfl)<|sU rfl env
end
variable{xb:AK}{l:Nat}{o:Option A5}
def EX(J:iA Y env):env.blockKind=.function:=by unfold Env.blockKind;rw[J.kind];rfl
def J7{f:AK->Bool}(C:noStar xa=AB)(B:noStar xb=AB)(J:∀x,noStar x=AB->f x=AD):[xa,xb].any f=AD:=by
 rw[rV,rV,J _ C,J _ B];rfl
def Ly{a b:AK}{f:AK->Option β}{o1 o2:Option β}(B:f a=o1)(J:f b=o2):List.filterMap f [a,b]=o1.toList++o2.toList:=by
 rw[wd,wd,B,J];rcases o1 with _|_<;>rcases o2 with _|_<;>rfl
def Pn(h:o=AA .local)(J:(p.line == l)=AB):(if (o == AA .local&&p.line == l)=AB then AA x else AE)=AA x:=by rw[h,J];rfl
def Pm(h:o=AA .cell):(if (o == AA .local&&p.line == l)=AB then AA x else AE)=AE:=by rw[h];rfl
def aBu{a b:Option α}(h:a=AE\/b=AE):((a.toList++b.toList).length != 2)=AB:=by
 rcases a with _|_<;>rcases b with _|_<;>first|rfl|(rcases h with h|h<;>rcases h with _|_)
def Cv(Y:Ac)(x y:AN)(D C:An)(B J:AK):Bool:=
 (Y.names.lookup x == AA .local)&&(Y.names.lookup y == AA .local)&&D.line == C.line&&!(y == x)&&noStar B&&noStar J&&!([B,J].all<|foldedForSure 8)&&!([B,J].all<|constantsAlone 8)
def aGX(h:Cv Y x y px py xa xb=AB)(B:iA Y env):
  A4 [.Tuple [.Name x px,.Name y py] k p] (.Tuple [xa,xb] k' p') env=Ae (AA [x,y]):=by
 unfold Cv at h;simp only[eQ,wL] at h;obtain⟨⟨⟨⟨⟨⟨⟨S,A⟩,R⟩,D⟩,O⟩,Z⟩,G⟩,E⟩:=h;have L:=B.loc x<|cJ S;have T:=B.loc y<|cJ A;have hl:(py.line == px.line)=AB:=cJ R▸j0 _;have hb:=EX B;have J:¬y=x:=λq=>by rw[q,j0] at D;rcases D with _|_
 have hn:([A0 x px,.Name y py].filterMap λ| .Name C pos=>if (env.kindOf C == AA .local&&pos.line == px.line)=AB then AA C else AE|_=>AE)=[x,y]:=Ly (o1:=AA x) (o2:=AA y) (Pn L<|j0 _)<|Pn T hl
 have I:¬((!(([A0 x px,.Name y py].length == 2)||([A0 x px,.Name y py].length == 3))||[xa,xb].length != [A0 x px,.Name y py].length||env.blockKind != .function)=AB):=hb.symm▸aI;have P:∀{l:List AN},l=[x,y]->¬((l.length != 2||l.eraseDups.length != l.length)=AB):=λe=>by rw[e];simp [J,List.eraseDups_cons]
 show(aB I).trans<|(aB λq=>aI<|(J7 O Z λz M=>by rcases z with _|_<;>first|rfl|rcases M with _|_).symm.trans q).trans ((aB<|P hn).trans<|(aB<|G▸aI).trans ((aB<|E▸aI).trans<|aF (λn=>(Ae<|AA n)) hn))
def xR(Y:Ac)(x y:AN)(B J:AK):Bool:=noStar B&&noStar J&&((Y.names.lookup x == AA .cell)||(Y.names.lookup y == AA .cell))
def VD(h:xR Y x y xa xb=AB)(B:iA Y env):
  A4 [.Tuple [.Name x px,.Name y py] k p] (.Tuple [xa,xb] k' p') env=Ae AE:=by
 unfold xR at h;rw[eQ,eQ,rP] at h;obtain⟨⟨T,D⟩,h⟩:=h;have hb:=EX B;have M:¬((!(([A0 x px,.Name y py].length == 2)||([A0 x px,.Name y py].length == 3))||[xa,xb].length != [A0 x px,.Name y py].length||env.blockKind != .function)=AB):=hb.symm▸aI;have q:((if (env.kindOf x == AA .local&&px.line == px.line)=AB then AA x else AE).toList++(if (env.kindOf y == AA .local&&py.line == px.line)=AB then AA y else AE).toList:List AN).length != 2:=
  aBu<|h.imp (λh=>Pm<|B.cell x (cJ h)) λh=>Pm (B.cell y<|cJ h)
 have L:(([A0 x px,.Name y py].filterMap λ| .Name J pos=>if (env.kindOf J == AA .local&&pos.line == px.line)=AB then AA J else AE|_=>AE).length != 2||([A0 x px,.Name y py].filterMap λ| .Name J pos=>if (env.kindOf J == AA .local&&pos.line == px.line)=AB then AA J else AE|_=>AE).eraseDups.length != ([A0 x px,.Name y py].filterMap λ| .Name J pos=>if (env.kindOf J == AA .local&&pos.line == px.line)=AB then AA J else AE|_=>AE).length)=AB:=by
  rw[Ly rfl rfl,rP];show .inl q
 show(aB M).trans<|(aB λq=>aI<|(J7 T D λz C=>by rcases z with _|_<;>first|rfl|rcases C with _|_).symm.trans q).trans (aC L)
structure uA(env:Bp)(l:List (AN×A5))(cl:List (AN×AJ)):Prop where
 sub:∀p∈cl,env.cells.lookup p.1=AA p.2
 all:∀y∈l,y.2=.free->∃c,(y.1,c)∈cl
inductive Ia(env:Bp)(l:List (AN×A5))(acc:List (AN×AJ))(m:Sem (List (AN×AJ))):Prop
 |mk {cl:List (AN×AJ)} (e:m=Ae cl) (c:uA env l cl) (o:∀p∈acc,p∈cl)
theorem El(f:AN×A5->List (AN×AJ)->Sem (ForInStep<|List (AN×AJ)))
  (L:∀name kind cs,f (name,kind) cs=if (kind == .free)=AB then(do let c <-cellOf env name;Ae<|.yield ((name,c)::cs)) else Ae (.yield cs)):
  ∀(l:List<|AN×A5) (acc:List<|AN×AJ),(∀y∈l,y.2=.free->∃c,env.cells.lookup y.1=AA c)->(∀p∈acc,env.cells.lookup p.1=AA p.2)->Ia env l acc (forIn l acc f)
 | []=>λacc z h=>⟨by rw[List.forIn_nil],⟨h,λz q=>aW q⟩,λz q=>q⟩|(name,kind)::r=>λacc hl h=>by
  rw[List.forIn_cons,L];by_cases D:(kind == BF)=AB
  .obtain⟨c,hc⟩:=hl (name,kind) h_<|lB.mp D;obtain⟨e,⟨E,M⟩,T⟩:=El f L r ((name,c)::acc) (λy J=>hl y<|.tail _ J) (λp C=>(JJ.mp C).elim (λe=>e▸hc)<|h p);refine⟨?_,⟨E,λy J B=>(JJ.mp J).elim (λe=>⟨c,e▸T _ h_⟩) λJ=>M y J B⟩,λp C=>T p<|.tail _ C⟩;rw[aC D,show cellOf env name=Ae c by unfold cellOf;rw[hc]]
   show e
  obtain⟨e,⟨E,M⟩,T⟩:=El f L r acc (λy J=>hl y<|.tail _ J) h;refine⟨?_,⟨E,λy J B=>(JJ.mp J).elim (λe=>absurd (lB.mpr<|(e▸B:(name,kind).2=.free)) D) λJ=>M y J B⟩,T⟩;rw[aB D];show e
variable{scope:Ac}
def xT(B:∀y∈scope.names,y.2=.free->∃c,env.cells.lookup y.1=AA c):Ia env scope.names []<|closureFor scope env:=by
 have J:∃f:AN×A5->List (AN×AJ)->Sem (ForInStep<|List (AN×AJ)),closureFor scope env=(forIn scope.names [] f >>= Ae)/\
   ∀name kind cs,f (name,kind) cs=if (kind == .free)=AB then(do let c <-cellOf env name;Ae<|.yield ((name,c)::cs)) else Ae (.yield cs):=by
  refine⟨_,rfl,λname kind cs=>?_⟩
  dsimp only
 obtain⟨f,D,C⟩:=J;obtain⟨e,c,o⟩:=El f C scope.names [] B (λz q=>aW q);show⟨by rw[D,e];rfl,c,o⟩
def Mu.ghost(μ:Mu)(J:AJ):Mu:=⟨J::μ.g,μ.l,μ.st⟩
variable{h₁:AW}
section
variable{μ₁:Mu}{H₂:AH}
def u7(m:a∈foot (μ.ghost D_)):a=D_\/a∈foot μ:=JJ.mp m
def sV(m:a∈foot μ):a∈foot (μ.ghost D_):=Du _ m
def Ua:D_∈foot (μ.ghost D_):=qB
section
variable(E:cS Y_ μ₁ h₁ μ h)
def cS.off(D:cS X μ h μ' h')(C:∀a,X a->h₁.get? a=CU):cS Y_ μ₁ h₁ μ' h':=
 have T:cS (λa=>Y_ a\/X a) μ₁ h₁ μ' h':=(E.weaken λy=>.inl).trans<|D.weaken λy=>.inr
 ⟨T.pre,T.gs,T.new,λb o e B J=>T.keep b o e B λq=>q.elim J λq=>au<|(C b q).symm.trans e,T.live,T.gE,T.gk⟩
def cS.heap(k:∀b o,h₁.get? b=AA o->∀o',h.get? b=AA o'->h'.get? b=AA o'):cS Y_ μ₁ h₁ μ h':=
 ⟨E.pre,E.gs,E.new,λb o e D B=>k b o e _<|E.keep b o e D B,λb o e=>(E.live b o e).casesOn λJ=>J.casesOn λT r=>⟨⟨k b o e _ T,r⟩⟩,λi p C=>⟨(E.gE i p C).1,λq o e=>k _ o e _<|(E.gE i p C).2 q o e⟩,λa m o e=>k a o e _<|E.gk a m o e⟩
end
def GN(B:h.get? D_=AE)(J:∀b o,h.get? b=AA o->h'.get? b=AA o):Kp μ h (μ.ghost D_) h':=
 ⟨oU _,λa m=>(u7 m).elim (λe=>.inr<|e▸B) .inl,λb o y y e y y=>J b o e⟩
def bC.ghost(N:bC W μ H h)(B:h.get? D_=AE)(J:∀b o,h.get? b=AA o->h'.get? b=AA o)(D:∃o,h'.get? D_=AA o):bC W (μ.ghost D_) H h' where
 base:=λb o e=>J b o<|N.base b o e
 fresh:=λa m=>(u7 m).elim (λe=>e▸N.qR B)<|N.fresh a
 apart:=List.nodup_cons.mpr ⟨N.out B,N.apart⟩
 jf:=λa m=>(JJ.mp m).elim (λe=>e▸D) λm=>(N.jf a m).elim λo e=>⟨o,J a o e⟩
 len:=N.len
 dT:=λe=>(N.dT e).kp (GN B J) (λp C a ha o=>J a o) rfl
def N9:Kp (μ.ghost D_) h μ h:=⟨oU _,λa m=>.inl<|sV m,λb o y y e y y=>e⟩
section
variable(N:bC W (μ.ghost D_) H h)
def bC.nf:D_∉foot μ:=(List.nodup_cons.mp N.apart).1
def bC.drop:bC W μ H h:=
 ⟨N.base,λa m=>N.fresh a<|sV m,(List.nodup_cons.mp N.apart).2,λa m=>N.jf a<|.tail _ m,N.len,λe=>(N.dT e).kp N9 (λp C a ha o=>id) rfl⟩
end
def zu(m:a∈foot (μ.push (D_,AE))):a∈foot (μ.ghost D_):=(FJ m).elim sV λm=>(JK.mp m)▸Ua
def N7:Kp (μ.ghost D_) h (μ.push (D_,AE)) h:=⟨rZ _ _,λa m=>.inl<|zu m,λb o y y e y y=>e⟩
def bC.adopt(N:bC W (μ.ghost D_) H h){c:Cell}(B:CR W (μ.push (D_,AE)) h (D_,AE) c)(J:stampOf c=AE):bC W (μ.push (D_,AE)) (H++[c]) h where
 base:=N.base
 fresh:=λa m=>N.fresh a<|zu m
 apart:=FK μ (D_,AE)▸JL.mpr ⟨N.drop.apart,Qt D_,λa ha b hb e=>N.nf<|(show a=D_ from e.trans<|JK.mp hb)▸ha⟩
 jf:=λa m=>N.jf a<|.tail _ m
 len:=by change(μ.l++[_]).length=_;rw[a5,a5,show μ.l.length=H.length from N.len];rfl
 dT:=λe=>by
  have hl:=N.len;rcases J9 e with e|⟨hi,e⟩
  .show(N.dT e).kp N7 (λp C a ha o=>id)<|aB (eV<|hl▸(List.getElem?_eq_some_iff.mp e).1)
  rw[hi,<-e];show⟨hl▸yn _ _,B,λk q=>au<|J.symm.trans q⟩
def aDi(N:bC W μ H h)(B:D_∈μ.g){p:AJ×Option AJ}(C:μ.l[i]?=AA p)(J:a∈adr p):a≠D_:=λq=>
 (JL.mp N.apart).2.2 D_ B a (List.mem_flatMap.mpr ⟨p,eK C,J⟩) q.symm
def GO(C:D_∈μ.g)(B:jM D_ h h'):Kp μ h μ h':=⟨oU _,λy m=>.inl m,λb o xs n e y J=>B b o (λq=>J<|q▸gF _ C) e⟩
def bC.aDn(N:bC W μ H h)(B:D_∈μ.g)(J:jM D_ h h')(L:∃o,h'.get? D_=AA o):bC W μ H h':=
 ⟨λb o e=>J b o (λq=>au<|(N.fresh D_<|gF _ B).symm.trans (q▸e))<|N.base b o e,N.fresh,N.apart,λa D=>(lb<|a=D_).elim (λq=>q▸L) λq=>(N.jf a D).elim λo T=>⟨o,J a o q T⟩,N.len,
  λe=>(N.dT e).kp (GO B J) (λp C a ha o=>J a o<|aDi N B C ha) rfl⟩
def cS.Rj(E:cS X (μ₁.ghost D_) h₁ μ' h)(J:h₁.get? D_=CU)(C:μ₁.l <+:μ''.l)(L:μ''.g=μ₁.g)(M:∀a∈foot μ'',a∈foot μ')(T:∀i,i<μ'.l.length->μ''.st i=μ'.st i):cS X μ₁ h₁ μ'' h where
 pre:=C
 gs:=L
 new:=λa m=>(E.new a<|M a m).elim (λm=>(u7 m).elim (λe=>.inr<|e▸J) .inl) .inr
 keep:=λb o e D=>E.keep b o e λm=>(u7 m).elim (λq=>au<|J.symm.trans (q▸e)) D
 live:=λb o e=>(E.live b o e).casesOn λB=>B.casesOn λG r=>⟨⟨G,λm=>r<|sV m⟩⟩
 gE:=λi p q=>(T i (List.getElem?_eq_some_iff.mp<|lO E.pre q).1)▸E.gE i p q
 gk:=λa m=>E.gk a<|.tail _ m
def VQ{ws:List V}(E:Ext (μ₁.ghost D_) h₁ μ' h)(N:bC W μ' H₂ h)(C:XL h D_ cvs)(B:aT μ' h ws cvs)(J:h₁.get? D_=AE)(z:ws.length<=aM)(r:LR ws H₂ v H')
  (k:∀{μ'':Mu},Ext μ₁ h₁ μ'' h->bC W μ'' H' h->VR μ'' h v (.ref D_)->(∀a∈foot μ'',a∈foot μ')->P):P:=by
 have D:=E.gs;obtain⟨g,l,st⟩:=μ';subst D;have N:=N
 induction r using LR.casesOn with
 |val=>show k (μ'':=⟨μ₁.g,l,st⟩) (E.Rj J E.pre rfl (λy m=>sV m) λy y=>rfl) N.drop ⟨rfl,N.nf,C,z,aT.kp N9 ws B⟩ (λy m=>sV m)|cell=>show k (μ'':=(⟨μ₁.g,l,st⟩:Mu).push (D_,AE)) (E.Rj J (E.pre.trans<|rZ _ _) rfl (λy m=>zu m) λy hi=>aB<|eV hi) (N.adopt ⟨rfl,z,C,aT.kp N7 ws B⟩ rfl) (VR.vY (p:=(D_,AE))<|(N.len.symm)▸yn _ _) λy m=>zu m
end
structure lq(Y sc2:Ac)(x:AN):Prop where
 kind:sc2.kind=.function
 cell:∀y∈sc2.names,y.2≠.cell
 loc:∀y∈sc2.names,y.2=.local->sc2.names.lookup y.1=AA .local
 M8:sc2.names.lookup x=AA .local
 ok:eB x
 only:∀y∈sc2.names,y.2=.local->eB y.1->y.1=x
 free:∀y∈sc2.names,y.2=.free->Y.names.lookup y.1=AA .cell\/Y.names.lookup y.1=AA .free
theorem mem_of_lookup:∀{l:List<|AN×β} {x:AN} {b:β},l.lookup x=AA b->(x,b)∈l
 | [],_,_=>λh=>au h|(n,k)::r,x,b=>λh=>by
  rw[qA] at h;rcases q:x == n with _|_
  .rw[q] at h;show .tail _<|mem_of_lookup h
  rw[q] at h;rw[cJ q,<-ai h];show .head _
theorem lookup_some:∀{l:List<|AN×β} {x:AN} {b:β},(x,b)∈l->∃c,l.lookup x=AA c
 |(n,k)::r,x,b,h=>by
  rw[qA];rcases q:x == n with _|_
  .show(JJ.mp h).elim (λe=>by rw[l6 e |>.1,j0] at q;rcases q with _|_) lookup_some
  show⟨k,rfl⟩
def pR(env:Bp)(x:AN)(k:A5):A5:=if (k == BF&&env.scope.kind == .function&&env.kindOf x == AA .cell) then BG else k
theorem OZ{env:Bp}:∀{J:List<|AN×A5} {x:AN},
  (J.map λ(n,k)=>if (k == BF&&env.scope.kind == .function&&env.kindOf n == AA .cell) then(n,BG) else(n,k)).lookup x=(J.lookup x).map (pR env x)
 | [],x=>rfl|(n,k)::r,x=>by
  have B:=@OZ env r x;have e:(if (k == BF&&env.scope.kind == .function&&env.kindOf n == AA .cell)=AB then(n,BG) else(n,k))=(n,pR env n k):=by unfold pR;split<;>rfl
  change List.lookup x ((if (k == BF&&env.scope.kind == .function&&env.kindOf n == AA .cell)=AB then(n,BG) else(n,k))::_)=_
  rw[e,qA,qA];rcases hx:x == n with _|_;show B;rw[cJ hx];rfl
variable{sc2:Ac}{cl:List (AN×AJ)}
section
variable{F:ae}
def uo(y:AN):(BP sc2 cl D_ env).kindOf y=(sc2.names.lookup y).map (pR env y):=OZ
def QV{k:A5}(h:k≠.free):pR env y k=k:=aB λq=>h<|cJ (eQ _ _▸(eQ _ _▸q).1).1
def QU:pR env y .free=.cell\/pR env y .free=.free:=by
 unfold pR;split;show .inl rfl;show .inr rfl
def VS(K:lq Y sc2 x)(B:iA Y env)(C:uA env sc2.names cl):iA sc2 (BP sc2 cl D_ env) where
 kind:=K.kind
 g:=B.g
 b:=B.b
 loc:=λy J=>by rw[uo,J];rfl
 cell:=λy J=>absurd rfl<|K.cell _ (mem_of_lookup J)
 free:=λy J=>by
  rw[uo,J];show(QU).imp (aF AA)<|aF AA
 glob:=λy J=>by rw[uo,J];rfl
 cells:=λy J=>J.elim (λJ=>absurd rfl<|K.cell _ (mem_of_lookup J)) λJ=>(C.all _ (mem_of_lookup J) rfl).elim λc hc=>lookup_some hc
def without(F:ae)(n:Nat):ae:=λk=>if k=n then AE else F k
def Rw(F:ae)(n:Nat)(v:V):upd (without F n) n v=upd F n v:=by
 funext k;unfold upd without;split<;>rfl
def aIM:without F n n=AE:=aC rfl
def aIL(e:without F n k=AA v):F k=AA v:=by
 unfold without at e;split at e;show au e;show e
def FO.less(J:FO W μ F h env m cm)(B:∀k v,F' k=AA v->F k=AA v):FO W μ F' h env m cm:=
 ⟨J.ns,J.out,J.old,J.cell,J.apart,λnm v a b c=>J.loc nm v a (B _ _ b) c,λnm v a b c=>J.dT nm v a (B _ _ b) c⟩
def eH.less(B:eH W μ F h env)(J:∀k v,F' k=AA v->F k=AA v):eH W μ F' h env:=B.casesOn λf=>⟨f.less J⟩
def eH.out(B:eH W μ F h env)(J:own env a):a∉foot μ:=B.casesOn λf=>(f.HG J).1
def kinds(K:lq Y sc2 x)(k:(BP sc2 cl D_ env).kindOf y=AA .local):sc2.names.lookup y=AA .local:=by
 rw[uo] at k;obtain⟨C,B,J⟩:=Option.map_eq_some_iff.mp k;rw[B];by_cases q:C=.free
 .rw[q] at J;rcases QU with r|r<;>(rw[r] at J;rcases J with _|_)
 rw[QV q] at J;rw[J]
def aBB(K:lq Y sc2 x)(k:(BP sc2 cl D_ env).kindOf y=AA .cell\/(BP sc2 cl D_ env).kindOf y=AA .free):sc2.names.lookup y=AA .free:=by
 rw[uo] at k;rcases q:sc2.names.lookup y with _|J
 .rw[q] at k;rcases k with k|k<;>rcases k with _|_
 rw[q] at k;by_cases r:J=.free
 .rw[r]
 rw[EA,QV r] at k;rcases k with k|k;show absurd (ai k)<|K.cell _ (mem_of_lookup q);show absurd (ai k) r
def VT(K:lq Y sc2 x)(Z:iA Y env)(E:FO W μ F h env m cm)(B:uA env sc2.names cl)
  {G:AN->Option AF} (L:h.Ns D_ G) (D:D_∉foot μ) (hold:W.h₀.get? D_=AE) (M:∀n,env.cells.lookup n≠AA D_):FO W μ (without F<|aq x) h (BP sc2 cl D_ env) G cm where
 ns:=L
 out:=D
 old:=hold
 cell:=λn c hc=>have C:=B.sub _<|mem_of_lookup hc;have q:=E.cell n c C;⟨q.is,q.out,q.old,λq=>M n<|C.trans (aF AA q)⟩
 apart:=λn O c a b=>E.apart n O c (B.sub _<|mem_of_lookup a)<|B.sub _ (mem_of_lookup b)
 loc:=λnm v hn e k=>au<|aIM.symm.trans ((K.only _ (mem_of_lookup<|kinds K k) rfl hn:nm=x)▸e)
 dT:=λnm v hn e k=>by
  have J:=aBB K k;have R:=(K.free _ (mem_of_lookup J) rfl).elim (λq=>.inl<|Z.cell _ q)<|Z.free _;obtain⟨P,S,A⟩:=E.dT nm v hn (aIL e) R;obtain⟨c',C⟩:=B.all _ (mem_of_lookup J) rfl;obtain⟨I,T⟩:=lookup_some C;have q:env.cells.lookup nm=AA I:=B.sub _<|mem_of_lookup T;rw[P] at q;show⟨(ai q)▸T,S,A⟩
end
inductive lh(W:Wd)(F:ae)(env:Bp)(D_:AJ)(μ₀:Mu)(s₀:AG)(ys:List V)(H:AH)(μ':Mu)(s':AG):Prop
 |mk {cvs:List AF} (g:s'.gens=s₀.gens) (o:s'.os=s₀.os) (G:Ext (μ₀.ghost D_) s₀.heap μ' s'.heap) (N:bC W μ' H s'.heap) (fo:eH W μ' F s'.heap env) (hD:XL s'.heap D_ cvs) (hv:aT μ' s'.heap ys cvs):lh W F env D_ μ₀ s₀ ys H μ' s'
inductive Ic(W:Wd)(F:ae)(env:Bp)(D_:AJ)(μ₀:Mu)(s₀:AG)(C_:AH->Prop)(l:List V)(St:Mu->AW->Nat->Prop)(x:Nat)(el:ae->AH->(V->AH->Prop)->Prop)(Q:List V->AH->Prop)(k:Nat)(s':AG):Prop
 |mk {i:Nat} {r ys:List V} {μ':Mu} {H:AH} (hk:r.length=k) (hd:l.drop i=r) (hy:ys.length+r.length=l.length) (S:lh W (without F x) env D_ μ₀ s₀ ys H μ' s') (st:St μ' s'.heap i) (q:kn C_ el x F r H λzs H=>Q (ys++zs) H):Ic W F env D_ μ₀ s₀ C_ l St x el Q k s'
variable{l ys:List V}{x:Nat}{Q:List V->AH->Prop}{elt:IE}
section
variable{F:ae}{St:Mu->AW->Nat->Prop}
def kn.c{el:ae->AH->(V->AH->Prop)->Prop}(q:kn C_ el x F l H Q):C_ H:=by
 rcases l with _|_;show q.casesOn λc y=>c;show q.casesOn λc y=>c
def lh.but(S:lh W F env D_ μ₀ s₀ ys H μ s)(C:s₀.heap.get? I=AE)(T:W.h₀.get? I=AE)(L:¬own env I)(D:I∉foot μ)(f:jt s.heap I)(J:jM I s.heap h'){tk:Nat}:lh W F env D_ μ₀ s₀ ys H μ {s with heap:=h',toks:=tk}:=
 have B:=vJ f J
 let ⟨g,o,G,N,E,M,hv⟩:=S
 ⟨g,o,G.heap λb o e o'=>J b o' λq=>au<|C.symm.trans (q▸e),N.to B (λa o m=>J a o λq=>D<|q▸m)<|λa o Y=>J a o λq=>au (T.symm.trans<|q▸Y),E.to B λa o m=>J a o λq=>L<|q▸m,
  M.at λo=>J _ o λq=>D<|q▸gF _ (G.gs▸qB),hv.kp B⟩
def lh.more{w:V}(g:s.gens=s₀.gens)(o:s.os=s₀.os)(G:Ext (μ₀.ghost D_) s₀.heap μ s.heap)(D:s₀.heap.get? D_=AE)(N:bC W μ H s.heap)(L:eH W μ (upd F x v) s.heap env)(E:aT μ s.heap ys cvs)(M:VR μ s.heap w cw)(J:jM D_ s.heap h')(T:XL h' D_<|cvs++[cw]){tk:Nat}:
  lh W (without F x) env D_ μ₀ s₀ (ys++[w]) H μ {s with heap:=h',toks:=tk}:=
 have C:=G.gs▸qB;have B:=GO C J
 ⟨g,o,G.heap λb o e o'=>J b o' λq=>au<|D.symm.trans (q▸e),N.aDn C J T.some,(L.to B λa o m=>J a o λq=>L.out m<|q▸gF _ C).less λk u e=>by
  unfold without at e;unfold upd;split at e;show au e;rename_i q;rw[aB q];show e,T,aT.append (E.kp B)<|.one (M.kp B)⟩
set_option tactic.hygienic true in
def VW{x:AN}
  (wk:nF W) (R:Rb A n) (J:nE W C_ l A I St) (eo:iA Y env) (hx:Y.names.lookup x=AA .local) (P:eB x) (he:SE W n Y elt xe)
  (L:s₀.heap.get? I=AE) (Z:W.h₀.get? I=AE) (K:¬own env I) (d:s₀.heap.get? env.locals=AE) (m:s₀.heap.get? D_=AE) (T:l.length<=aM)
  (S:lh W (without F<|aq x) env D_ μ₀ s₀ [] H μ s) (st:St μ s.heap 0) (q:kn C_ (λF H Q=>bV W n elt F H Q) (aq x) F l H Q) {Rr:Result->AG->Prop}
  (hR:∀{ws:List V} {H':AH} {s':AG} {μ':Mu},Q ws H'->ws.length=l.length->lh W (without F<|aq x) env D_ μ₀ s₀ ws H' μ' s'->Rr (.ok .next) s'):
  BJ (Ai W.prog W.w) A (.compLoop (.ListComp xe [⟨.Name x px,xi,[],0⟩] scope pos) 0 (.ref I) (.ref D_) env) Rr s:=by
 refine codeAny_compLoop_tests (Ic W F env D_ μ₀ s₀ C_ l St (aq x) (λF H Q=>bV W n elt F H Q) Q) ?_ l.length ⟨rfl,rfl,cT _,S,st,q⟩;intro k s₁ y;obtain⟨hk,hd,O,S,st,q⟩:=y;rename_i i r ys μ₁ H₁;have c:=q.c;rcases r with _|⟨v,r⟩
 .obtain⟨_,q⟩:=q;have N:=let ⟨_,_,_,N,_,_,_⟩:=S;N;rw[fJ] at q;show lX<|J.done N c st (LS hd) λhb=>hR q O (S.but L Z K (J.nf st) (J.fl st) hb)
 obtain⟨_,q⟩:=q;obtain⟨d1,d2⟩:=LP hd;have N:=let ⟨_,_,_,N,_,_,_⟩:=S;N;refine lX (J.item N c st d1 λ{h' tk cv} hc st' X=>?_);obtain⟨g,o,G,N,fo,p,hv⟩:=S.but L Z K (J.nf st) (J.fl st) X;refine II (Q7 fo N eo hx P hc λY_=>?_);rw[List.forIn_nil];refine bA ?_;rw[aC rfl];refine lX (he q ⟨wk,eo,R,Y_.N,Rw F (aq x) v▸Y_.fo⟩ λ{w z z z t} q C Z=>?_);have E:=Y_.E.trans C.E.any;have b:=λa o e=>fo.n3 a o<|.inl e;have f:=G.off E λa e=>e▸d;have hg:D_∈μ₁.g:=G.gs▸qB;obtain⟨p⟩:=p;have u:=E.gk D_ hg _ p;have D:=J.keep E b (λq=>K<|.inl q) N C.N c q.c st';refine append_at u (λh5 B j=>?_) ?_
 .refine⟨r.length,hk▸c5 _,rfl,d2,by rw[a5,bH,bQ [w].length];show O,lh.more ((C.g.trans Y_.g).trans g) ((C.o.trans Y_.o).trans o) f m C.N (Rw F (aq x) v▸Y_.fo.ext C.E) (aT.ext E b _ hv) Z (jU B) ⟨JM _ _▸j⟩,
   J.grow C.N (GO (f.gs▸qB)<|jU B) (J.nf D) (.inl<|f.gs▸qB) (jU B) D,?_⟩
  have e:(λM H=>Q ((ys++[w])++M) H)=λM H=>Q (ys++w::M) H:=funext λM=>by rw[bp];rfl
  rw[e];show q
 rw[bu,hv.length];show aA (aA (O▸aY _ _) T) Hm
end
structure wO(W:Wd)(env:Bp)(s₀:AG)(Cd:AJ)(μ':Mu)(s':AG):Prop where
 ns:∃m',s'.heap.Ns Cd m'
 nf:Cd∉foot μ'
 w:W.h₀.get? Cd=AE
 s:s₀.heap.get? Cd=AE
 no:¬own env Cd
variable{x:AN}{Q:V->AH->Prop}{Cd:AJ}{it:IE}{spos:An}
section
variable{F:ae}{St:Mu->AW->Nat->Prop}
def G5(J:h.objs.size<=a):h.get? a=AE:=by
 rcases e:h.get? a with _|o';rfl;show absurd (iP e)<|Nat.not_lt.mpr J
def eH.Pd(B:eH W μ F h env)(J:h.get? a=AE):a≠env.locals/\∀k,env.cells.lookup k≠AA a:=
 have q:=B.Pf J
 ⟨λe=>q<|.inl e,λk e=>q<|.inr ⟨k,e⟩⟩
set_option tactic.hygienic true in
def VU{j:AW}{tk:Nat}
  (K:lq Y scope x) (he:SE W n scope elt xe) (J:Fr W n Y env A μ H F s) (d:uA env scope.names cl) (P:nE W C_ l A s.heap.objs.size St) (z:St μ j 0) (Z:l.length<=aM) (q:kn C_ (λF H Q=>bV W n elt F H Q) (aq x) F l H λws H=>qE ws H Q)
  (R:∀b o,s.heap.get? b=AA o->j.get? b=AA o) (C:∀b o,j.get? b=AA o->h₁.get? b=AA o) (I:j.get? D_=AE) (M:s.heap.get? D_=AE) (D:s.heap.get? Cd=AE) (i:s.heap.objs.size≠D_) (hIC:s.heap.objs.size≠Cd) (hDC:D_≠Cd)
  (X:h₁.get? D_=AA {cls:=.type "list",data:=.seq ([]:List AF).toArray 0}) {m':AN->Option AF} (hns:h₁.Ns Cd m')
  (X0:cF W μ₀ s₀ H μ s) {RR:Result->AG->Prop} (hRR:∀{s':AG} {μ':Mu} {v:V} {H':AH},Q v H'->cF W μ₀ s₀ H' μ' s'->VR μ' s'.heap v (.ref D_)->wO W env s₀ Cd μ' s'->RR (.ok .next) s'):
  BJ (Ai W.prog W.w) A (.compLoop (.ListComp xe [⟨.Name x px,xi,[],0⟩] scope pos) 0 (.ref s.heap.objs.size) (.ref D_)<|BP scope cl Cd env) RR {s with heap:=h₁,toks:=tk}/\St (μ.ghost D_) h₁ 0:=by
 have T:=λb o e=>C b o<|R b o e;have L:=iU s.heap;have O:∀{a:AJ},s.heap.get? a=AE->a≠D_->a∉foot (μ.ghost D_):=λhn ne q=>(u7 q).elim ne<|J.N.out hn;have B:=P.grow (J.N.grow R) (GN I C) (O L i) (.inr I) (λb o y e=>C b o e) z;obtain⟨c1,c2⟩:=J.fo.Pd D;obtain⟨fo⟩:=J.fo;have foi:=VT K J.eo (fo.to (GN M T) λa o y e=>T a o e) d hns (O D<|ku hDC) (J.N.qR D) c2;have t:¬own (BP scope cl Cd env) s.heap.objs.size:=λq=>q.elim hIC λu=>u.elim λk q=>(J.fo.Pd L).2 k<|d.sub _ (mem_of_lookup q);refine⟨VW (s:={s with heap:=h₁,toks:=tk}) J.wk J.rb P (VS K J.eo d) K.M8 K.ok he L (J.N.qR L) t D M Z
  ⟨rfl,rfl,ow T,J.N.ghost M T ⟨_,X⟩,⟨foi⟩,⟨X⟩,.nil⟩ B q λq hl S=>?_,B⟩
 obtain⟨g,o,G,N,fo',X,hv⟩:=S;obtain⟨r,q⟩:=q;show VQ G N X hv M (hl▸Z) r λE N' p hs=>hRR q (X0.trans ⟨g,o,E,N'⟩) p<|fo'.casesOn λf=>⟨⟨_,f.ns⟩,λm=>f.out<|hs _ m,f.old,X0.E.none D,λq=>q.elim c1 λu=>u.elim λk q=>c2 k q⟩
def xZ{o:B5}
  (K:lq Y scope x) (u:SE W n scope elt xe) (p:Fr W n Y env A μ H F s) (z:uA env scope.names cl) (G:nE W C_ l A s.heap.objs.size St) (P:St μ (s.heap.push o) 0) (Z:l.length<=aM) (q:kn C_ (λF H Q=>bV W n elt F H Q) (aq x) F l H λws H=>qE ws H Q)
  (m:cF W μ₀ s₀ H μ s) {k:AF->AJ->Result->AG->Prop} (X:∀{Cd D_:AJ} {s':AG} {μ':Mu} {v:V} {H':AH},Q v H'->cF W μ₀ s₀ H' μ' s'->VR μ' s'.heap v (.ref D_)->wO W env s₀ Cd μ' s'->k (.ref D_) Cd (.ok .next) s'):
  Wp W A (newList []) (λacc L=>Wp W A (newFunctionEnv scope env.globals cl [] env.qual AE .none<|AA env) (λD T=>
   BJ (Ai W.prog W.w) A (.compStart (.ListComp xe [⟨.Name x px,xi,[],0⟩] scope pos) 0 (.ref s.heap.objs.size) acc {D with scope:=relabel scope env}) (k acc D.locals) T) L)
   {s with heap:=s.heap.push o}:=by
 refine kj<|wpAny_newFunctionEnv K.cell (λy r=>aW r) (λh₁ B J=>?_) K.kind;have R:(s.heap.push o).objs.size=s.heap.objs.size+1:=by rw[wa]
 have N:=cO s.heap o;generalize g:s.heap.push o=HI at*;have I:=cO HI {cls:=.type "list",dict:=AE,data:=.seq ([]).toArray 0};have j:(HI.push {cls:=.type "list",dict:=AE,data:=.seq ([]).toArray 0}).get? HI.objs.size=AA {cls:=.type "list",dict:=AE,data:=.seq ([]).toArray 0}:=eC _ rfl;have S:(HI.push {cls:=.type "list",dict:=AE,data:=.seq ([]).toArray 0}).objs.size=HI.objs.size+1:=by rw[wa]
 generalize HI.push {cls:=.type "list",dict:=AE,data:=.seq ([]).toArray 0}=H2 at*;have O:s.heap.objs.size<HI.objs.size:=R▸c5 _;have E:HI.objs.size<H2.objs.size:=S▸c5 _;have M:=λb o e=>J.extBut b o (eV<|iB (iP e) E)<|p6 _ (I b o e);obtain⟨C,st⟩:=VU K u p z G P Z q N M (iU HI) (G5<|dc O) (G5<|dc (iB O E)) (eV O) (eV<|iB O E) (eV E)
  (J.extBut _ _ (eV E)<|p6 _ j) B m X
 show codeAny_compStart_list C<|lX (G.self st C)
def aDX(x:h.Ns a m):ky (·=a) h:=let ⟨_,B,q⟩:=zW x;λb o e J=>ai (B.symm.trans<|e▸J)▸q
def N8(x:h.Ns a m)(J:jM a h h'):Kp μ h μ h':=⟨oU _,λy m=>.inl m,λb o xs n e d y=>J b o (λq=>aDX x b o q e xs n d) e⟩
def K9{R:AF->AG->Prop}(X:cF W μ₀ s₀ H' μ' s')(G:VR μ' s'.heap v cv)(c:wO W env s₀ Cd μ' s'){O:AF->AG->Prop}(k:Kc W μ₀ s₀ H' v R):compPost M A O AE R cv Cd (.ok .next) s':=by
 obtain⟨⟨T,hn⟩,D,L,Y,_⟩:=c;refine⟨T,hn,λh'' J=>?_⟩;have B:=jU J;have C:=N8 (μ:=μ') hn B;show k ⟨X.g,X.o,X.E.heap λb o e o'=>B b o' λq=>au<|Y.symm.trans (q▸e),X.N.to C (λa o m=>B a o λq=>D<|q▸m) λa o Z=>B a o λq=>au<|L.symm.trans (q▸Z)⟩<|G.kp C
def SE.comp(K:lq Y scope x)(G:SE W n scope e xe)(M:SE W n Y it xi)(T:pN xi=AB):
  SE W n Y (.comp e (aq x) it) (.ListComp xe [⟨.Name x px,xi,[],0⟩] scope pos):=λ{F H Q env A s μ R} Z B k=>by
 obtain⟨J,hc,_⟩:=xT λy L E=>B.eo.cells _<|K.free y L E;rw[eval_ListComp];show IK rfl (sU T env) J K.kind K.loc (M Z B λq X r=>q.casesOn λit C=>C.casesOn λz q=>Fu B.wk X.N r it λhst D=>
  xZ K G (B.nx X) hc (hst B.rb.hd) D z q X λq Y_ r c=>K9 Y_ r c<|k.kc q)
def O3:(jm k).length=k:=by unfold jm;rw[aO,kq]
def SE.gS(K:lq Y scope x)(Z:SE W n scope e xe)(M:SE W n Y it xi)(J:noStar xi=AB)(E:Y.names.lookup ("range":AN)=AA .globalImplicit)(T:("range":AN)∈W.f5):
  SE W n Y (.gS e (aq x) it) (.ListComp xe [⟨.Name x px,.Call (.Name "range" p) [xi] [] pc,[],0⟩] scope pos):=λ{F H Q env A s μ R} O C k=>by
 obtain⟨B,hc,_⟩:=xT λy L G=>C.eo.cells _<|K.free y L G;rw[eval_ListComp];show IK rfl (sU rfl env) B K.kind K.loc (HY E T M J C O λq z X r=>HZ X.N z r λJ D=>
  xZ K Z (C.nx X) hc (J C.rb.hd) D (O3▸z) q X λq Y_ r c=>K9 Y_ r c<|k.kc q)
def tu(y:AN)(J pos:An)(scope:Ac):Bool:=J.line == pos.line&&!(scope.names.any λ(n,k)=>n == y&&(k == .local||k == .cell))
def RA{l:Nat}(B:iA Y env)(C:Y.names.lookup y=AA .local)(J:tu y py pos scope=AB):
  swapsWith (.ListComp xe [⟨.Name x px,xi,[],0⟩] scope pos) (AA<|.Name y py) l env=Ae AB:=by
 unfold tu at J;rw[eQ] at J;change(Ae (env.blockKind == .function&&env.kindOf y == AA .local&&py.line == pos.line&&!(scope.names.any λ(n,k)=>n == y&&(k == .local||k == .cell))):Sem Bool)=Ae AB;rw[EX B,B.loc y C,J.1,J.2];rfl
set_option tactic.hygienic true in
def Rx{Q:Fl->ae->AH->Prop}(K:Fr W n Y env A μ H F s)(O:Y.names.lookup y=AA .local)(D:dH y=AB)(q:Q .aQ (upd F (aq y) v) H')(k:KS W env μ s Q R)
  (X:cF W μ s H' μ' s') (P:VR μ' s'.heap v<|.ref D_) (c:wO W env s Cd μ' s') {r:AF->AG->Prop}:compPost (Ai W.prog W.w) A r (AA<|assign (.Name y py) env) (λz s'=>R .next s') (.ref D_) Cd (.ok .next) s':=by
 obtain⟨⟨Z,hn⟩,M,S,I,L⟩:=c;refine II (rE (K.fo.ext X.E) X.N K.eo (.inl O) (jH D) P λY_=>?_);have B:=PK hn λo e=>Y_.E.keep Cd o e M L;refine⟨Z,B,λh'' J=>?_⟩;have C:=jU J;have G:=N8 (μ:=μ') B C;have T:=(K.sx X).trans Y_;show k q ⟨T.g,T.o,T.E.heap λb o e o'=>C b o' λq=>au<|I.symm.trans (q▸e),T.N.to G (λa o m=>C a o λq=>M<|q▸m)<|λa o j=>C a o λq=>au (S.symm.trans<|q▸j),T.fo.to G λa o m=>C a o λq=>L<|q▸m⟩ .aQ
section
variable(K:lq Y scope x)(he:SE W n scope e xe)(hi:SE W n Y it xi)
def SS.UW(M:pN xi=AB)
  (C:Y.names.lookup y=AA .local) (L:dH y=AB) (E:tu y py pos scope=AB):
  SS W n Y (.asg (aq y)<|.comp e (aq x) it) (.Assign [.Name y py] (.ListComp xe [⟨.Name x px,xi,[],0⟩] scope pos) spos):=λ{F H Q env A s μ R} O B k=>by
 obtain⟨J,hc,_⟩:=xT λy C Z=>B.eo.cells _<|K.free y C Z;rw[WD _ _ _ _<|RA B.eo C E];refine aH<|fV (aH ?_);show aH (oQ (IK rfl (sU M env) J K.kind K.loc
  (hi O B λq X r=>q.casesOn λit D=>D.casesOn λz q=>Fu B.wk X.N r it λhst T=>xZ K he (B.nx X) hc (hst B.rb.hd) T z q X λq Y_ r c=>Rx B C L q k Y_ r c)) (λo s' G=>bA<|bA G) λo o e=>e)
def SS.UX(J:noStar xi=AB)(Z:Y.names.lookup ("range":AN)=AA .globalImplicit)(M:("range":AN)∈W.f5)
  (D:Y.names.lookup y=AA .local) (L:dH y=AB) (E:tu y py pos scope=AB):
  SS W n Y (.asg (aq y)<|.gS e (aq x) it) (.Assign [.Name y py] (.ListComp xe [⟨.Name x px,.Call (.Name "range" p) [xi] [] pc,[],0⟩] scope pos) spos):=λ{F H Q env A s μ R} S C k=>by
 obtain⟨B,hc,_⟩:=xT λy D O=>C.eo.cells _<|K.free y D O;rw[WD _ _ _ _<|RA C.eo D E];refine aH<|fV (aH ?_);show aH (oQ (IK rfl (sU rfl env) B K.kind K.loc
  (HY Z M hi J C S λq z X r=>HZ X.N z r λJ T=>xZ K he (C.nx X) hc (J C.rb.hd) T (O3▸z) q X λq Y_ r c=>Rx C D L q k Y_ r c)) (λo s' G=>bA<|bA G) λo o e=>e)
end
end
variable{p:AN}{fd:FuncData}{fi:uE}
section
variable{F:ae}{s₁:AG}
section
variable(μ:Mu)(h:AW)(env:Bp)(F:ae)
def wo(m:AN->Option AF):Prop:=∀nm v,eB nm->F (aq nm)=AA v->env.kindOf nm=AA .local->uG μ h m nm v
def wN(J:AN->Option AF):Prop:=∀nm v,eB nm->F (aq nm)=AA v->env.kindOf nm=AA .cell\/env.kindOf nm=AA .free->uF μ h env J nm v
end
def Yt{c:Prop}[Decidable c]{J:AN}(B:J≠p):(if c then(λy=>if y=p then AA cv else m y) else m) J=m J:=by
 split
 show aB B;rfl
def Ys{c:Prop}[Decidable c]{J:AN}(B:J≠p):(if c then m else(λy=>if y=p then AA cv else m y)) J=m J:=by
 split
 rfl;show aB B
theorem Kb:∀{ps:List AN} {vs:List V} {cvs:List AF} {F:ae} {m cm:AN->Option AF},aT μ h vs cvs->(∀p∈ps,eB p)->(∀p∈ps,env.kindOf p=AA .local\/(env.kindOf p=AA .cell/\∃c,env.cells.lookup p=AA c))->wo μ h env F m->wN μ h env F cm->
  wo μ h env (jr F (ps.map aq) vs) (bindL env.kindOf (ps.zip cvs) m)/\wN μ h env (jr F (ps.map aq) vs) (bindC env.kindOf (ps.zip cvs) cm)
 | [],vs,cvs,F,m,cm=>λy y y T D=>⟨T,D⟩|p::ps,[],cvs,F,m,cm=>λhv y y T D=>hv.jq (P:=λcvs=>wo μ h env F (bindL env.kindOf (List.zip (p::ps) cvs) m)/\wN μ h env F (bindC env.kindOf (List.zip (p::ps) cvs) cm)) ⟨T,D⟩|p::ps,v::vs,cvs,F,m,cm=>λhv J Y T D=>by
  refine hv.fU (P:=λcvs=>wo μ h env (jr (upd F (aq p) v) (ps.map aq) vs) (bindL env.kindOf (List.zip (p::ps) cvs) m)/\wN μ h env (jr (upd F (aq p) v) (ps.map aq) vs) (bindC env.kindOf (List.zip (p::ps) cvs) cm)) λcv r C L=>?_;refine Kb L (λq M=>J q<|.tail _ M) (λq M=>Y q<|.tail _ M) (λnm u hn e k=>?_) λnm u hn e k=>?_
  .rcases tn (J p h_) hn e with ⟨G,E⟩|⟨B,e⟩
   .subst G;subst E;show⟨aC k▸aC rfl,C⟩
   obtain⟨a,b⟩:=T nm u hn e k;show⟨(Yt B).trans a,b⟩
  rcases tn (J p h_) hn e with ⟨G,E⟩|⟨B,e⟩
  .subst G;subst E;have hl:env.kindOf nm≠AA .local:=λq=>by rw[q] at k;rcases k with k|k<;>rcases k with _|_
   rcases Y nm h_ with q|⟨_,c,hc⟩;show absurd q hl;show⟨hc,aB hl▸aC rfl,C⟩
  obtain⟨a,a',b⟩:=D nm u hn e k;show⟨a,(Ys B).trans a',b⟩
theorem Pj:∀{l:List<|AN×AJ},(l.Pairwise λx y=>x.2≠y.2)->∀{p q:AN×AJ},p∈l->q∈l->p.2=q.2->p=q
 | [],_,_,_=>λC z z=>aW C|x::l,h,p,q=>λC T e=>by
  rw[List.pairwise_cons] at h;rcases JJ.mp C with L|B
  .rcases JJ.mp T with D|J;show L.trans D.symm;show absurd (L▸e)<|h.1 q J
  rcases JJ.mp T with D|J;show absurd (D▸e.symm)<|h.1 p B;show Pj h.2 B J e
theorem Ei:∀{J:List<|AN×A5} {k:Nat} {acc:List<|AN×AJ} {x:AN},((x,BG)∈J\/∃c,(x,c)∈acc)->∃c,(x,c)∈cellsFrom k J acc
 | [],_,_,_=>λh=>h.elim (λh=>aW h) id|(y,kd)::r,k,acc,x=>λh=>by
  unfold cellsFrom;split
  show Ei<|h.elim (λh=>(JJ.mp h).elim (λe=>.inr ⟨_,by rw[(l6 e).1];show .head _⟩) .inl) λB=>B.elim λc h=>.inr ⟨c,.tail _ h⟩
  rename_i C;show Ei<|h.elim (λh=>(JJ.mp h).elim (λe=>absurd (lB.mpr (l6 e).2.symm) C) .inl) .inr
structure Ij(W:Wd)(fi:uE)(a:AJ)(fd:FuncData)(ps:List AN)(body:List A9):Prop where
 obj:∃o,W.h₀.get? a=AA o/\o.data=.func fd
 code:W.h₀.CodeRec fd.code fd.qualname
 Ki:fd.body=.stmts body
 bind:∀vals:List AF,vals.length=ps.length->bindArgs fd ⟨vals,[]⟩=Ae (ps.zip vals)
 K4:fd.closure=[]
 g:fd.globals=Al
 b:fd.builtins=BS
 co:fd.scope.isCoroutine=AD
 gen:fd.scope.isGenerator=AD
 kind:fd.scope.kind=.function
 par:fi.params=ps.map aq
 ok:∀p∈ps,eB p
 kinds:∀p∈ps,fd.scope.names.lookup p=AA .local\/fd.scope.names.lookup p=AA .cell
 free:∀x,fd.scope.names.lookup x≠AA .free
 run:∀n,gP W n fd.scope fi.body body
def U4(C:fd.scope.kind=.function)(D:fd.globals=Al)(T:fd.builtins=BS)(J:∀x,fd.scope.names.lookup x≠AA .free){L:AJ}:iA fd.scope (BR fd L a) where
 kind:=C
 g:=D
 b:=T
 loc:=λy h=>h
 cell:=λy h=>h
 free:=λx h=>absurd h<|J x
 glob:=λy h=>h
 cells:=λx B=>B.elim (λB=>(Ei<|.inl (mem_of_lookup B)).elim λc hc=>lookup_some hc) λB=>absurd B<|J x
def QZ(Q:V->AH->Prop):Fl->ae->AH->Prop
 | .aQ,_,H=>Q .none H| .ret v,_,H=>Q v H|_,_,_=>False
def aFR{a c:Nat}(h:a+20*(n+1)+1300<c):a+3+20*n+1310<c:=by
 rw[jP,<-bH] at h;rw[dX a 3];show bZ (b7 (show 1313<=1320 by decide)<|a+20*n) h
def Qd{a c:Nat}(h:a+3*(n+1)+2<c):a+1+3*n+4<c/\a<c:=by
 rw[jP,<-bH] at h;rw[dX a 1];show⟨h,bZ (aY a<|3*n)<|bZ (aY _ 5) h⟩
def cS.call{J:Mu}{B:AW}(E:cS X μ h₁ J B)(C:∀b o,h.get? b=AA o->h₁.get? b=AA o)(D:∀a,X a->h.get? a=CU):Ext μ h J B:=
 (ow C).off E D
def We{ps:List AN}{body:List A9}{vs:List V}(t:W.nS f=AA a)(X:Ij W fi a fd ps body)(L:fi.params.length=vs.length)(l:ig W n fi.body (jr (λy=>AE) fi.params vs) H<|QZ Q):Fn W (n+1) f vs H Q:=λZ=>by
 have e:=ai<|t.symm.trans Z;subst e;intro A s μ cvs R K hv kk;obtain⟨o,z,hd⟩:=X.obj;have N:=K.N;have hl:cvs.length=ps.length:=by rw[hv.length,<-L,X.par,aO]
 have P:iA fd.scope<|BR fd s.heap.objs.size a:=U4 X.kind X.g X.b X.free;have O:Rb (A.deeper<|BR fd s.heap.objs.size a) n:=⟨by rw[units_deeper];show aFR K.rm.u,by rw[depth_deeper];show(Qd K.rm.d).1,K.rm.hd⟩
 have B:∀p∈ps,(BR fd s.heap.objs.size a).kindOf p=AA .local\/((BR fd s.heap.objs.size a).kindOf p=AA .cell/\∃c,(BR fd s.heap.objs.size a).cells.lookup p=AA c):=λp C=>(X.kinds p C).imp id λq=>⟨q,P.cells p<|.inl q⟩;refine codeAny_call_cells (Qd K.rm.d).2 (N.base a o z) hd (K.wk.lim.keeps N.base) (X.code.keeps N.base) X.Ki (X.bind cvs hl) X.K4 (λx v=>?_) (λs₁ I=>?_) X.co X.gen X.kind
 .rcases B x.1 (List.of_mem_zip v).1 with q|⟨q,c,hc⟩;show .inl q;show .inr ⟨q,Option.isSome_iff_exists.mpr ⟨c,hc⟩⟩
 obtain⟨h₁,tk,e⟩:=I.toInCall.same;subst e;have G:=I.toInCall.keep;have J:∀{c},s.heap.objs.size<=c->s.heap.get? c=AE:=G5;have M:∀{k c},(BR fd s.heap.objs.size a).cells.lookup k=AA c->s.heap.objs.size<c:=λhc=>I.above _ _<|mem_of_lookup hc;obtain⟨b1,b2⟩:=Kb (μ:=μ) (h:=h₁) (F:=λy=>AE) (m:=λy=>AE) (aT.ext (ow G) .none _ hv) X.ok B (λy y y e=>au e) (λy y y e=>au e);have i:eH W μ (jr (λy=>AE) fi.params vs) h₁<|BR fd s.heap.objs.size a:=⟨⟨I.toInCall.ns,N.out<|J (aV _),N.qR<|J (aV _),λk c hc=>
   ⟨I.cell k c hc,N.out<|J (dc<|M hc),N.qR<|J (dc<|M hc),ku<|eV (M hc)⟩,
  λk k' c hc Y=>aF As<|Pj I.apart (mem_of_lookup hc) (mem_of_lookup Y) rfl,X.par▸b1,X.par▸b2⟩⟩
 refine lX (X.run n l ⟨K.wk,P,O,N.grow G,i⟩ λ{fl y H' D y T} q Y_ w=>?_);have E:=Y_.E.call G λc q=>J (q.elim (λe=>bJ e.symm) λj=>j.elim λk q=>dc<|M q);have S:cF W μ s H' D T:=⟨Y_.g,Y_.o,E,Y_.N⟩;rcases w with _|_|_|r;show kk q S .of_none;show q.elim;show q.elim;show kk q S r
end
def Pq(x:AK):Bool:=x.ctorIdx != 0&&(x.ctorIdx != 3&&(x.ctorIdx != 5&&x.ctorIdx != 15))
def aEO{x:AK}(h:Pq x=AB)(env:Bp):PySem.isTrue x env (eval x env)=(do let v <-eval x env;BE x.pos;By [v]<|Be v):=by
 rcases x with _|_<;>first|show(aI h).elim|show rfl
def xX(Y J:Ac)(x:AN):Bool:=
 J.kind == .function&&(dH x&&((J.names.lookup x == AA .local)&&
  J.names.all λy=>!(y.2 == .cell)&&((!(y.2 == .local)||((J.names.lookup y.1 == AA .local)&&(!dH y.1||y.1 == x)))&&(!(y.2 == .free)||((Y.names.lookup y.1 == AA .cell)||(Y.names.lookup y.1 == AA .free))))))
def aDm(h:eB x):dH x=AB:=Sl.mpr λc hc=>a6<|h c hc
variable{a b:Bool}
def dS(h:(a&&b)=AB)(k:a=AB->b=AB->P):P:=by
 rcases a with _|_
 .show(aI h).elim
 show k rfl h
def yF(h:(!a||b)=AB)(J:a=AB):b=AB:=by rw[J] at h;show h
def PZ(h:(a||b)=AB):a=AB\/b=AB:=Bool.or_eq_true_iff.mp h
def xY(h:xX Y sc2 x=AB):lq Y sc2 x:=
 dS h λT h=>dS h λD h=>dS h λC B=>
 have B:=Sl.mp B
 {kind:=cJ T
  cell:=λy J q=>dS (B y J) λa z=>by rw[lB.mpr q] at a;show aI a
  loc:=λy J q=>dS (B y J) λz b=>dS b λb z=>dS (yF b<|lB.mpr q) λc z=>cJ c
  M8:=cJ C
  ok:=jH D
  only:=λy J q o=>dS (B y J) λz b=>dS b λb z=>dS (yF b<|lB.mpr q) λz d=>cJ<|yF d (aDm o)
  free:=λy J q=>dS (B y J) λz b=>dS b λz c=>(PZ<|yF c (lB.mpr q)).imp cJ cJ}
structure gu where
 attrs:List AN
 lJ:List AN
 f5:List AN
 mJ:AN->Option Int
 mI:AN->Option Nat
 mG:AN->Option Nat
structure eg(S:gu)(W:Wd):Prop where
 attrs:∀x∈S.attrs,x∈W.attrs
 lJ:∀x∈S.lJ,x∈W.lJ
 f5:∀x∈S.f5,x∈W.f5
 mJ:∀x i,S.mJ x=AA i->W.mJ x=AA i
 mI:∀x i,S.mI x=AA i->W.mI x=AA i
 mG:∀x i,S.mG x=AA i->W.mG x=AA i
def glob(Y:Ac)(x:AN):Bool:=Y.names.lookup x == AA .globalImplicit
def bi(S:gu)(Y:Ac)(x:AN):Bool:=glob Y x&&S.f5.contains x
def zQ(x:AN):Bool:=!(x == "__debug__")&&!(x == "__classdict__")
def tE(h:zQ x=AB):(x == ("__debug__":AN))=AD/\(x == ("__classdict__":AN))=AD:=dS h λa b=>⟨wL _▸a,wL _▸b⟩
variable{S:gu}
def eg.bi(J:eg S W)(h:Mine.bi S Y x=AB):Y.names.lookup x=AA .globalImplicit/\x∈W.f5:=dS h λa b=>⟨cJ a,J.f5 _<|Di.mp b⟩
inductive Rs{α:Type}(P:α->Prop):Type
 |no|ok (a:α) (h:P a)
section
variable{P:α->Prop}{Q:β->Prop}
def Rs.go(r:Rs P)(k:∀a,P a->Rs Q):Rs Q:=Rs.rec .no k r
def Rs.or(r:Rs P)(k:∀a,P a->Rs Q)(n:Rs Q):Rs Q:=Rs.rec n k r
def Rs.val(r:Rs P):Option α:=Rs.rec AE (λa y=>AA a) r
def Rs.get{r:Rs P}{a:α}(h:r.val=AA a):P a:=by
 induction r using Rs.casesOn with
 |no=>show au h|ok b p=>show ai h▸p
def gd(c:Bool)(k:c=AB->Rs Q):Rs Q:=Aa (λy=>.no) (λk=>k rfl) c k
def ge(c:Bool)(k:c=AB->Rs Q)(n:Rs Q):Rs Q:=Aa (λy=>n) (λk=>k rfl) c k
section
variable(o:Option α)(k:∀a,o=AA a->Rs Q)
def opt:Rs Q:=CB (λy=>.no) (λa k=>k a rfl) o k
def PY(n:Rs Q):Rs Q:=CB (λy=>n) (λa k=>k a rfl) o k
end
end
inductive XV:AK->Type
 |const (c:Const) (k:Nat) (p:An):XV (.Constant c k p)|name (x:AN) (p:An):XV (.Name x p)|un (op:UnaryOp) (a:AK) (p:An):XV (.UnaryOp op a p)|bin (a:AK) (op:AZ) (b:AK) (p:An):XV (.BinOp a op b p)|Kk (op:CP) (xs:List AK) (p:An):XV (.BoolOp op xs p)|cmp (a:AK) (ops:List Bc) (bs:List AK) (p:An):XV (.Compare a ops bs p)|ite (c a b:AK) (p:An):XV (.IfExp c a b p)|tup (es:List AK) (k:Nat) (p:An):XV (.Tuple es k p)|lst (es:List AK) (p:An):XV (.List es p)|dict (ks:List (Option AK)) (vs:List AK) (p:An):XV (.Dict ks vs p)|sub (a i:AK) (p:An):XV (.Subscript a i p)|slice (lo hi st:Option AK) (p:An):XV (.Slice lo hi st p)|attr (a:AK) (nm:AN) (p:An):XV (.Attribute a nm p)|call (fn:AK) (O:List AK) (i8:List CI) (p:An):XV (.Call fn O i8 p)|comp (elt:AK) (gs:List Ap) (scope:Ac) (p:An):XV (.ListComp elt gs scope p)|no {x:AK}:XV x
def view(x:AK):XV x:=by
 induction x using PySem.Expr.casesOn with
 |Constant c k p=>show .const c k p|Name x p=>show .name x p|UnaryOp op a p=>show .un op a p|BinOp a op b p=>show .bin a op b p|BoolOp op xs p=>show .Kk op xs p|Compare a J C p=>show .cmp a J C p|IfExp c a b p=>show .ite c a b p|Tuple es k p=>show .tup es k p|List es p=>show .lst es p|Dict ks vs p=>show .dict ks vs p|Subscript a i p=>show .sub a i p|Slice B hi st p=>show .slice B hi st p|Attribute a nm p=>show .attr a nm p|Call fn O i8 p=>show .call fn O i8 p|ListComp elt gs scope p=>show .comp elt gs scope p|_=>show .no
variable{x:AK}
section
variable(v:XV x)
def XV.s9:Rs (λr:AN×An=>x=.Name r.1 r.2):=by
 induction v using XV.casesOn with
 |name n p=>show .ok (n,p) rfl|_=>show .no
def XV.Es:Rs (λr:Const×Nat×An=>x=.Constant r.1 r.2.1 r.2.2):=by
 induction v using XV.casesOn with
 |const n k p=>show .ok (n,k,p) rfl|_=>show .no
def XV.OR:Rs (λr:List AK×An=>x=.List r.1 r.2):=by
 induction v using XV.casesOn with
 |lst n p=>show .ok (n,p) rfl|_=>show .no
def XV.aF2:Rs (λr:Option AK×Option AK×Option AK×An=>x=.Slice r.1 r.2.1 r.2.2.1 r.2.2.2):=by
 induction v using XV.casesOn with
 |slice a b c p=>show .ok (a,b,c,p) rfl|_=>show .no
def XV.U2:Rs (λr:AK×List AK×List CI×An=>x=.Call r.1 r.2.1 r.2.2.1 r.2.2.2):=by
 induction v using XV.casesOn with
 |call a b c p=>show .ok (a,b,c,p) rfl|_=>show .no
def XV.aHc:Rs (λr:List AK×Nat×An=>x=.Tuple r.1 r.2.1 r.2.2):=by
 induction v using XV.casesOn with
 |tup a b p=>show .ok (a,b,p) rfl|_=>show .no
def XV.gS:Rs (λr:AK×List Ap×Ac×An=>x=.ListComp r.1 r.2.1 r.2.2.1 r.2.2.2):=by
 induction v using XV.casesOn with
 |comp a b c p=>show .ok (a,b,c,p) rfl|_=>show .no
end
def zZ(l:List α):Rs (λa:α=>l=[a]):=by
 rcases l with _|⟨a,r⟩;show .no;rcases r with _|_;show .ok a rfl;show .no
def pK(l:List α):Rs (λy:Unit=>l=[]):=by
 rcases l with _|_;show .ok () rfl;show .no
def mm(x:AK):Bool:=x.ctorIdx != 5
def tF(x:AK):Bool:=x.ctorIdx != 7
def PI(h:tF x=AB)(J:Bc):BW J x=AD:=by
 rcases x with _|_<;>first|rfl|rcases h with _|_
inductive TE(S:gu)(Y:Ac)(x:AK)(ie:IE):Prop
 |mk (se:∀{W:Wd} {n:Nat},eg S W->SE W n Y ie x) (st:mm x=AB->∀{W:Wd} {n:Nat},eg S W->ST W n Y ie x)
abbrev RE(S:gu)(Y:Ac)(x:AK):Type:=Rs<|TE S Y x
abbrev RL(S:gu)(Y:Ac)(xs:List AK):Type:=Rs λes:fI=>∀{W:Wd} {n:Nat},eg S W->gq W n Y es xs
variable{ie:IE}
def TE.se(t:TE S Y x ie)(J:eg S W):SE W n Y ie x:=t.casesOn λa y=>a J
def TE.st(t:TE S Y x ie)(h:mm x=AB)(J:eg S W):ST W n Y ie x:=t.casesOn λy b=>b h J
def TE.pl(h:Pq x=AB)(J:∀{W:Wd} {n:Nat},eg S W->SE W n Y ie x):TE S Y x ie:=⟨J,λy {y y} B=>ST.plain (J B) λenv=>aEO h env⟩
def TE.ce(h:∀{W:Wd} {n:Nat},eg S W->CE W n Y ie x):TE S Y x ie:=⟨λJ=>(h J).se,λy {y y} J=>(h J).st⟩
variable{op:CP}{a ia ib:IE}{p:An}{r:Const×Nat×An}{b:AK}
section
variable(S:gu)(f:∀Y x,RE S Y x)(Y:Ac)
def tc(xs:List AK):RL S Y xs:=AO (.ok .nil λy=>.nil)
 (λx xs B=>gd (noStar x) λh=>(f Y x).go λa ha=>B.go λes he=>.ok (.cons a es) λJ=>.cons (ha.se J) h<|he J) xs
structure TB(op:CP)(xs:List AK)(ie:IE):Prop where
 se:∀{W:Wd} {n:Nat} {pos:An},eg S W->SE W n Y ie (.BoolOp op xs pos)
 st:∀{W:Wd} {n:Nat} {pos:An},eg S W->ST W n Y ie (.BoolOp op xs pos)
def Kj:CP->IE->IE->IE
 | .And,a,b=>.and a b| .Or,a,b=>.or a b
theorem aGn(h:mm x=AB)(B:TE S Y x a):TB S Y op [x] a:=⟨λJ=>SE.last<|B.se J,λJ=>by
 cases op with
 |And=>show ST.aBf (B.st h J)|Or=>show ST.aBg<|B.st h J⟩
theorem aGm{y:AK}{D:List AK}{b:IE}(h:mm x=AB)(C:TE S Y x a)(B:TB S Y op (y::D) b):TB S Y op (x::y::D)<|Kj op a b:=by
 cases op with
 |And=>show⟨λJ=>SE.and (C.se J)<|B.se J,λJ=>ST.and (C.st h J)<|B.st J⟩|Or=>show⟨λJ=>SE.or (C.se J)<|B.se J,λJ=>ST.or (C.st h J)<|B.st J⟩
def aHG(J:CP)(xs:List AK):Rs<|TB S Y J xs:=AO .no
 (λx xs=>AO (λz=>gd (mm x) λh=>(f Y x).go λa ha=>.ok a<|aGn S Y h ha)
  (λy ys z B=>gd (mm x) λh=>(f Y x).go λa ha=>B.go λb hb=>.ok (Kj J a b)<|aGm S Y h ha hb) xs) xs
def aHM(c:Const)(k:Nat)(p:An):RE S Y<|.Constant c k p:=match c with
 | .int i=>.ok (.const<|.int i) (.pl rfl λy=>SE.int)| .str x=>.ok (.const<|.str x.cps.toList) (.pl rfl λy=>SE.str)| .bool b=>.ok (.const<|.bool b) (.pl rfl λy=>SE.bool)| .none=>.ok (.const .none) (.pl rfl λy=>SE.aDQ)|_=>.no
theorem aGx{i:Int}(e:x=.Constant r.1 r.2.1 r.2.2)(J:r.1=.int i):TE S Y (.UnaryOp .USub x p)<|.const (.int<|-i):=by
 rw[e,J];show⟨λy=>SE.neg,λy {y y} y=>ST.plain SE.neg λenv=>rfl⟩
def ZA(c:Const):Rs (λi:Int=>c=.int i):=match c with
 | .int i=>.ok i rfl|_=>.no
def aDR(c:Const):Rs (λy:Unit=>c=.none):=match c with
 | .none=>.ok () rfl|_=>.no
def aGM(c:Const):Rs (λi:AN=>c=.str i):=match c with
 | .str i=>.ok i rfl|_=>.no
def aHZ(B:UnaryOp)(x:AK)(p:An):RE S Y<|.UnaryOp B x p:=match B with
 | .Not=>gd (mm x) λh=>(f Y x).go λa ha=>.ok (.not a) ⟨λJ=>SE.not<|ha.se J,λy {y y} J=>ST.not<|ha.st h J⟩| .USub=>(view x).Es.go λr e=>(ZA r.1).go λi C=>.ok (.const<|.int (-i)) (aGx S Y e C)|_=>.no
def aHX(xs:List AK):Rs<|λl=>l8 l xs:=AO (.ok [] .nil)
 (λx xs J=>(view x).Es.go λr e=>(aGM r.1).go λs es=>J.go λl hl=>.ok (s.cps.toList::l) (by rw[e,es];show .cons hl)) xs
theorem aGy{a:AK}(B:TE S Y a ie)(e:x=.Constant r.1 r.2.1 r.2.2)(C:r.1=.none):TE S Y (.Compare a [.IsNot] [x] p)<|.op .n4 (.one ie):=by
 rw[e,C];show .ce λJ=>SE.n4<|B.se J
theorem aGt{a:AK}{r:List AK×An}(B:TE S Y a ie)(e:x=.List r.1 r.2)(C:r.1=[]):TE S Y (.Compare a [.NotEq] [x] p)<|.op .hO (.one ie):=by
 rw[e,C];show .ce λJ=>SE.hO<|B.se J
theorem aG0{a:AK}{r:List AK×An}{l:List<|List Nat}(C:TE S Y a ie)(e:x=.List r.1 r.2)(B:l8 l r.1)(h:decide (r.1.length<'$')=AB):TE S Y (.Compare a [.In] [x] p)<|.op (.fm l) (.one ie):=by
 rw[e];show .ce λJ=>SE.fm (C.se J) B<|dK h
theorem C3{a:AK}{B:Bc}(D:TE S Y a ia)(C:TE S Y b ib)(h:tF b=AB):TE S Y (.Compare a [B] [b] p)<|.op (.cmp B) (.two ia ib):=
 ⟨λJ=>SE.cmp (D.se J) (C.se J)<|PI h _,λy {y y} J=>ST.cmp (D.se J) (C.se J)<|PI h _⟩
def aHL(a:AK)(op:Bc)(b:AK)(p:An):RE S Y<|.Compare a [op] [b] p:=(f Y a).go λia ha=>
 have J:RE S Y<|.Compare a [op] [b] p:=gd (tF b) λh=>(f Y b).go λib hb=>.ok (.op (.cmp op)<|.two ia ib)<|C3 S Y ha hb h
 match op with
 | .IsNot=>(view b).Es.go λr e=>(aDR r.1).go λy B=>.ok _ (aGy S Y ha e B)| .NotEq=>(view b).OR.or (λr e=>(pK r.1).go λy B=>.ok _<|aGt S Y ha e B) (gd (tF b) λh=>(f Y b).go λib hb=>.ok _<|C3 S Y ha hb h)| .In=>(view b).OR.or (λr e=>gd (decide<|r.1.length<'$') λC=>(aHX r.1).go λl hl=>.ok _<|aG0 S Y ha e hl C) (gd (tF b) λh=>(f Y b).go λib hb=>.ok _<|C3 S Y ha hb h)|op=>gd (tF b) λh=>(f Y b).go λib hb=>.ok _<|C3 S Y ha hb h
def VM(a:AK)(J:List Bc)(B:List AK)(p:An):RE S Y<|.Compare a J B p:=match J,B with
 | [op],[b]=>aHL S f Y a op b p|_,_=>.no
def aHV(a:AK)(B:IE)(C:TE S Y a B)(D T st:Option AK)(q p:An):RE S Y<|.Subscript a (.Slice D T st q) p:=match D,T,st with
 |none,AA b,AE=>(f Y b).go λib hb=>.ok (.op .lV<|.two B ib) (.pl rfl λJ=>SE.lV (C.se J)<|hb.se J)|some b,AE,AE=>(f Y b).go λib hb=>.ok (.op .je<|.two B ib) (.pl rfl λJ=>SE.je (C.se J)<|hb.se J)|some b,AA d,AE=>(f Y b).go λib hb=>(f Y d).go λL hd=>.ok (.op .cut<|.cons B (.two ib L)) (.pl rfl λJ=>SE.cut (C.se J) (hb.se J)<|hd.se J)|_,_,_=>.no
def Rs.cast{P Q:α->Prop}(r:Rs P)(h:∀a,P a->Q a):Rs Q:=r.go λa p=>.ok a<|h a p
def aHY(a i:AK)(p:An):RE S Y<|.Subscript a i p:=(f Y a).go λia ha=>
 ge (G7 i) (λh=>(f Y i).go λB hi=>.ok (.op .sub<|.two ia B)<|.pl rfl λJ=>SE.sub (ha.se J) (hi.se J) h)
  ((view i).aF2.go λr e=>(aHV S f Y a ia ha r.1 r.2.1 r.2.2.1 r.2.2.2 p).cast λy h=>by rw[e];show h)
end
structure One(S:gu)(Y:Ac)(q x:AN)(args:List AK)(i8:List CI)(a:AK):Prop where
 nm:x=q
 args:args=[a]
 i8:i8=[]
 st:noStar a=AB
 bi:bi S Y q=AB
variable{a o elt:AK}{r:AK×An×An}{x:AN}{io im:IE}{O:List AK}{q:An}{gs:List Ap}{g:Ap}
section
variable(S:gu)(f:∀Y x,RE S Y x)(Y:Ac)
def oneArg(q x:AN)(O:List AK)(i8:List CI):Rs<|One S Y q x O i8:=gd (x == q&&bi S Y q) λh=>(zZ O).go λa ha=>(pK i8).go λy B=>gd (noStar a) λJ=>
 .ok a<|dS h λD C=>⟨cJ D,ha,B,J,C⟩
structure t9(S:gu)(Y:Ac)(q:AN)(x:AK)(r:AK×An×An):Prop where
 eq:x=.Call (.Name q r.2.1) [r.1] [] r.2.2
 st:noStar r.1=AB
 bi:bi S Y q=AB
def xP(q:AN)(x:AK):Rs<|t9 S Y q x:=(view x).U2.go λr e=>(view r.1).s9.go λm J=>(oneArg S Y q m.1 r.2.1 r.2.2.1).go λa o=>
 .ok (a,m.2,r.2.2.2) ⟨by rw[e,J,o.nm,o.args,o.i8],o.st,o.bi⟩
theorem aGw(c:t9 S Y "reversed" a r)(B:bi S Y "list"=AB)(h:TE S Y r.1 ib):TE S Y (.Call (.Name "list" p) [a] [] pos)<|.op .listRev (.one ib):=by
 rw[c.eq];show .pl rfl λJ=>SE.listRev (J.bi B).1 (J.bi B).2 (J.bi c.bi).1 (J.bi c.bi).2 (h.se J) c.st
def WJ(x:AN):Rs (λf:F1=>f.nm=x):=ge (x == F1.nm .len) (λh=>.ok .len (cJ h).symm) (ge (x == F1.nm .tuple) (λh=>.ok .tuple (cJ h).symm) (ge (x == F1.nm .sorted) (λh=>.ok .sorted (cJ h).symm)
 (ge (x == F1.nm .str) (λh=>.ok .str (cJ h).symm)<|gd (x == F1.nm .list) λh=>.ok .list (cJ h).symm)))
theorem aGv{g:F1}(e:g.nm=x)(B:bi S Y x=AB)(C:noStar a=AB)(h:TE S Y a ia):TE S Y (.Call (.Name x p) [a] [] pos)<|.op (.f1 g) (.one ia):=by
 subst e;show .pl rfl λJ=>SE.WZ (J.bi B).1 (J.bi B).2 (h.se J) C
def aHO(x:AN)(a:AK)(p pos:An)(B:bi S Y x=AB)(C:noStar a=AB):RE S Y<|.Call (.Name x p) [a] [] pos:=
 have J:=(WJ x).go λg e=>(f Y a).go λia ha=>.ok (.op (.f1 g)<|.one ia)<|aGv S Y e B C ha
 ge (x == "list") (λh=>(xP S Y "reversed" a).or (λr c=>(f Y r.1).go λib hi=>.ok (.op .listRev<|.one ib) (by rw[cJ h] at B ⊢;show aGw S Y c B hi)) J) J
theorem aGz(J:bi S Y x=AB)(h:(x == ("set":AN))=AB):TE S Y (.Call (.Name x p) [] [] pos)<|.op .q4 .nil:=by
 rw[cJ h] at J ⊢;show .pl rfl λB=>SE.aFp (B.bi J).1 (B.bi J).2
def aHI(x:AN)(p pos:An)(J:bi S Y x=AB)(O:List AK):RE S Y<|.Call (.Name x p) O [] pos:=match O with
 | []=>gd (x == "set") λh=>.ok _ (aGz S Y J h)| [a]=>gd (noStar a) λB=>aHO S f Y x a p pos J B|_=>.no
def aHK(x:AN)(O:List AK)(p pos:An):RE S Y<|.Call (.Name x p) O [] pos:=gd (glob Y x&&zQ x) λh=>
 PY (S.mI x) (λi e=>(tc S f Y O).go λes he=>.ok (.call i es)<|.pl rfl λJ=>dS h λa b=>SE.call (cJ a) (J.mI x i e) (tE b).1 (he J))
  (PY (S.mG x) (λi e=>(tc S f Y O).go λes he=>.ok (.new i es)<|.pl rfl λJ=>dS h λa b=>SE.new (cJ a) (J.mG x i e) (tE b).1 (he J))
   (gd (bi S Y x) λhb=>aHI S f Y x p pos hb O))
def ZH(O:List AK):Bool:=O.length == 1
def aC0(J:AN)(O:List AK):Rs (λm:Mt=>m.nm=J):=
 ge (J == Mt.nm .append) (λh=>.ok .append (cJ h).symm) (ge (J == Mt.nm .pop) (λh=>ge (ZH O) (λy=>.ok .gv (cJ h).symm)<|.ok .pop (cJ h).symm) (ge (J == Mt.nm .insert) (λh=>.ok .insert (cJ h).symm)
  (ge (J == Mt.nm .add) (λh=>.ok .add (cJ h).symm)<|ge (J == Mt.nm .discard) (λh=>.ok .discard (cJ h).symm) (gd (J == Mt.nm .f7) λh=>.ok .f7 (cJ h).symm))))
theorem hV(h:AD=AB):P:=(aI h).elim
def isNm{x:AK}(v:XV x):Bool:=v.casesOn (λy y y=>AD) (λy y=>AB) (λy y y=>AD) (λy y y y=>AD) (λy y y=>AD) (λy y y y=>AD) (λy y y y=>AD) (λy y y=>AD) (λy y=>AD) (λy y y=>AD) (λy y y=>AD) (λy y y y=>AD) (λy y y=>AD) (λy y y y=>AD) (λy y y y=>AD) AD
def ES{x:AK}(v:XV x):Bool:=v.casesOn (λy y y=>AB) (λy y=>AB) (λy y y=>AB) (λy y y y=>AB) (λy y y=>AB) (λy y y y=>AB) (λy y y y=>AB) (λy y y=>AB) (λy y=>AB) (λy y y=>AB) (λy y y=>AB) (λy y y y=>AB) (λy y y=>AB) (λf a y y=>!a.isEmpty&&isNm (view f)) (λy y y y=>AB) AD
theorem aDN{f:AK}{l:List AK}{i8:List CI}(v:XV f):isNm v=AB->PB (.Call f (a::l) i8 p):=v.casesOn (λy y y=>hV) (λy y y y y=>rfl) (λy y y=>hV) (λy y y y=>hV) (λy y y=>hV) (λy y y y=>hV) (λy y y y=>hV) (λy y y=>hV) (λy y=>hV) (λy y y=>hV) (λy y y=>hV) (λy y y y=>hV) (λy y y=>hV) (λy y y y=>hV) (λy y y y=>hV) hV
theorem KW{x:AK}(v:XV x):ES v=AB->PB x:=v.casesOn (λy y y y y y=>rfl) (λy y y y y=>rfl) (λy y y y y y=>rfl) (λy y y y y y y=>rfl) (λy y y y y y=>rfl) (λy y y y y y y=>rfl) (λy y y y y y y=>rfl) (λy y y y y y=>rfl) (λy y y y y=>rfl) (λy y y y y y=>rfl) (λy y y y y y=>rfl) (λy y y y y y y=>rfl) (λy y y y y y=>rfl) (λf a y y=>a.casesOn hV λy y=>aDN<|view f) (λy y y y y y y=>rfl) hV
structure JU(o:AK)(apos pos:An)(O:List AK):Prop where
 base:PB o
 line:(apos.endLine == pos.line)=AB
 Ln:O.length<25
theorem aGs{B:AN}{m:Mt}{es:fI}(e:m.nm=B)(k:JU o q p O)(h:TE S Y o io)(C:∀{W:Wd} {n:Nat},eg S W->gq W n Y es O):TE S Y (.Call (.Attribute o B q) O [] p)<|.bm m io es:=by
 subst e;show .pl rfl λJ=>SE.bm (h.se J) k.base k.Ln k.line<|C J
theorem aGu{B:AN}(e:(B == ("extend":AN))=AB)(D:O=[a])(c:t9 S Y "reversed" a r)(k:JU o q p O)(h:TE S Y o io)(C:TE S Y r.1 ib):TE S Y (.Call (.Attribute o B q) O [] p)<|.jb io ib:=by
 rw[cJ e,D,c.eq];show .pl rfl λJ=>SE.jb (h.se J) k.base k.line (C.se J) c.st (J.bi c.bi).1 (J.bi c.bi).2
def aHJ(o:AK)(J:AN)(q:An)(O:List AK)(p:An):RE S Y<|.Call (.Attribute o J q) O [] p:=gd (ES (view o)&&((q.endLine == p.line)&&decide (O.length<25))) λh=>
 have k:=dS h λa b=>dS b λb c=>⟨KW _ a,b,dK c⟩
 (f Y o).go λio C=>ge (S.lJ.contains J) (λD=>(tc S f Y O).go λes he=>.ok (.gK io (aq J) es)<|.pl rfl λB=>SE.gK (C.se B) k.base (B.lJ _<|Di.mp D) k.Ln k.line (he B))
  (ge (J == "extend") (λe=>(zZ O).go λa T=>(xP S Y "reversed" a).go λr c=>(f Y r.1).go λib hb=>.ok (.jb io ib)<|aGu S Y e T c k C hb)
   ((aC0 J O).go λm e=>(tc S f Y O).go λes he=>.ok (.bm m io es)<|aGs S Y e k C he))
def aHQ(x:AN)(p:An):RE S Y<|.Name x p:=gd (zQ x) λh=>ge (isVar Y x) (λhv=>gd (dH x) λB=>.ok (.var<|aq x)<|.pl rfl λy=>SE.var hv B (tE h).2 (tE h).1)
 (gd (glob Y x) λC=>opt (S.mJ x) λi e=>.ok (.const<|.int i)<|.pl rfl λJ=>SE.YI (cJ C) (J.mJ _ _ e) (tE h).1)
def YA(g:Ap):Rs (λr:AN×An×AK=>g=⟨.Name r.1 r.2.1,r.2.2,[],0⟩):=(view g.target).s9.go λm J=>(pK g.ifs).go λy B=>gd (g.is_async == 0) λh=>.ok (m.1,m.2,g.iter) (by
 cases g;dsimp only at J B h ⊢;rw[J,B,cJ h])
structure TC(S:gu)(Y:Ac)(elt:AK)(gs:List Ap)(scope:Ac)(p:An)(ie:IE):Prop where
 se:∀{W:Wd} {n:Nat},eg S W->SE W n Y ie (.ListComp elt gs scope p)
 asg:∀{W:Wd} {n:Nat} {y:AN} {py q:An},eg S W->Y.names.lookup y=AA .local->dH y=AB->tu y py p scope=AB->SS W n Y (.asg (aq y) ie) (.Assign [.Name y py] (.ListComp elt gs scope p) q)
theorem aGp{r:AN×An×AK}{c:AK×An×An}(G:gs=[g])(E:g=⟨.Name r.1 r.2.1,r.2.2,[],0⟩)(T:xX Y scope r.1=AB)(D:TE S scope elt ie)(B:t9 S Y "range" r.2.2 c)(C:TE S Y c.1 im):TC S Y elt gs scope p<|.gS ie (aq r.1) im:=by
 rw[G,E,B.eq];show⟨λJ=>SE.gS (xY T) (D.se J) (C.se J) B.st (J.bi B.bi).1 (J.bi B.bi).2,λJ L M hu=>SS.UX (xY T) (D.se J) (C.se J) B.st (J.bi B.bi).1 (J.bi B.bi).2 L M hu⟩
theorem aGo{r:AN×An×AK}(G:gs=[g])(E:g=⟨.Name r.1 r.2.1,r.2.2,[],0⟩)(T:xX Y scope r.1=AB)(D:TE S scope elt ie)(B:pN r.2.2=AB)(C:TE S Y r.2.2 im):TC S Y elt gs scope p<|.comp ie (aq r.1) im:=by
 rw[G,E];show⟨λJ=>SE.comp (xY T) (D.se J) (C.se J) B,λJ L M hu=>SS.UW (xY T) (D.se J) (C.se J) B L M hu⟩
def RV(J:AK)(gs:List Ap)(scope:Ac)(p:An):Rs<|TC S Y J gs scope p:=(zZ gs).go λg T=>(YA g).go λr D=>gd (xX Y scope r.1) λC=>(f scope J).go λie he=>
 (xP S Y "range" r.2.2).or (λc hc=>(f Y c.1).go λim B=>.ok (.gS ie (aq r.1) im)<|aGp S Y T D C he hc B)<|gd (pN r.2.2) λhn=>(f Y r.2.2).go λim B=>.ok (.comp ie (aq r.1) im) (aGo S Y T D C he hn B)
def aHH(fn:AK)(O:List AK)(p:An):RE S Y<|.Call fn O [] p:=by
 induction view fn using XV.casesOn with
 |name x q=>show aHK S f Y x O q p|attr o nm q=>show aHJ S f Y o nm q O p|_=>show .no
def aHW(x:AK):RE S Y x:=by
 induction view x using XV.casesOn with
 |const c k p=>show aHM S Y c k p|name x p=>show aHQ S Y x p|un op a p=>show aHZ S f Y op a p|bin a op b p=>show(f Y a).go λia ha=>(f Y b).go λib hb=>.ok (.op (.bin op)<|.two ia ib) (.pl rfl λJ=>SE.bin (ha.se J)<|hb.se J)|Kk op xs p=>show(aHG S f Y op xs).cast λy h=>⟨h.se,λy=>h.st⟩|cmp a C E p=>show VM S f Y a C E p|ite c a b p=>show gd (mm c) λh=>(f Y c).go λT hc=>(f Y a).go λia ha=>(f Y b).go λib hb=>.ok (.ite T ia ib) ⟨λJ=>SE.ite (hc.st h J) (ha.se J)<|hb.se J,λq=>(aI q).elim⟩|tup es k p=>show(tc S f Y es).go λB he=>.ok (.op .tup B) (.pl rfl λJ=>SE.tup<|he J)|lst es p=>show(tc S f Y es).go λB he=>.ok (.op .lst B) (.pl rfl λJ=>SE.lst<|he J)|dict ks vs p=>show(pK ks).go λy D=>(pK vs).go λy hv=>.ok (.op .hN .nil) (D▸hv▸.pl rfl λy=>SE.dict)|sub a i p=>show aHY S f Y a i p|attr a nm p=>show gd (S.attrs.contains nm&&ES (view a)) λh=>(f Y a).go λia ha=>.ok (.op (.attr<|aq nm)<|.one ia) (.pl rfl λJ=>dS h λM L=>SE.attr (ha.se J) (J.attrs _<|Di.mp M)<|KW _ L nm)|call fn O i8 p=>show(pK i8).go λy D=>(aHH S f Y fn O p).cast λy h=>D▸h|comp elt gs scope p=>show(RV S f Y elt gs scope p).cast λy h=>.pl rfl h.se|_=>show .no
end
def trE(S:gu)(k:Nat):∀Y x,RE S Y x:=BV (λy y=>.no) (λy f Y x=>aHW S f Y x) k
abbrev RS(S:gu)(Y:Ac)(s:A9):Type:=Rs λis:IS=>∀{W:Wd} {n:Nat},eg S W->SS W n Y is s
abbrev RB(S:gu)(Y:Ac)(J:List A9):Type:=Rs λis:aL=>∀{W:Wd} {n:Nat},eg S W->gP W n Y is J
inductive SV:A9->Type
 |ret (e:Option AK) (p:An):SV (.Return e p)|asg (D:List AK) (e:AK) (p:An):SV (.Assign D e p)|aug (t:AK) (op:AZ) (e:AK) (p:An):SV (.AugAssign t op e p)|MC (t e:AK) (b c:List A9) (p:An):SV (.For t e b c p)|eG (t:AK) (b c:List A9) (p:An):SV (.While t b c p)|ite (t:AK) (b c:List A9) (p:An):SV (.If t b c p)|expr (e:AK) (p:An):SV (.Expr e p)|pass (p:An):SV (.Pass p)|cont (p:An):SV (.Continue p)|no {s:A9}:SV s
def aH9(s:A9):SV s:=by
 induction s using PySem.Stmt.casesOn with
 |Return e p=>show .ret e p|Assign D e p=>show .asg D e p|AugAssign t op e p=>show .aug t op e p|For t e b c p=>show .MC t e b c p|While t b c p=>show .eG t b c p|If t b c p=>show .ite t b c p|Expr e p=>show .expr e p|Pass p=>show .pass p|Continue p=>show .cont p|_=>show .no
variable{m:AN×An}{es:List AK}{e t:AK}{kk:Nat}{q':An}
section
variable(S:gu)(f:∀Y x,RE S Y x)(Y:Ac)
theorem aC6{x:AK}{xs:List AK}{ns:List Nat}(e:x=.Name m.1 m.2)(h:(eW Y m.1&&dH m.1)=AB)(J:jx Y ns xs):jx Y (aq m.1::ns)<|x::xs:=by
 rw[e];show dS h λa b=>.cons a b J
def aHR(xs:List AK):Rs<|λns=>jx Y ns xs:=AO (.ok [] .nil)
 (λx xs J=>(view x).s9.go λm e=>gd (eW Y m.1&&dH m.1) λh=>J.go λns hn=>.ok (aq m.1::ns)<|aC6 Y e h hn) xs
def Ra(l:List α):Rs (λr:α×α=>l=[r.1,r.2]):=by
 rcases l with _|⟨a,r⟩;show .no;rcases r with _|⟨b,r⟩;show .no
 cases r with
 |nil=>show .ok (a,b) rfl|cons=>show .no
def aHD(x:AN)(B:An)(e:AK)(p:An):RS S Y<|.Assign [.Name x B] e p:=gd (dH x) λC=>(view e).gS.or
 (λr D=>gd ((Y.names.lookup x == AA .local)&&tu x B r.2.2.2 r.2.2.1) λh=>(RV S f Y r.1 r.2.1 r.2.2.1 r.2.2.2).go λie hc=>.ok (.asg (aq x) ie) λJ=>D▸dS h λa b=>hc.asg J (cJ a) C b)
 (gd (eW Y x&&lK e) λh=>(f Y e).go λie he=>.ok (.asg (aq x) ie) λJ=>dS h λa b=>SS.asg (he.se J) a C b)
structure Pr(es:List AK)(e:AK)(x y:AN)(px py:An)(a b:AK)(k:Nat)(q:An):Prop where
 es:es=[.Name x px,.Name y py]
 e:e=.Tuple [a,b] k q
theorem aGB(h:Pr es e x y px py a b k q)(M:(eW Y x&&dH x)=AB)(L:(eW Y y&&dH y)=AB)(C:Cv Y x y px py a b=AB)(T:TE S Y a ia)(D:TE S Y b ib)(B:eg S W):
  SS W n Y (.swap (aq x) (aq y) ia ib) (.Assign [.Tuple es kk q'] e p):=by
 rw[h.es,h.e];have J:=C;obtain⟨P,A⟩:=Bool.and_eq_true_iff.mp M;obtain⟨R,O⟩:=Bool.and_eq_true_iff.mp L;obtain⟨c,G⟩:=Bool.and_eq_true_iff.mp (Bool.and_eq_true_iff.mp (Bool.and_eq_true_iff.mp J).1).1;have Z:=(Bool.and_eq_true_iff.mp c).2;show SS.swap (T.se B) (D.se B) Z G P R A O λenv E=>aGX C E
theorem aF8(h:Pr es e x y px py a b k q)(T:(eW Y x&&dH x)=AB)(D:(eW Y y&&dH y)=AB)(C:xR Y x y a b=AB)(J:TE S Y e ie)(B:eg S W):
  SS W n Y (.gR [aq x,aq y] ie) (.Assign [.Tuple es kk q'] e p):=by
 have J:SE W n Y ie e:=J.se B;rw[h.e] at J ⊢;rw[h.es];obtain⟨Z,G⟩:=Bool.and_eq_true_iff.mp T;obtain⟨E,M⟩:=Bool.and_eq_true_iff.mp D;show SS.gR J (.cons Z G<|.cons E M .nil) rfl λenv L=>VD C L
def aHE(es:List AK)(k:Nat)(q:An)(e:AK)(p:An):RS S Y<|.Assign [.Tuple es k q] e p:=(view e).aHc.or
 (λt O=>(Ra t.1).go λJ D=>(Ra es).go λT C=>(view T.1).s9.go λx Z=>(view T.2).s9.go λy G=>gd (eW Y x.1&&dH x.1) λM=>gd (eW Y y.1&&dH y.1) λL=>
  have h:Pr es e x.1 y.1 x.2 y.2 J.1 J.2 t.2.1 t.2.2:=⟨C▸Z▸G▸rfl,O▸D▸rfl⟩
  ge (Cv Y x.1 y.1 x.2 y.2 J.1 J.2) (λB=>(f Y J.1).go λia ha=>(f Y J.2).go λib hb=>.ok (.swap (aq x.1) (aq y.1) ia ib)<|aGB S Y h M L B ha hb)
   (gd (xR Y x.1 y.1 J.1 J.2) λB=>(f Y e).go λie he=>.ok (.gR [aq x.1,aq y.1] ie)<|aF8 S Y h M L B he))
 (gd (notTuple e&&lK e) λh=>(aHR Y es).go λns hn=>(f Y e).go λie he=>.ok (.gR ns ie) λE=>dS h λa b=>SS.gR (he.se E) hn b λenv R=>aGJ a)
def aHC(t e:AK)(p:An):RS S Y<|.Assign [t] e p:=by
 induction view t using XV.casesOn with
 |name x px=>show aHD S f Y x px e p|tup es k q=>show aHE S f Y es k q e p|sub a i q=>show gd (lK e) λh=>(f Y e).go λie he=>(f Y a).go λia ha=>(f Y i).go λB hi=>.ok (.cW ia B ie) λJ=>SS.cW (he.se J) (ha.se J) (hi.se J) h|attr o nm q=>show gd (lK e&&S.attrs.contains nm) λh=>(f Y e).go λie he=>(f Y o).go λio C=>.ok (.setAttr io (aq nm) ie) λJ=>dS h λa b=>SS.setAttr (he.se J) (C.se J) (J.attrs _<|Di.mp b) a|_=>show .no
def aHF(t:AK)(B:AZ)(e:AK)(p:An):RS S Y<|.AugAssign t B e p:=by
 induction view t using XV.casesOn with
 |name x q=>show gd (eW Y x&&(dH x&&zQ x)) λh=>(f Y e).go λie he=>.ok (.aug (aq x) B ie) λJ=>dS h λa b=>dS b λb c=>SS.aug (he.se J) a b (tE c).2|attr a nm q=>show gd (S.attrs.contains nm) λh=>(f Y a).go λia ha=>(f Y e).go λie he=>.ok (.mB ia (aq nm) B ie) λJ=>SS.mB (ha.se J) (he.se J) (J.attrs _<|Di.mp h)|_=>show .no
def ta(g:∀s,RS S Y s)(J:List A9):RB S Y J:=AO (.ok .nil λy=>gP.nil) (λs J T=>(g s).go λis L=>T.go λB C=>.ok (.cons is B) λD=>gP.cons (L D)<|C D) J
theorem aGA{b c:List A9}{C:aL}(L:t=.Name m.1 m.2)(M:c=[])(h:(eW Y m.1&&dH m.1)=AB)(B:t9 S Y "range" e r)(D:TE S Y r.1 ie)(T:∀{W:Wd} {n:Nat},eg S W->gP W n Y C b)(J:eg S W):SS W n Y (.forR (aq m.1) ie C)<|.For t e b c p:=by
 rw[L,M,B.eq];obtain⟨G,E⟩:=Bool.and_eq_true_iff.mp h;show SS.forR (D.se J) B.st (J.bi B.bi).1 (J.bi B.bi).2 G E<|T J
theorem aF9{b c:List A9}{B:aL}(L:t=.Name m.1 m.2)(M:c=[])(h:(eW Y m.1&&dH m.1)=AB)(C:pN e=AB)(D:TE S Y e ie)(T:∀{W:Wd} {n:Nat},eg S W->gP W n Y B b)(J:eg S W):SS W n Y (.forIn (aq m.1) ie B)<|.For t e b c p:=by
 rw[L,M];obtain⟨G,E⟩:=Bool.and_eq_true_iff.mp h;show SS.forIn (D.se J) G E C<|T J
def aHP(g:∀s,RS S Y s)(t e:AK)(b c:List A9)(p:An):RS S Y<|.For t e b c p:=(pK c).go λy B=>(view t).s9.go λm J=>gd (eW Y m.1&&dH m.1) λh=>
 (xP S Y "range" e).or (λr C=>(f Y r.1).go λie he=>(ta S Y g b).go λib hb=>.ok (.forR (aq m.1) ie ib)<|aGA S Y J B h C he hb)
  (gd (pN e) λhn=>(f Y e).go λie he=>(ta S Y g b).go λib hb=>.ok (.forIn (aq m.1) ie ib)<|aF9 S Y J B h hn he hb)
def aHS(e:Option AK)(p:An):RS S Y<|.Return e p:=match e with
 |some e=>(f Y e).go λie he=>.ok (.ret ie) λJ=>SS.ret (he.se J)|none=>.ok (.ret<|.const .none) λy=>SS.aFK
def aHU(g:∀s,RS S Y s)(s:A9):RS S Y s:=by
 induction aH9 s using SV.casesOn with
 |ret e p=>show aHS S f Y e p|asg D e p=>show(zZ D).go λt T=>(aHC S f Y t e p).cast λy h=>T▸h|aug t op e p=>show aHF S f Y t op e p|MC t e b c p=>show aHP S f Y g t e b c p|eG t b c p=>show gd (mm t) λh=>(pK c).go λy L=>(f Y t).go λit B=>(ta S Y g b).go λib hb=>.ok (.eG it ib) λJ=>L▸SS.eG (B.st h J) (hb J)|ite t b c p=>show gd (mm t) λh=>(f Y t).go λit B=>(ta S Y g b).go λib hb=>(ta S Y g c).go λC hc=>.ok (.ite it ib C) λJ=>SS.ite (B.st h J) (hb J) (hc J)|expr e p=>show gd (lK e) λh=>(f Y e).go λie he=>.ok (.expr ie) λJ=>SS.expr (he.se J) h|pass p=>show .ok .pass λy=>SS.pass|cont p=>show .ok .cont λy=>SS.cont|no=>show .no
end
def trS(S:gu)(k:Nat)(Y:Ac)(j:Nat):∀s,RS S Y s:=BV (λy=>.no) (λy g s=>aHU S (trE S k) Y g s) j
abbrev pg:B4:=CZ
def L7(p:B4):List<|AN×AN×CS×List A9×Ac:=p.main.body.flatMap λs=>match s with
 | .FunctionDef nm O body _ _ _ Y _ _ _=>[(nm,nm,O,body,Y)]| .ClassDef J _ _ body _ _ _ _ _ _ _=>body.flatMap λs=>match s with
  | .FunctionDef nm O body _ _ _ Y _ _ _=>[(nm,J++(".":AN)++nm,O,body,Y)]|_=>[]
 |_=>[]
def fnAt(k:Nat):AN×AN×CS×List A9×Ac:=((L7 pg)[k]?).getD (⟨#[]⟩,⟨#[]⟩,⟨[],[],AE,[],[],AE,[]⟩,[],⟨.function,[],AD,AD,[]⟩)
def jT(l:List α):Array α:=l.toArray
def gL:AF:=.none
def gZ(x:AN)(t:Nat):AF:=.str x t
def sf(t:Nat):AF:=.str "/claim/cut.py" t
def i5(n:Int):AF:=.int n 0
def d0(a:Nat):AF:=.ref a
def tp(l:List AF):B5:=⟨.type "tuple",AE,.seq (jT l) 0,jT []⟩
def fl(l:List AF):B5:=⟨.none,AE,.fields<|jT l,jT []⟩
def di(l:List AV)(n:Nat):B5:=⟨.type "dict",AE,.dict (jT l) n,jT []⟩
def oF(y:String)(l:List AF):B5:=⟨.type y,AE,.fields<|jT l,jT []⟩
def co(B J:AN)(t l D C x:Nat)(b:Bool)(v:List AF)(u:Nat):B5:=oF "code"<|[gZ B t,gZ J<|t+1,sf<|t+2,i5 l,i5 D,i5 0,i5 0,i5 C,d0 x,.bool b,i5 181,d0<|x+1]++v++[i5 u,i5 l,sf<|u+1]
def L5(k:Nat)(g:Nat)(J c:AF):Data:=.func ⟨(fnAt k).1,(fnAt k).2.1,(fnAt k).2.2.1,.stmts (fnAt k).2.2.2.1,(fnAt k).2.2.2.2,g,[],.none,.none,.none,J,AE,c,.none,0⟩
def fr(k:Nat):B5:=⟨.none,AE,L5 k 0 .none .none,jT []⟩
def fo(k:Nat)(J c:AF):B5:=⟨.type "function",AE,L5 k 3 J c,jT []⟩
def ent(P:AR)(x:AN)(t:Nat)(v:AF):AV:=⟨Ak P x,.str x t,v⟩
def alt:List α->List α
 | []=>[]| [x]=>[x]|x::_::l=>x::alt l
def tree:Nat->List B5->BT
 |0,_=>.nil|n+1,l=>match l with
  | []=>.nil|x::l=>.node x (tree n<|alt l)<|tree n (alt<|l.drop 1)
def yl(k:Nat):List AN:=((fnAt k).2.2.2.2.names.filter λn=>n.2 == .local).map (·.1)
def RT(l:List AN)(t:Nat):List AF:=l.zipIdx.map λe=>gZ e.1<|t+e.2
def L6(c k a t l:Nat)(m:AF):List B5:=
 let q:=fnAt k
 let n:=q.2.2.1.args.length
 if c=1 then[tp [],fl [],fr k,co q.1 q.2.1 t l n 3 a AB [gL,gL,gL,d0<|a+2]<|t+3,fo k m<|d0 (a+3)]
 else[tp [],fl [],tp<|RT (yl k) (t+3),tp [],fr k,co q.1 q.2.1 t l n 3 a AB [gL,d0<|a+2,d0<|a+3,d0<|a+4]<|t+3+(yl k).length,fo k m<|d0 (a+5)]
def fns(P:AR)(m:AF):List Nat->Nat->Nat->Nat->List B5×List AV×List AF×Nat
 | [],_,_,t=>([],[],[],t)|l::ls,k,a,t=>
  let n:=(yl k).length
  let g:=fns P m ls (k+1) (a+7)<|t+6+n
  (L6 0 k a t l m++g.1,ent P (fnAt k).1 (t+5+n) (d0<|a+6)::g.2.1,i5 l::i5 4::d0 (a+5)::g.2.2.1,g.2.2.2)
structure Itm where
 c:Nat
 l:Nat
 fs:List Nat
 ns:List AN
def gen(P:AR):List Itm->Nat->Nat->Nat->AF->List AF->List B5×List AV×List AF×AF×List AF
 | [],_,_,_,m,_=>([],[],[],m,[])|w::ws,k,a,t,m,B=>
  let e:=ent P
  let nm:=(w.ns[0]?).getD Str.empty
  if w.c<2 then
   let n:=if w.c=1 then 0 else(yl k).length
   let d:=if w.c=1 then 5 else 7
   let g:=gen P ws (k+1) (a+d) (t+6+n) m B
   (L6 w.c k a t w.l m++g.1,e (fnAt k).1 (t+5+n) (d0<|a+d-1)::g.2.1,i5 w.l::i5 0::d0 (a+d-2)::g.2.2.1,g.2.2.2.1,[])
  else if w.c<4 then
   let f:=fns P m w.fs k (a+7)<|t+12
   let n:=w.fs.length
   let E:=a+7+7*n
   let T:=f.2.2.2
   let y:=w.ns.drop 1
   let U:=T+y.length
   let b:=w.c=2
   let J:=d0<|E+2
   let C:=J::(if b then[.type "object"] else B)
   let g:=gen P ws (k+n) (if b then E+7 else E+5) (if b then U+8 else U+4) m C
   let M:=if b then[Value.type "object"] else B.take 1
   let L:=e "__module__" (t+7) m
   let D:=e "__firstlineno__" (t+11) (.int w.l<|t+10)::f.2.1++[e "__static_attributes__" U<|d0 E]
   ([tp<|if b then[] else M,oF "builtin_function_or_method" [.builtin "type.__prepare__",.type "type"],di (L::e "__qualname__" (t+9) (gZ nm<|t+8)::D)<|4+n,tp [],fl f.2.2.1,co nm nm (t+2) w.l 0 0 (a+3) AD [gL,gL,gL,gL]<|t+5,
    ⟨.type "frame",AE,.plain,jT [AA<|d0 (a+5),AA<|d0 3,AA<|d0 (a+2),AE,AA m,AE,AA<|d0 0]⟩]++f.1++
    [tp<|RT y T,di (L::D++(if b then[e "__dict__" (U+2)<|d0 (E+3),e "__weakref__" (U+4)<|d0 (E+4),e "__doc__" (U+5) gL] else[e "__doc__" (U+1) gL]))<|if b then 4 else 2,
     ⟨.type "type",AE,.cls ⟨nm,M,C,E+1,nm,AB,[],g.2.2.2.2,AD,AE,AD⟩,jT [if b then AE else AA (d0 a),AE,AA<|gZ nm t,AA<|gZ nm (t+8),AA<|.builtin "object.__new__",AA<|.bool AB]⟩]++
    (if b then[oF "getset_descriptor" [gZ "__dict__"<|U+1,J,.builtin "function.__dict__",.builtin "function.__dict__#set"],oF "getset_descriptor" [gZ "__weakref__"<|U+3,J,.builtin "ExceptionGroup.__weakref__",gL]] else[])++
    [oF "super" [J,J,J],oF "builtin_function_or_method" [.builtin "object.__init_subclass__",J]]++g.1,
    e nm (if b then U+7 else U+3) J::g.2.1,i5 w.l::i5 0::d0 (a+5)::g.2.2.1,g.2.2.2.1,if b then[] else[J])
  else
   let g:=gen P ws k a (t+2) (if w.c=4 then gZ nm t else m) B
   (g.1,if w.c=4 then g.2.1 else e nm (t+1) (.int w.l t)::g.2.1,g.2.2.1,g.2.2.2.1,[])
def ZJ:List Itm:=[⟨0,1,[],[]⟩,⟨4,0,[],["clausemill.symbols"]⟩,⟨5,0,[],["A_NIL"]⟩,⟨5,0,[],["F_DOT"]⟩,⟨0,7,[],[]⟩,⟨0,9,[],[]⟩,⟨2,11,[13,23,32,35,45,48,51,54,57,60,63],["Symbols","atom_numbers","functor_numbers","functors","texts"]⟩,⟨4,0,[],["clausemill.terms"]⟩,⟨0,69,[],[]⟩,⟨0,71,[],[]⟩,⟨0,84,[],[]⟩,⟨5,4,[],["CON"]⟩,⟨5,5,[],["INT"]⟩,⟨4,0,[],["clausemill.abstract"]⟩,⟨0,97,[],[]⟩,⟨2,101,[103,111,114,119,122,125],["CodeState","code","kernel","local","next_temporary","plan","seen"]⟩,⟨3,130,[132,148,160,180],["Matcher"]⟩,⟨3,188,[190,211,228,246],["Builder"]⟩,⟨3,256,[258,274,297,317,324,340,345,350,357],["InPlace"]⟩,⟨3,362,[364,376,390,396,417],["CodeMaker"]⟩,⟨0,442,[],[]⟩,⟨4,0,[],["clausemill.kernel"]⟩,⟨2,445,[447],["KernelClause","args","count","functor","goals"]⟩,⟨0,452,[],[]⟩,⟨0,459,[],[]⟩,⟨4,0,[],["clausemill.classify"]⟩,⟨2,464,[466],["VarInfo","count","first","first_chunk","kind","last_chunk","last_goal","slot","unsafe","var"]⟩,⟨2,476,[478,485,488,491,494,497],["ClausePlan","chunks","env_size","infos","live_after","needs_env"]⟩,⟨0,499,[],[]⟩,⟨2,507,[509,512,521],["Survey","infos"]⟩,⟨0,529,[],[]⟩,⟨0,535,[],[]⟩,⟨0,545,[],[]⟩,⟨4,0,[],["law_no0186_03"]⟩,⟨0,575,[],[]⟩,⟨1,589,[],[]⟩,⟨1,597,[],[]⟩,⟨0,600,[],[]⟩,⟨0,608,[],[]⟩,⟨1,612,[],[]⟩,⟨0,617,[],[]⟩,⟨1,626,[],[]⟩,⟨1,645,[],[]⟩,⟨0,654,[],[]⟩,⟨0,678,[],[]⟩,⟨0,686,[],[]⟩,⟨1,688,[],[]⟩,⟨1,822,[],[]⟩,⟨1,832,[],[]⟩,⟨0,858,[],[]⟩,⟨1,870,[],[]⟩]
def LL(n:Nat)(P:AR):List B5:=
 let e:=ent P
 let g:=gen P (ZJ.take n) 0 15 187 (gZ "__main__" 164) []
 [boot_o_0 P,boot_o_1 P,boot_o_2 P,if n=0 then boot_o_3 P else di ([e "__name__" 165 g.2.2.2.1,e "__doc__" 166 gL,e "__package__" 167 gL,e "__loader__" 168<|.builtin "__main__.__loader__#opaque",e "__spec__" 169 gL,e "__annotations__" 170<|d0 6,e "__builtins__" 171<|d0 4,e "__file__" 173<|sf 172,e "__cached__" 174 gL]++g.2.1) (9+g.2.1.length),boot_o_4 P,boot_o_5 P,boot_o_6 P,boot_o_7 P,boot_o_8 P,boot_o_9 P,boot_o_10 P,tp [],fl g.2.2.1,co "<module>" "<module>" 182 1 0 0 11 AD [gL,gL,gL,gL] 185,
  ⟨.type "frame",AE,.plain,jT [AA<|d0 13,AA<|d0 3,AA<|d0 3,AE,AA<|gZ "__main__" 164,AE,AA<|d0 0]⟩]++g.1
def L4(P:AR):List B5:=LL 51 P
def rG:List A9:=behindTheImports pg
def tZ:Bp:={scope:=pg.main.scope,locals:=mainNs,globals:=mainNs,cells:=[],code:=.ref 13,frame:=AA 14}
def topC:Code:=.body rG tZ
def rH:List Frame:=[topFrame ⟨0,0,0,0⟩]
def nI:Option AF:=AA<|.ref 6
def stT(l:List B5)(n tk:Nat)(w:Ah)(os:AU):B3:=⟨tree 12 l,n,(Ay w.params).life,Bw [],Bi,tk,os⟩
def SA(j n tk:Nat)(w:Ah)(os:AU):B3:=stT (LL j w.params) n tk w os
section
variable(w:Ah)(os:AU)
def S0:B3:=SA 0 15 187 w os
def S1:B3:=SA 16 211 451 w os
def S2:B3:=SA 19 366 675 w os
def S3:B3:=SA 28 532 923 w os
def S4:B3:=SA 51 696 1161 w os
end
def b1:List A9:=(rG.drop 0).take 16
def b2:List A9:=(rG.drop 16).take 3
def b3:List A9:=(rG.drop 19).take 9
def b4:List A9:=rG.drop 28
section
variable(w:Ah)(os:AU)
def aD5:segRunT Aw pg w 11 nI 1 1214 (S0 w os) (piecesOf b1 tZ topC ⟨0,0,0,0⟩ rH)=AA (.next,S1 w os,topC,⟨101,0,129,23⟩):=k_
def aD6:segRunT Aw pg w 11 nI 1 1263 (S1 w os) (piecesOf b2 tZ topC ⟨101,0,129,23⟩ rH)=AA (.next,S2 w os,topC,⟨256,0,361,61⟩):=k_
def aD7:segRunT Aw pg w 11 nI 1 1386 (S2 w os) (piecesOf b3 tZ topC ⟨256,0,361,61⟩ rH)=AA (.next,S3 w os,topC,⟨476,0,498,16⟩):=k_
def aD8:segRunT Aw pg w 11 nI 1 931 (S3 w os) (piecesOf b4 tZ topC ⟨476,0,498,16⟩ rH)=AA (.next,S4 w os,topC,⟨870,0,890,67⟩):=k_
end
section
abbrev rg:OpenLaw:=CY
def j5{a b:Bool}(x:a=AB)(y:b=AB):(a&&b)=AB:=by rw[x,y];rfl
def G0(J:Look)(a b:List A9):Bx J (a++b)=(Bx J a&&Bx J b):=by
 induction a with
 |nil=>rfl|cons x a B=>
  change(_&&Bx J (a++b))=_;rw[B,<-Bool.and_assoc];rfl
def Um:((["vars","dir","locals"]:List AN).filter<|readsOut pg pg.main.body)=[]:=k_
def aGQ:(!(Bn pg.main.body).all cThrough.contains)=AD:=k_
def aD0:pg.main.body=b1++(b2++(b3++b4)):=k_
def aFQ:Bx {strict:=AD,foot:=AE,bare:=[]} pg.main.body=AB:=by
 rw[aD0,G0,G0,G0];show j5 k_<|j5 k_ (j5 k_<|k_)
def aCM:looksOpen pg=AB:=by
 unfold looksOpen;rw[Um,aGQ];show j5 (j5 (j5 (j5 (j5 k_<|k_)<|k_)<|k_) aFQ)<|k_
def aFS:rg.row.wellSaid=AB:=by
 refine j5 (j5 ?_<|k_)<|k_
 iterate 13 refine j5 ?_<|k_
 show aCM
end
section
def Qh:rg.wellSaid=AB:=by
 iterate 18 refine j5 ?_<|k_
 show aFS
end
section
def aBl:List A9:=pg.main.body.drop 50
def qv:B4:={pg with main:={pg.main with body:=aBl}}
def nZ:List AN:=(["_wall","A_NIL","F_DOT","fixed_atoms","fixed_functors","Symbols","variables","variables_of","occurrences","CON","INT","constant_cell","CodeState","Matcher","Builder","InPlace","CodeMaker","abstract_code","KernelClause","goal_terms","goal_special","VarInfo","ClausePlan","chunk_numbers","Survey","kind_of","slot_order","classify","_law_draw","_law_line","_law_lined","_law_names","_law_walk","_law_whole","_law_within","_law_meet","_law_event","_law_plain","_law_needs","_law_constant","_law_follow","_law_agree","_law_kernel","_law_term"]).map Am
def Jt:AG->Bool:=λy=>AB
@[irreducible] def hP(P:AR):AW:=absHeap (tree 12<|L4 P) 696 (Ay P).life
section
variable(w:Ah)(os:AU)
def sP:AG:=⟨hP w.params,Bw [],Bi,1161,os⟩
def V0:(S4 w os).abs=sP w os:=k_
def aCC:(staticsOk (Bn pg.main.body) (Ay w.params) (hP w.params)&&namesBound pg (hP w.params)&&gensDone (sP w os)&&laidKept (Ay w.params) (hP w.params))=AB:=k_
def aCE:seen ((recsOf qv).map (·.name)) (ownsOf qv) [] {sP w os with gens:=#[]}=expectedOf qv:=k_
def aCF:(sP w os).heap.bltView=bltViewBooted:=k_
def aCG:((sP w os).heap.keysOk (looseW qv nZ) ((recsOf qv).map (·.name)) ((litsOf qv).map (·.1)) ((clssOf qv<|looseW qv nZ).map (·.name))&&(sP w os).heap.accountedOkI (Bn pg.main.body)&&(sP w os).heap.isNs Al&&(sP w os).heap.isNs BS&&tablesOk qv (sP w os).heap&&Jt (sP w os)&&((sP w os).gens.size == 0))=AB:=k_
def aCH:tabsOk qv (sP w os)=AB:=k_
def aCI:pinSeenD qv (drecsOf qv) (sP w os)=pinGoodD (drecsOf qv):=k_
def aCJ:plainSeenE qv (looseW qv nZ) (sP w os)=plainGoodE qv (looseW qv nZ):=k_
def aCK:plainSeenD qv nZ (sP w os)=plainGoodD qv nZ:=k_
def aCL:wideSeen qv (sP w os)=wideGood qv:=k_
def aCD:clsSeenW qv nZ (sP w os)=clsGoodW qv nZ:=k_
end
end
def HO(a:CS):Bool:=a.posonlyargs.isEmpty&&a.vararg.isNone&&a.kwonlyargs.isEmpty&&a.kwarg.isNone
theorem Oa:∀{ps:List AN} {vals:List AF},vals.length=ps.length->∀p∈ps,((ps.zip vals).lookup p).isSome=AB
 | [],_,_,p,C=>aW C|q::ps,[],h,p,C=>by cases h|q::ps,v::vals,h,p,C=>by
  simp only[JS,qA];split
  rfl;rename_i J;rcases JJ.mp C with e|C
  .subst e;simp at J
  show Oa (by simpa using h) p C
theorem Lx{f g:α->Option β}:∀{l:List α},(∀x∈l,f x=g x)->l.filterMap f=l.filterMap g
 | []=>λz=>rfl|x::l=>λh=>by rw[wd,wd,h x h_,Lx λy J=>h y<|.tail _ J]
theorem SI:∀{ps:List AN} {vals:List AF},ps.Nodup->vals.length=ps.length->ps.filterMap (λn=>((ps.zip vals).lookup n).map (n,·))=ps.zip vals
 | [],_=>λy y=>rfl|q::ps,[]=>λy h=>by cases h|q::ps,v::vals=>λhn h=>by
  have hn:=List.nodup_cons.mp hn;rw[JS,wd];simp only[qA,j0,EA];congr 1
  refine(Lx λp C=>?_).trans<|SI hn.2 (by simpa using h)
  have:(p == q)=AD:=by
   rw[beq_eq_false_iff_ne]
   rintro rfl
   show hn.1 C
  rw[this]
def Wl{J:Type}{z:List α}{s:β}{f:α->β->Sem (ForInStep β)}{g:β->Sem J}(h:z=[]):forIn z s f >>= g=g s:=by subst h;rfl
def aIR{l:List α}:l.zip (([]:List β).drop k)=[]:=Dl.symm▸List.zip_nil_right.symm▸rfl
variable{n q:AN}{b:FuncBody}{g:AJ}{kwd doc pm cd ct:AF}{an:Option AJ}{vals:List AF}
def Ux{J:List Arg}{D:List<|Option AK}{Z:List AK}{bi:AJ}(T:(J.map (·.arg)).Nodup)(B:vals.length=(J.map (·.arg)).length):
  bindArgs ⟨n,q,⟨[],J,AE,[],D,AE,Z⟩,b,Y,g,cl,.none,kwd,doc,pm,an,cd,ct,bi⟩ ⟨vals,[]⟩=Ae ((J.map (·.arg)).zip vals):=by
 have G:¬(decide (vals.length>(J.map (·.arg)).length)&&AB)=AB:=B▸bE (eU _)▸aI;have L:(J.map (·.arg)).length-(([]:List AF).drop (([]:List AF).length-(J.map (·.arg)).length)).length=(J.map (·.arg)).length:=by rw[Dl];rfl
 have E:¬(!(((J.map (·.arg)).take ((J.map (·.arg)).length-(([]:List AF).drop (([]:List AF).length-(J.map (·.arg)).length)).length)).filter λn=>(((J.map (·.arg)).zip vals).lookup n).isNone).isEmpty)=AB:=by
  rw[L,JP,List.filter_eq_nil_iff.mpr λp C=>Option.isNone_eq_false_iff.mpr (Oa B p C)▸aI];show aI
 have M:List.filterMap (λn=>(((J.map Arg.arg).zip vals).lookup n).map (n,·)) (J.map Arg.arg++[])=(J.map Arg.arg).zip vals:=by rw[fJ];show SI T B
 refine(aB G).trans<|(aB E).trans ?_;show(Wl aIR).trans<|aF (Ae (f:=Sem)) M
variable{ps:CS}
def aEK(h:HO ps=AB):ps=⟨[],ps.args,AE,[],ps.kw_defaults,AE,ps.defaults⟩:=by
 have C:=Bool.and_eq_true_iff.mp h;have B:=Bool.and_eq_true_iff.mp C.1;have J:=Bool.and_eq_true_iff.mp B.1;show(show ps=⟨ps.posonlyargs,ps.args,ps.vararg,ps.kwonlyargs,ps.kw_defaults,ps.kwarg,ps.defaults⟩ by cases ps;rfl).trans<|by rw[List.isEmpty_iff.mp J.1,Option.isNone_iff_eq_none.mp J.2,List.isEmpty_iff.mp B.2,Option.isNone_iff_eq_none.mp C.2]
def Us{bi:AJ}(C:HO ps=AB)(J:(ps.args.map (·.arg)).Nodup)(B:vals.length=(ps.args.map (·.arg)).length):
  bindArgs ⟨n,q,ps,b,Y,g,cl,.none,kwd,doc,pm,an,cd,ct,bi⟩ ⟨vals,[]⟩=Ae ((ps.args.map (·.arg)).zip vals):=by
 rw[aEK C];show Ux J B
theorem Ou:∀{l:List<|Nat×β} {x:Nat} {b:β},l.lookup x=AA b->(x,b)∈l
 | [],_,_=>λh=>au h|(y,c)::l,x,b=>λh=>by
  rw[qA] at h;split at h
  .rename_i e;rw[cJ e];obtain rfl:=ai h;show .head _
  show .tail _<|Ou h
variable{P:AR}{v:AF}
section
def fA:List Nat:=[21,28,35,49,56,63,70,77,84,91,98,105,112,119,133,140,147,154,168,175,182,189,196,203,224,231,238,245,264,271,278,285,304,311,318,325,332,339,346,353,360,379,386,393,400,407,419,433,447,454,468,489,496,503,510,517,524,538,552,559,566,580,587,594,601,606,611,618,625,630,637,642,647,654,661,668,673,678,683,690,695]
def Pt:List AF:=.replicate 1 (gZ "__main__" 164)++.replicate 13 (gZ "clausemill.symbols" 194)++.replicate 3 (gZ "clausemill.terms" 332)++.replicate 30 (gZ "clausemill.abstract" 366)++.replicate 3 (gZ "clausemill.kernel" 755)++.replicate 14 (gZ "clausemill.classify" 807)++.replicate 17 (gZ "law_no0186_03" 1026)
def cL:List<|Nat×Nat:=[(0,122),(5,410),(6,436),(7,471),(8,527),(9,569)]
def KA:List Nat:=[122,121,206,205,248,247,288,287,363,362,410,409,436,435,471,470,527,526,569,568]++fA
def FW:List<|AN×Nat:=((L7 pg).zipIdx.filter λe=>e.1.1 == e.1.2.1).map λe=>(e.1.1,e.2)
def FU:List<|AN×Nat:=([("Symbols",0),("CodeMaker",5),("KernelClause",6),("VarInfo",7),("ClausePlan",8),("Survey",9)]).map λe=>(Am e.1,e.2)
def FY:List<|AN×Int:=([("A_NIL",0),("F_DOT",0),("CON",4),("INT",5)]).map λe=>(Am e.1,e.2)
def y8:List<|(Nat×Nat)×Nat:=[((0,'?'),4),((0,'a'),6),((0,'+'),7),((0,'6'),9),((5,5996636532),19),((5,'k'),20),((5,'u'),21),((5,'j'),22),((5,'b'),23),((5,'Z'),24),((5,'['),25),((5,'U'),26),((5,'V'),27),((5,'5'),28),((5,'3'),29),((5,'X'),30),((5,'2'),31),((5,'%'),32),((5,'G'),33),((5,'T'),34),((5,'N'),35),((5,'/'),36),((5,'y'),37),((5,'#'),38),((5,'O'),39),((5,'0'),40),((5,'F'),41),((5,'Y'),42),((5,'D'),43),((5,'I'),44),((5,'}'),45),((8,'u'),54),((9,'^'),59),((9,'W'),60)]
def Ri:Nat->Nat->List Nat->List Nat
 |0,_,l=>l|k+1,n,l=>if n<256 then l else Ri k (n / 256) (n % 256::l)
def vP:List<|Nat×AN×Nat:=y8.map λe=>(e.1.1,⟨(Ri 40 e.1.2 []).toArray⟩,e.2)
def Mp:List<|Nat×Nat:=[(0,3),(5,18),(6,47),(7,50),(8,51),(9,58)]
def uf:List AN:=(["functor","texts","atom_numbers","functors","functor_numbers","kernel","plan","code","seen","local","next_temporary","args","goals","count","var","kind","slot","first","unsafe","last_goal","first_chunk","last_chunk","infos","chunks","needs_env","env_size","live_after"]).map Am
def y7:List AN:=vP.map (·.2.1)
def EY:List AN:=(["len","list","tuple","range","reversed","sorted","set","str"]).map Am
def vQ:Nat:=81
def nObj(P:AR):KA.all (λa=>decide<|a<696)=AB:=k_
def tT:Jp:=⟨λc m=>y8.lookup (c,m),λc=>Mp.lookup c⟩
def Ht:gu:={attrs:=uf,lJ:=y7,f5:=EY,mJ:=λx=>FY.lookup x,mI:=λx=>FW.lookup x,mG:=λx=>FU.lookup x}
@[irreducible] def EZ(f:Nat):Option aL:=(ta Ht (fnAt f).2.2.2.2 (trS Ht 40 (fnAt f).2.2.2.2 60) (fnAt f).2.2.2.1).val
@[irreducible] def tN(f:Nat):List AN:=(fnAt f).2.2.1.args.map (·.arg)
@[irreducible] def fT(f:Nat):Option uE:=match decide (f<vQ) with
 |true=>(EZ f).map λb=>⟨(tN f).map aq,b⟩|false=>AE
@[irreducible] def gt(P:AR)(a:Nat):Option B5:=((tree 12<|L4 P).get a).bind alive
@[irreducible] def kP(P:AR):Frag:=KA.map λa=>(a,(gt P a).getD default)
def dF:Data->AN->Option AF
 | .dict es _,x=>nsFind es x|_,_=>AE
@[irreducible] def ng(P:AR)(x:AN):Option AF:=match gt P 3 with
 |some o=>(match o.data with| .dict es _=>nsFind es x|_=>AE)
 |none=>AE
def u9{a:Nat}{o:B5}(J:a<696)(h:gt P a=AA o):(hP P).get? a=AA o:=by
 unfold gt at h;obtain⟨x,C,B⟩:=Option.bind_eq_some_iff.mp h;unfold hP;show(abs_get J C).trans B
section
variable(P:AR)
def aAp:KA.all (λa=>(gt P a).isSome)=AB:=k_
def kIn:(kP P).In<|hP P:=by
 intro a o h;unfold kP at h;obtain⟨b,hb,e⟩:=List.mem_map.mp<|Ou h;rcases e with _|_;have B:=Sl.mp (aAp P) a hb;obtain⟨x,J⟩:=Option.isSome_iff_exists.mp B;rw[J];show u9 (dK<|Sl.mp (nObj P) a hb) J
def ns3:(gt P 3).isSome=AB:=k_
def aCt:(hP P).nsMap Al=ng P:=by
 funext x
 obtain⟨o,J⟩:=Option.isSome_iff_exists.mp<|ns3 P;have B:(hP P).get? Al=AA o:=u9 ⋯ J
 unfold Heap.nsMap ng;rw[B,J];rfl
end
@[irreducible] def xU(K:Frag)(c:Nat):Bool:=hasDictIn K c&&CL K c&&(Br K (.ref c) "__setattr__" == AA (AA<|.builtin "object.__setattr__"))&&plainGet K c ""&&makesIn K c&&CM K (.ref c)
def VK(P:AR):cL.all (λc=>xU (kP P) c.2)=AB:=k_
def attrOk(P:AR):cL.all (λc=>uf.all λnm=>iS c.1 (aq nm)||Br (kP P) (.ref c.2) nm == AA AE)=AB:=k_
def aDl:(uf.all dH&&y7.all dH&&vP.all λe=>dH e.2.1)=AB:=k_
def YG(P:AR):FW.all (λe=>(fA[e.2]?).any λa=>ng P e.1 == AA (.ref a))=AB:=k_
def X9(P:AR):FU.all (λe=>(cL.lookup e.2).any λa=>ng P e.1 == AA (.ref a))=AB:=k_
def M6:AF->Int->Bool
 | .int j _,k=>j == k|_,_=>AD
def Q8:AF->AN->Bool
 | .str q _,s=>q == s|_,_=>AD
def Lq:Data->(Array AF->Bool)->Bool
 | .fields vs,k=>k vs|_,_=>AD
def nJ{o:Option α}{f:α->Bool}(h:o.any f=AB):∃a,o=AA a/\f a=AB:=by
 rcases o with _|a
 .show(aI h).elim
 show⟨a,rfl,h⟩
def ZF{k:Int}:M6 v k=AB->∃t,v=.int k t:=by
 cases v with
 |int j t=>show λh=>⟨t,aF (Bz · t)<|cJ h⟩|_=>show λh=>(aI h).elim
def aGK{k:AN}:Q8 v k=AB->∃t,v=.str k t:=by
 cases v with
 |str j t=>show λh=>⟨t,aF (CN · t)<|cJ h⟩|_=>show λh=>(aI h).elim
def WV{d:Data}{k:Array AF->Bool}:Lq d k=AB->∃vs,d=.fields vs/\k vs=AB:=by
 cases d with
 |fields vs=>show λh=>⟨vs,rfl,h⟩|_=>show λh=>(aI h).elim
section
variable(P:AR)
def YH:FY.all (λe=>(ng P e.1).any λv=>M6 v e.2)=AB:=k_
def Uv:EY.all (λx=>(ng P x).isNone&&x != "__name__")=AB:=k_
def aA0:fA.all (λa=>CM (kP P) (.ref a)&&isFn (kP P) (.ref a))=AB:=k_
def aC1:vP.all (λe=>(cL.lookup e.1).any λc=>(fA[e.2.2]?).any λa=>Br (kP P) (.ref c) e.2.1 == AA (AA<|.ref a))=AB:=k_
def Yv:Mp.all (λe=>(cL.lookup e.1).any λc=>(fA[e.2]?).any λa=>Br (kP P) (.ref c) "__init__" == AA (AA<|.ref a))=AB:=k_
end
def aCz:y8=vP.map λe=>((e.1,aq e.2.1),e.2.2):=k_
def Wf(P:AR):fA.map (gt P)=(fA.zip Pt).zipIdx.map λe=>AA<|fo e.2 e.1.2 (.ref<|e.1.1-1):=k_
@[irreducible] def codeB(P:AR)(a f:Nat):Bool:=(gt P<|a-1).any λo=>Lq o.data λvs=>(vs[1]?).any λv=>Q8 v (fnAt f).2.1
def codeOk(P:AR):fA.zipIdx.all (λe=>codeB P e.1 e.2&&decide (e.1<696))=AB:=k_
@[irreducible] def L3(f:Nat):Bool:=HO (fnAt f).2.2.1&&decide (tN f).Nodup&&(tN f).all (λp=>dH p&&((fnAt f).2.2.2.2.names.lookup p == AA .local||(fnAt f).2.2.2.2.names.lookup p == AA .cell))&&
 (fnAt f).2.2.2.2.names.all (λy=>y.2 != .free)&&!(fnAt f).2.2.2.2.isCoroutine&&!(fnAt f).2.2.2.2.isGenerator&&(fnAt f).2.2.2.2.kind == .function
def Wb:(Av vQ).all L3=AB:=k_
end
variable{a:Nat}
section
theorem pF[BEq α][LawfulBEq α]:∀{l:List<|α×β} {x:α} {b:β},l.lookup x=AA b->(x,b)∈l
 | [],_,_=>λh=>au h|(y,c)::l,x,b=>λh=>by
  rw[qA] at h;split at h
  .rename_i e;rw[cJ e];obtain rfl:=ai h;show .head _
  show .tail _<|pF h
def Tf{a:AJ}{m D:AN->Option AF}(x:h.Ns a m)(y:h.Ns a D):m=D:=by
 obtain⟨o,es,ep,M,L,_,T⟩:=x;obtain⟨o',es',ep',C,B,_,J⟩:=y;have e:=ai<|M.symm.trans C;subst e
 funext k
 rw[<-T k,<-J k];show congrFun (aF dF<|L.symm.trans B) k
def ZG(P:AR):(hP P).isNs Al=AB:=k_
def aGZ(P:AR):(gt P 1).isSome=AB:=k_
def wH(w:Ah)(h:AW)(mb:AN->Option AF):Wd where
 prog:=pg
 w:=w
 K:=kP w.params
 h₀:=h
 cls:=λc=>cL.lookup c
 mg:=ng w.params
 mb:=mb
 attrs:=uf
 lJ:=y7
 f5:=EY
 T:=tT
 mJ:=λx=>FY.lookup x
 mI:=λx=>FW.lookup x
 mG:=λx=>FU.lookup x
 nS:=λf=>fA[f]?
section
variable{mb:AN->Option AF}
def sG{c:Nat}(e:cL.lookup c=AA a):xU (kP w.params) a=AB:=Sl.mp (VK w.params) _<|pF e
structure SU(K:Frag)(c:Nat):Prop where
 dict:hasDictIn K c=AB
 over:CL K c=AB
 set:Br K (.ref c) "__setattr__"=AA (AA (.builtin "object.__setattr__"))
 get:plainGet K c ""=AB
 make:makesIn K c=AB
 keep:CM K (.ref c)=AB
def sF{K:Frag}{c:Nat}(h:xU K c=AB):SU K c:=by
 unfold xU at h;show dS h λh f=>dS h λh e=>dS h λh d=>dS h λh c=>dS h λa b=>⟨a,b,cJ c,d,e,f⟩
def E7(e:fA[f]?=AA a):CM (kP w.params) (.ref a)=AB/\isFn (kP w.params) (.ref a)=AB:=
 Bool.and_eq_true_iff.mp<|Sl.mp (aA0 w.params) _ (eK e)
def names0:(∀nm∈uf,eB nm)/\(∀nm∈y7,eB nm)/\∀e∈vP,eB e.2.1:=by
 have h:=aDl;simp only[eQ,Sl] at h;show⟨λx m=>jH<|h.1.1 x m,λx m=>jH<|h.1.2 x m,λe m=>jH<|h.2 e m⟩
def aIF(C:∀b o,(hP w.params).get? b=AA o->h.get? b=AA o)(Y:h.Ns BS mb)(G:h.NoLimit)(D:∀x:AN,x≠"__name__"->mb x=Bj x):nF (wH w h mb) where
 GK:=(kIn w.params).keeps C
 g:=by
  have:=(Heap.Ns.of_isNs<|ZG w.params).keeps C
  rw[aCt] at this;show this
 b:=Y
 lim:=G
 RC:=by
  obtain⟨o,E⟩:=Option.isSome_iff_exists.mp<|aGZ w.params;show λn=>au<|n.symm.trans (C _ _<|u9 ⋯ E)
 blt:=D
 Eg:=λc a e=>(sF<|sG e).dict
 cover:=λc a e=>(sF<|sG e).over
 LD:=λc a e=>(sF<|sG e).set
 Ej:=λc a nm e=>(sF<|sG e).get
 K5:=λc a e=>(sF<|sG e).make
 Ef:=λc a nm e hn hc=>(PZ<|Sl.mp (Sl.mp (attrOk w.params) _<|pF e) nm hn).elim (λr=>(aI<|hc.symm.trans r).elim) cJ
 xC:=names0.1
 int:=λx i e=>by
  have:=Sl.mp (YH w.params) _<|pF e
  obtain⟨v,hv,q⟩:=nJ this;obtain⟨t,rfl⟩:=ZF q;show⟨t,hv⟩
 fn:=λx f e=>by
  have:=Sl.mp (YG w.params) _<|pF e
  obtain⟨a,ha,q⟩:=nJ this;show⟨a,ha,cJ q⟩
 FI:=λf a e=>(E7 e).1
 Kr:=λx c e=>by
  have:=Sl.mp (X9 w.params) _<|pF e
  obtain⟨a,ha,q⟩:=nJ this;show⟨a,ha,cJ q,(sF<|sG ha).keep⟩
 free:=λx B=>by
  have:=Sl.mp (Uv w.params) _ B
  simp only[eQ,Option.isNone_iff_eq_none,bne_iff_ne] at this;show this
 qo:=λc nm f a hc hn e=>by
  have e:y8.lookup (c,aq nm)=AA f:=e;rw[aCz] at e;obtain⟨x,B,L⟩:=List.mem_map.mp<|pF e;have O:=aF (·.1.1) L;have M:=aF (·.1.2) L;have Z:=aF (·.2) L;have M:=xW (names0.2.2 x B) (names0.2.1 nm hn) M
  have:=Sl.mp (aC1 w.params) _ B
  rw[O,M,Z] at this;obtain⟨c',T,q⟩:=nJ this;obtain⟨a',J,q⟩:=nJ q;obtain rfl:=ai<|T.symm.trans hc;show⟨a',J,cJ q,(E7 J).2⟩
 Ow:=names0.2.1
 init:=λc f a hc e=>by
  have:=Sl.mp (Yv w.params) _<|pF e
  obtain⟨c',T,q⟩:=nJ this;obtain⟨a',J,q⟩:=nJ q;obtain rfl:=ai<|T.symm.trans hc;show⟨a',J,cJ q,(E7 J).2⟩
def aGC:eg Ht<|wH w h mb:=⟨λy h=>h,λy h=>h,λy h=>h,λy y h=>h,λy y h=>h,λy y h=>h⟩
def Wg(P:AR)(e:fA[f]?=AA a):∃pm,gt P a=AA (fo f pm<|.ref (a-1)):=by
 have B:=(List.getElem?_eq_some_iff.mp e).1;have q:=aF (λl=>l[f]?)<|Wf P;simp only[f3,e,EA] at q;rcases h:(fA.zip Pt).zipIdx[f]? with _|y
 .rw[h] at q;rcases q with _|_
 rw[h] at q;rw[TA,Option.map_eq_some_iff] at h;obtain⟨z,J,rfl⟩:=h;rw[List.getElem?_zip_eq_some] at J
 have:=ai<|J.1.symm.trans e
 simp only[EA,Option.some.injEq,cT,this] at q;show⟨_,q⟩
inductive DU(W:Wd)(f:Nat)(fi:uE):Prop
 |mk {a:AJ} {fd:FuncData} {ps:List AN} {body:List A9} (ha:W.nS f=AA a) (x:Ij W fi a fd ps body):DU W f fi
def WL(e:fT f=AA fi):decide (f<vQ)=AB/\∃b,EZ f=AA b/\⟨(tN f).map aq,b⟩=fi:=by
 unfold fT at e;rcases h:decide (f<vQ) with _|_
 .rw[h] at e;show au e
 rw[h] at e;show⟨rfl,Option.map_eq_some_iff.mp e⟩
def Wa(L:∀b o,(hP w.params).get? b=AA o->h.get? b=AA o)(e:fT f=AA fi):DU (wH w h mb) f fi:=by
 obtain⟨J,b,hb,e⟩:=WL e;subst e;have J:=dK J;have B:vQ=fA.length:=k_
 obtain⟨a,ha⟩:∃a,fA[f]?=AA a:=⟨_,cK<|B▸J⟩;obtain⟨pm,G⟩:=Wg w.params ha;have hc:=Sl.mp (codeOk w.params) (a,f)<|List.mem_iff_getElem?.mpr ⟨f,by rw[TA,ha];simp⟩
 obtain⟨hc,hn⟩:=Bool.and_eq_true_iff.mp hc;have hn:=dK hn;have D:=Sl.mp Wb f<|List.mem_range.mpr J;unfold L3 at D;simp only[eQ,wL,Sl,Eu,rP,lB,bne_iff_ne,ne_eq] at D;obtain⟨⟨⟨⟨⟨⟨P,E⟩,M⟩,S⟩,A⟩,R⟩,O⟩:=D;refine DU.mk (fd:=⟨(fnAt f).1,(fnAt f).2.1,(fnAt f).2.2.1,.stmts (fnAt f).2.2.2.1,(fnAt f).2.2.2.2,3,[],.none,.none,.none,pm,AE,.ref<|a-1,.none,0⟩) (ps:=tN f) (body:=(fnAt f).2.2.2.1) ha ?_;show {
  obj:=⟨_,L _ _<|u9 hn G,rfl⟩
  code:=by
   unfold codeB at hc;obtain⟨o,Z,hc⟩:=nJ hc;obtain⟨vs,Y,hc⟩:=WV hc;obtain⟨v,T,hc⟩:=nJ hc;obtain⟨t,rfl⟩:=aGK hc;show⟨a-1,o,vs,t,rfl,L _ _<|u9 (bZ (nB _ _) hn) Z,Y,T⟩
  Ki:=rfl
  bind:=λvals hl=>by
   unfold tN at E hl ⊢;show Us P E hl
  K4:=rfl
  g:=rfl
  b:=rfl
  co:=A
  gen:=R
  kind:=O
  par:=rfl
  ok:=λp C=>jH (M p C).1
  kinds:=λp C=>(M p C).2
  free:=λx q=>S _ (mem_of_lookup q) rfl
  run:=λn=>by
   unfold EZ at hb;show Rs.get hb aGC}
structure bG(W:Wd):Prop where
 T:W.T=tT
 fn:∀{f n:Nat} {fi:uE} {vs:List V} {H:AH} {Q:V->AH->Prop},fT f=AA fi->fi.params.length=vs.length->ig W n fi.body (jr (λy=>AE) fi.params vs) H (QZ Q)->Fn W (n+1) f vs H Q
def aEf(J:∀b o,(hP w.params).get? b=AA o->h.get? b=AA o):bG<|wH w h mb:=⟨rfl,λe hl B=>(Wa J e).casesOn λha x=>We ha x hl B⟩
end
end
section
def aD1:rG=b1++(b2++(b3++(b4++[]))):=k_
section
variable(w:Ah)
def aF1:((Ay w.params).isNs Al&&(Bw []:Array GenState).size == 0,(Ay w.params).objs.size,(Ay w.params).nsMap Al "__annotations__")=(AB,11,nI):=k_
def aEd(os:AU):topGo Aw pg w 11 nI 12 ⟨Ay w.params,Bw [],Bi,boot_toks,os⟩ (topStub pg)=AA ((S0 w os).abs,⟨denote Aw topC,topC,⟨0,0,0,0⟩,rH⟩):=k_
def Uu(os:AU):segRun Aw pg w 11 nI 1 1 (S0 w os).abs (blockOf rG tZ topC ⟨0,0,0,0⟩ rH)=AA (.next,(S0 w os).abs,topC,⟨0,0,0,0⟩):=k_
def WR(os:AU):topRun Aw pg w 11 nI 2 (S4 w os).abs ⟨doneF .next,topC,⟨870,0,890,67⟩,rH⟩=AA (S4 w os).abs:=k_
end
def aDt:opening pg=plainProg pg.main.scope.names:=k_
def WO(s:AG):fenceModules? pg s=AA s:=k_
def aDs:∀w:Ah,(fencedOpening Aw pg w 20000).map (λs=>(s.heap,s.gens,s.drawn,s.toks))=AA (Ay w.params,Bw [],Bi,boot_toks):=boot_open aDt ⋯ WO
def aFU(w:Ah)(os:AU):topRun Aw pg w 11 nI (12+(1+(1214+(1263+(1386+(931+2)))))) ⟨Ay w.params,Bw [],Bi,boot_toks,os⟩ (topStub pg)=AA (S4 w os).abs:=by
 refine go_top (aEd w os)<|piece_block (Uu w os) ?_;rw[aD1];show HL (Hi<|aD5 w os)<|HL (Hi<|aD6 w os) (HL (Hi<|aD7 w os)<|HL (Hi<|aD8 w os) (piece_nil<|WR w os))
def aBr:LeftO rg.row.prog qv nZ Jt (λs=>s.heap) (λw=>hP w.params) 20000:=by
 refine LeftO.of_pieces aDs aF1 (λw os=>(aFU w os).trans<|aF AA (V0 w os)) ⋯ λw=>?_
 funext os
 refine iD (aCC w os)<|iD ?_ rfl;show iD (aCE w os)<|iD (aCF w os) (iD (aCG w os)<|iD (aCH w os) (iD (aCI w os)<|iD (aCJ w os) (iD (aCK w os)<|iD (aCL w os) (aCD w os))))
end
variable{l:List Int}
section
@[irreducible] def qi:DefRec:=⟨"law",(fnAt 80).2.2.1,(fnAt 80).2.2.2.1,(fnAt 80).2.2.2.2,⟨870,0,890,67⟩⟩
def Yd:defOf qv rg.row.name=AA (qi,[]):=k_
def aG5:rg.row.prog.theDef rg.row.name=AA (qi.params,qi.body,qi.scope):=k_
def kw0:kwWritten? qi.params.kwonlyargs qi.params.kw_defaults=AA []:=k_
def ok0:(chainsOk qv&&opensWell rg.row.prog&&(frees rg.row.toRowW&&rg.row.within.isEmpty))=AB:=k_
def Un:rg.row.prog.bare:=⟨rfl,rfl,rfl,rfl,rfl,d_⟩
def aEg:rg.row.toRowW.promised:=⟨[.list []],d_,d_⟩
theorem M0{R:WRecords}:∀{xs:List WData},CX R xs .int=AB->∃l:List Int,xs=l.map BN
 | []=>λy=>⟨[],rfl⟩|x::xs=>λh=>by
  simp only[CX,eQ] at h;obtain⟨i,rfl⟩:=hasW_int h.1;obtain⟨l,rfl⟩:=M0 h.2;show⟨i::l,rfl⟩
def aIG:∀{vs:List AF},WellAll w.params h vs (l.map BN)->aT μ h (l.map V.int) vs:=by
 induction l with
 |nil=>
  intro vs x;rcases x with _|_;show .nil
 |cons i l B=>
  intro vs x;obtain⟨v,J,rfl,a,r⟩:=wellAll_cons_inv x;obtain⟨t,rfl⟩:=EH ((encInt pg w).is a).1;show .cons .gX<|B r
def aFw(h:rg.row.pre.holds rg.row.records {args:=[.list<|l.map BN]}=AB):l.length<=63:=by
 have J:=(holds_andW h).1;have hv:(WTm.not<|.lt (.lit<|.int 63) (.len<|.arg 0)).value [] {args:=[.list<|l.map BN]}=AA (.bool<|!decide (63<((l.map BN).length:Int))):=k_
 have:=condW_of J hv
 simp only[aO,wL,decide_eq_false_iff_not] at this;show Int.ofNat_le.mp<|Int.not_lt.mp this
def aBk:qi.name="law":=k_
def aEZ(l:List Int):rg.row.claim.post [.list<|l.map BN] (.bool AB) [.list<|l.map BN]=AB:=k_
def aBj(P:AR):(ng P "law" == AA (.ref 695)&&fA[80]? == AA 695)=AB:=k_
def aIH{xs:List WData}(x:Well P h v<|.list xs):∃a,∃vs:List AF,v=.ref a/\h.get? a=AA {cls:=.type "list",data:=.seq vs.toArray}/\WellAll P h vs xs:=by
 let M:AF->WData->Prop:=λv d=>WData.casesOn d True (λy=>True) (λy=>True) (λy=>True) (λxs=>∃a,∃vs:List AF,v=.ref a/\h.get? a=AA {cls:=.type "list",data:=.seq vs.toArray}/\WellAll P h vs xs) (λy=>True) (λy=>True) (λy=>True) (λy=>True) (λy=>True) (λy=>True) (λy=>True)<|λy y=>True
 have g:∀{v d},Well P h v d->M v d:=λx=>by
  induction x using Well.casesOn with
  |list a b=>show⟨_,_,rfl,a,b⟩|_=>trivial
 show g x
def aAU(Y:∀{W:Wd},bG W->∀xs:List Int,xs.length<=63->Fn W 200 80 [.lst<|xs.map .int] [] (λv y=>v=.bool AB)):rg.Holds:=by
 refine holds_law Qh λy=>holds_open (r:=rg.row) (q:=qv) (YP:=λw h=>∀b o,(hP w.params).get? b=AA o->h.get? b=AA o) aBr (λw s e b o hb=>by
   have e:=e;rw[e];show hb) (λw h h' Y_ k b o e=>k b o<|Y_ b o e) (λy y=>trivial) (λy y y y y=>trivial) Yd aG5 kw0 (λs y=>recFacts_nil rfl) rfl (row_said Qh) ok0 Un aEg ?_
 intro w s₀ s₁ K mb G Y_ a o pm cd doc n t i hd f x E p O vals as J Z j L m;have T:=G.T;have A:=aIF Y_ T.b T.nolimit T.builtins;have z:K=ng w.params:=Tf T.g A.g;have C:=aBj w.params;simp only[eQ,lB] at C;have ha:a=695:=by
  have:=z▸aBk▸E
  rw[C.1] at this;rcases this with _|_;rfl
 subst ha;obtain⟨d,r,rfl,Q,u⟩:=hasAllW_cons (pre_splitW J).1;obtain rfl:=hasAllW_nil u;obtain⟨xs,rfl,hi⟩:=hasW_list Q;obtain⟨l,rfl⟩:=M0 hi;have B:=aFw (pre_splitW J).2;obtain⟨v,I,rfl,S,P⟩:=wellAll_cons_inv L;rcases P with _|_;obtain⟨b,vs,rfl,hb,D⟩:=aIH S
 let μ:Mu:=⟨[],[],λy=>0⟩
 have N:bC (wH w s₁.heap mb) μ [] s₁.heap:=⟨λy y h=>h,λy h=>(aW h),d7,λy h=>(aW h),rfl,λh=>au h⟩;have R:Rm callerA 200:=⟨by decide,by decide,rfl⟩
 have M:aT μ s₁.heap [.lst<|l.map .int] [.ref b]:=.one ⟨rfl,(λh=>aW h),⟨hb⟩,by rw[aO];show aA B ⋯,aIG D⟩
 refine lX (FH (Y (aEf Y_) l B) C.2 ⟨A,R,N⟩ M λq X r=>?_);subst q;obtain rfl:=(r);show⟨.inl ⟨_,.bool AB,[],rfl,λy=>rfl,.bool AB,aEZ l,λy=>⟨d7,λy h=>aW h⟩⟩,.of_keep X.N.base,X.o,.of_eq<|X.g.trans p⟩
end
end Mine
end
namespace Mine.U
variable{α:Type}{P:Prop}
def aW{a:α}(h:a∈[]):P:=absurd h eL
set_option genCtorIdx true in
set_option genInjectivity true in
inductive Tm where
 |v (n:Nat)|c (k:Bool) (z:Int)|s1 (f:Nat) (x:Tm)|s2 (f:Nat) (x y:Tm)
 deriving DecidableEq
abbrev Sb:=Nat->Tm
def Tm.app(σ:Sb):Tm->Tm
 | .v n=>σ n| .c k z=>.c k z| .s1 f x=>.s1 f (x.app σ)| .s2 f x y=>.s2 f (x.app σ)<|y.app σ
def Tm.has(n:Nat):Tm->Prop
 | .v m=>m=n| .c _ _=>False| .s1 _ x=>x.has n| .s2 _ x y=>x.has n\/y.has n
def Tm.aX:Tm->Nat
 | .v _=>1| .c _ _=>1| .s1 _ x=>x.aX+1| .s2 _ x y=>x.aX+y.aX+1
def Tm.dep:Tm->Nat
 | .v _=>0| .c _ _=>0| .s1 _ x=>x.dep+1| .s2 _ x y=>max x.dep y.dep+1
def Tm.bO:Tm->Bool
 | .v _=>AB|_=>AD
variable{σ:Sb}{f n m:Nat}{x y:Tm}
def ub:(Tm.v n).app σ=σ n:=rfl
def KC:(Tm.s1 f x).app σ=.s1 f (x.app σ):=rfl
def KD:(Tm.s2 f x y).app σ=.s2 f (x.app σ) (y.app σ):=rfl
def Yc:(Tm.v m).has n=(m=n):=rfl
def Ya:(Tm.s2 f x y).has n=(x.has n\/y.has n):=rfl
def Qu:(Tm.s1 f x).aX=x.aX+1:=rfl
def Qv:(Tm.s2 f x y).aX=x.aX+y.aX+1:=rfl
def Tm.kZ(t:Tm):0<t.aX:=by rcases t with _|_<;>show jQ _
variable{w:Tm}
def pT{z:Tm}(h:x=z)(k:y=w):Tm.s2 f x y=.s2 f z w:=h▸k▸rfl
variable{τ:Sb}{t:Tm}
def app_congr:(∀n,t.has n->σ n=τ n)->t.app σ=t.app τ:=by
 induction t with
 |v n=>show λh=>h n rfl|c=>show λz=>rfl|s1 f x J=>show λh=>aF (Tm.s1 f) (J h)|s2 f x y C B=>show λh=>pT (C λn q=>h n<|.inl q)<|B λn q=>h n (.inr q)
def qP(t:Tm):t.app .v=t:=by
 induction t with
 |v=>rfl|c=>rfl|s1 f x J=>show aF (Tm.s1 f) J|s2 f x y C B=>show pT C B
def xD(h:∀n,t.has n->σ n=.v n):t.app σ=t:=(app_congr h).trans<|qP t
def gQ(σ J:Sb)(t:Tm):(t.app J).app σ=t.app λn=>(J n).app σ:=by
 induction t with
 |v=>rfl|c=>rfl|s1 f x B=>show aF (Tm.s1 f) B|s2 f x y D C=>show pT D C
def WC{p q r:α->Prop}:(∃m,p m/\r m)\/(∃m,q m/\r m)↔∃m,(p m\/q m)/\r m:=⟨λh=>h.elim (λB=>B.elim λm J=>J.elim λa b=>⟨m,.inl a,b⟩) λB=>B.elim λm J=>J.elim λa b=>⟨m,.inr a,b⟩,λB=>B.elim λm J=>J.elim λa b=>a.elim (λa=>.inl ⟨m,a,b⟩) λa=>.inr ⟨m,a,b⟩⟩
def dj:(t.app σ).has n↔∃m,t.has m/\(σ m).has n:=by
 induction t with
 |v m=>show⟨λh=>⟨m,rfl,h⟩,λ⟨k,e,h⟩=>e▸h⟩|c=>show⟨AM,λ⟨_,h,_⟩=>h⟩|s1 f x J=>show J|s2 f x y C B=>show(or_congr C B).trans WC
def Hl:t.has n->(σ n).aX<=(t.app σ).aX:=by
 induction t with
 |v m=>show λh=>h▸aV _|c=>show AM|s1 f x J=>show λh=>eM (J h)|s2 f x y C B=>show λh=>eM<|h.elim (λh=>aA (C h)<|aY _ _) λh=>aA (B h) (bU _ _)
def Mc(h:t.has n)(J:t≠.v n):(σ n).aX<(t.app σ).aX:=by
 rcases t with m|_|⟨f,x⟩|⟨f,x,y⟩;show absurd (aF Tm.v h) J;show h.elim;show ip<|Hl h;show ip<|Or.elim h (λh=>aA (Hl h)<|aY _ _) λh=>aA (Hl h) (bU _ _)
def aDh(h:t.has n)(J:t≠.v n)(e:σ n=t.app σ):False:=eV (Mc h J)<|aF Tm.aX e
abbrev Bd:=List<|Nat×Tm
def Bd.at(b:Bd)(n:Nat):Option Tm:=(b.find? λp=>decide<|p.1=n).map (·.2)
def Sat(b:Bd)(σ:Sb):Prop:=∀x t,b.at x=AA t->σ x=t.app σ
structure ay(b:Bd)(S:Sb):Prop where
 sol:Sat b S
 id:∀x,b.at x=AE->S x=.v x
 mg:∀σ,Sat b σ->∀z,(S z).app σ=σ z
 rank:∃r:Nat->Nat,∀x y,b.at x=AA (.v y)->r y<r x
 nd:(b.map (·.1)).Nodup
variable{b:Bd}{S:Sb}
def ay.Gr(M:ay b S)(h:Sat b σ)(t:Tm):(t.app S).app σ=t.app σ:=by
 rw[gQ];show app_congr λn y=>M.mg σ h n
variable{u:Tm}
def WU:u.app S=u->u.has m->S m=.v m:=by
 induction u with
 |v k=>show λe h=>h▸e|c=>show λz h=>h.elim|s1 f x J=>show λe h=>J (Tm.s1.inj e).2 h|s2 f x y C B=>show λe h=>Or.elim h (C (Tm.s2.inj e).2.1)<|B (Tm.s2.inj e).2.2
def ua(e:t.app σ=.v m):∃k,t=.v k/\σ k=.v m:=by
 rcases t with k|_
 .show⟨k,rfl,e⟩
 .rcases e with _|_
 .rcases e with _|_
 rcases e with _|_
def ay.free(M:ay b S)(h:(S n).has m):b.at m=AE:=by
 have C:=WU (M.mg S M.sol n) h;obtain⟨r,hr⟩:=M.rank
 have:∀{i k},r k<i->S k=.v m->k=m\/r m<r k:=λ{i}=>by
  induction i with
  |zero=>show λh=>nomatch h
  |succ i J=>
   intro k hk e;rcases q:b.at k with _|t;show .inl<|Tm.v.inj ((M.id k q).symm.trans e);obtain⟨j,rfl,B⟩:=ua<|(M.sol k t q).symm.trans e;have l:=hr k j q;show .inr<|(J (b6 l<|kr hk) B).elim (λe=>e▸l) λh=>iB h l
 rcases q:b.at m with _|t;rfl;obtain⟨k,rfl,hk⟩:=ua<|(M.sol m t q).symm.trans C;have l:=hr m k q;show((this (c5 _) hk).elim (λe=>eU _<|e▸l) λh=>eU _<|iB h l).elim
def ay.inst(M:ay b S)(J:Sb):Sat b λn=>(S n).app J:=by
 intro x t e;change(S x).app J=_;rw[M.sol x t e,gQ]
def ay.nil:ay [] .v:=⟨λx t e=>(by rcases e with _|_),λy y=>rfl,λσ y z=>rfl,⟨λy=>0,λy y e=>(by rcases e with _|_)⟩,d7⟩
def Uc(h:b.at n=AE):n∉b.map (·.1):=by
 unfold Bd.at at h;rw[Option.map_eq_none_iff,List.find?_eq_none] at h;intro q;obtain⟨p,C,e⟩:=List.mem_map.mp q;show h p C<|a6 e
variable{x:Nat}
def oe(h:b.at x=AE):Bd.at (b++[(x,t)]) n=if n=x then AA t else b.at n:=by
 change Bl _ (List.find? _<|b++[(x,t)])=if n=x then AA t else Bl _ (List.find? _ b)
 rw[S5];by_cases e:n=x
 .rw[aC e,e,Option.map_eq_none_iff.mp h,Option.none_or,JB (p:=λp:Nat×Tm=>decide<|p.1=x)<|a6 rfl];rfl
 rw[aB e,JA<|λq=>e (dK q).symm,List.find?_nil,Th]
def one(x:Nat)(t:Tm):Sb:=λn=>if n=x then t else .v n
variable{r:Nat->Nat}{z:Nat}
def tJ(h:n≠x):one x t n=.v n:=aB h
def zi:one x t x=t:=aC rfl
def aDp{v:Tm}(h:¬v.has x):v.app (one x t)=v:=xD λn hn=>tJ λe=>h<|e▸hn
def PV{v:Tm}(h:(v.app<|one x t).has n):v.has n\/t.has n:=by
 obtain⟨j,B,J⟩:=dj.mp h;by_cases e:j=x;show .inr (by rw[e,zi] at J;show J)
 show .inl (by rw[tJ e] at J;show J▸B)
def Hh(J:b.at x=AE):Sat (b++[(x,t)]) σ↔Sat b σ/\σ x=t.app σ:=by
 refine⟨λh=>⟨λy u e=>h y u ?_,h x t<|by rw[oe J,aC rfl]⟩,λB y u e=>B.elim λh1 C=>?_⟩
 .rw[oe J,aB];show e;show λq=>by rw[q,J] at e;show nomatch e
 rw[oe J] at e;by_cases q:y=x
 .rw[aC q] at e;rw[q,<-ai e];show C
 rw[aB q] at e;show h1 y u e
def rk(b:Bd)(x:Nat)(r:Nat->Nat)(z:Nat):Nat:=if b.at z=AE then(if z=x then 1 else 0) else r z+2
def He(h:b.at z=AE):rk b x r z=if z=x then 1 else 0:=aC h
def Qb(h:b.at z≠AE):rk b x r z=r z+2:=aB h
def aFN(h:b.at z=AE\/r z<n):rk b x r z<n+2:=by
 by_cases q:b.at z=AE
 .rw[He q];split
  show bj<|bj (bK _);show jQ _
 show Qb q▸Dz (h.resolve_left q) 2
def ay.bind(M:ay b S)(J:b.at x=AE)(B:¬(t.app S).has x)(C:∀y,t=.v y->b.at y=AE):
  ay (b++[(x,t)]) (λn=>(S n).app<|one x (t.app S))/\∀σ,Sat (b++[(x,t)]) σ↔Sat b σ/\σ x=t.app σ:=by
 refine⟨⟨(Hh J).mpr ⟨M.inst _,?_⟩,λy e=>?_,λσ h z=>?_,?_,?_⟩,λσ=>Hh J⟩
 .rw[M.id x J,<-gQ,aDp B];show zi
 .rw[oe J] at e;by_cases q:y=x;show nomatch (aC q).symm.trans e;rw[aB q] at e;rw[M.id y e];show tJ q
 .obtain⟨h1,h2⟩:=(Hh J).mp h;rw[gQ,<-M.mg σ h1 z];refine app_congr λn o=>?_;by_cases q:n=x
  .rw[q,zi,M.Gr h1,h2]
  rw[tJ q];rfl
 .obtain⟨r,hr⟩:=M.rank;refine⟨rk b x r,λy k e=>?_⟩;rw[oe J] at e;by_cases q:y=x
  .rw[aC q] at e;have hk:=C k<|ai e;rw[He hk,He<|q▸J,aC q,aB];show w3;show λq=>B (by rw[ai e,ub,M.id k hk];show q)
  rw[aB q] at e;show Qb (λq=>nomatch e.symm.trans q)▸aFN (.inr<|hr y k e)
 rw[bw,JL];show⟨M.nd,List.nodup_cons.mpr ⟨eL,d7⟩,λa T c D e=>Uc J<|(e.trans (JK.mp D):a=x)▸T⟩
inductive Walk(b:Bd):Tm->Tm->Prop
 |stop {t:Tm}:(∀n,t=.v n->b.at n=AE)->Walk b t t|step {n:Nat} {t u:Tm}:b.at n=AA t->Walk b t u->Walk b (.v n) u
def Walk.sat(w:Walk b t u)(h:Sat b σ):t.app σ=u.app σ:=by
 induction w with
 |stop=>rfl|step e _ J=>rw[<-J];show h _ _ e
def Walk.free(w:Walk b t u):∀n,u=.v n->b.at n=AE:=by
 induction w with
 |stop h=>show h|step _ _ J=>show J
def Walk.PT(h:t.bO=AD):Walk b t t:=.stop λn e=>by rw[e] at h;rcases h with _|_
def v_or(t:Tm):(∃n,t=.v n)\/t.bO=AD:=by
 rcases t with n|_;show .inl ⟨n,rfl⟩;show .inr rfl;show .inr rfl;show .inr rfl
def ay.walks(M:ay b S)(t:Tm):∃u,Walk b t u:=by
 obtain⟨r,hr⟩:=M.rank;have B:∀{k n:Nat},r n<k->∃u,Walk b (.v n) u:=λ{k}=>by
  induction k with
  |zero=>show λh=>nomatch h
  |succ k C=>
   intro n hn;rcases e:b.at n with _|t
   .show⟨_,.stop λm q=>Tm.v.inj q▸e⟩
   show(v_or t).elim (λJ=>J.elim λm q=>(C<|b6 (hr n m<|q▸e) (kr hn)).elim λu w=>⟨u,.step e<|q▸w⟩) λh=>⟨t,.step e<|.PT h⟩
 show(v_or t).elim (λJ=>J.elim λm q=>q▸B (c5<|r m)) λh=>⟨t,.PT h⟩
def Walk.var(M:ay b S)(w:Walk b t<|.v n):t.app S=.v n:=by
 rw[w.sat M.sol];show M.id n<|w.free n rfl
def Walk.wG(M:ay b S)(w:Walk b t u):u=.v n↔t.app S=.v n:=by
 refine⟨λe=>Walk.var M<|e▸w,λe=>?_⟩;obtain⟨m,q,h⟩:=ua<|(w.sat M.sol).symm.trans e;show q.trans<|(M.id m<|w.free m q).symm.trans h
structure iE(Q:Tm->Prop):Prop where
 s1:∀f x,Q (.s1 f x)->Q x
 s2:∀f x y,Q (.s2 f x y)->Q x/\Q y
def BQ(Q:Tm->Prop)(b:Bd):Prop:=∀p∈b,Q (.v p.1)/\Q p.2
def nN(h:b.at n=AA t):(n,t)∈b:=by
 obtain⟨p,h1,B⟩:=Option.map_eq_some_iff.mp h;have J:=List.find?_some h1
 have:=dK J
 rw[<-this,<-B];show TN h1
def Walk.c7(w:Walk b t u){Q:Tm->Prop}(B:BQ Q b)(h:Q t):Q u:=by
 induction w with
 |stop=>show h|step e _ J=>show J (B _<|nN e).2
def Dir(S:Sb)(s t:Tm)(S':Sb):Prop:=
 (∀x,s.app S=.v x->S'=λn=>(S n).app<|one x (t.app S))/\∀y,(s.app S).bO=AD->t.app S=.v y->S'=λn=>(S n).app<|one y (s.app S)
def aDq(x:Nat):one x (.v x)=.v:=by
 funext n
 by_cases h:n=x
 .rw[h,zi]
 show tJ h
def v_not(h:t.bO=AD)(e:t=.v x):P:=nomatch (e▸h)
variable{s:Tm}
def Dir.same(h:s.app S=t.app S):Dir S s t S:=⟨λx e=>funext λn=>by rw[<-h,e,aDq,qP],λy e J=>v_not e<|h.trans J⟩
variable{S':Sb}
def Dir.none(B:(s.app S).bO=AD)(J:(t.app S).bO=AD):Dir S s t S':=⟨λy=>v_not B,λy y=>v_not J⟩
def Dir.bind(J:(s.app S=.v x/\u.app S=t.app S)\/((s.app S).bO=AD/\t.app S=.v x/\u.app S=s.app S)):Dir S s t λn=>(S n).app<|one x (u.app S):=
 J.elim (λh=>⟨λy e=>by rw[h.2,Tm.v.inj<|h.1.symm.trans e],λy e z=>v_not e h.1⟩) λh=>⟨λy e=>v_not h.1 e,λy z e=>by rw[h.2.2,Tm.v.inj<|h.2.1.symm.trans e]⟩
structure Met(b:Bd)(S:Sb)(s t:Tm)(b':Bd)(S':Sb):Prop where
 aw:ay b' S'
 sat:∀σ,Sat b' σ↔Sat b σ/\s.app σ=t.app σ
 pre:b <+:b'
 keys:∀n,b'.at n≠AE->b.at n=AE->(s.app S).has n\/(t.app S).has n
 c7:∀Q,iE Q->BQ Q b->Q s->Q t->BQ Q b'
 step:∃D_:Sb,(∀n,S' n=(S n).app D_)/\(∀n,¬((s.app S).has n\/(t.app S).has n)->D_ n=.v n)/\∀n m,(s.app S).has n\/(t.app S).has n->(D_ n).has m->(s.app S).has m\/(t.app S).has m
 dir:Dir S s t S'
def eh(b:Bd)(s t:Tm):Prop:=∀σ,Sat b σ->s.app σ≠t.app σ
structure fL(b₀:Bd)(S₀:Sb)(s t:Tm)(b:Bd)(S:Sb)(todo:List (Tm×Tm)):Prop where
 aw:ay b S
 sat:∀σ,(Sat b₀ σ/\s.app σ=t.app σ)↔Sat b σ/\∀p∈todo,p.1.app σ=p.2.app σ
 pre:b₀ <+:b
 keys:∀n,b.at n≠AE->b₀.at n=AE->(s.app S₀).has n\/(t.app S₀).has n
 c7:∀Q,iE Q->BQ Q b₀->Q s->Q t->BQ Q b/\∀p∈todo,Q p.1/\Q p.2
 step:∃D_:Sb,(∀n,S n=(S₀ n).app D_)/\(∀n,¬((s.app S₀).has n\/(t.app S₀).has n)->D_ n=.v n)/\∀n m,(s.app S₀).has n\/(t.app S₀).has n->(D_ n).has m->(s.app S₀).has m\/(t.app S₀).has m
 ins:∀p∈todo,∀n,(p.1.app S).has n\/(p.2.app S).has n->(s.app S₀).has n\/(t.app S₀).has n
 dir:(S=S₀/\todo=[(s,t)])\/(todo=[]/\Dir S₀ s t S)\/((s.app S₀).bO=AD/\(t.app S₀).bO=AD)
def fL.start(M:ay b S)(s t:Tm):fL b S s t b S [(s,t)] where
 aw:=M
 sat:=λσ=>EM (S6 (p:=λp:Tm×Tm=>p.1.app σ=p.2.app σ) (a:=(s,t))).symm
 pre:=oV
 keys:=λn h1 J=>absurd J h1
 c7:=λQ y B h1 J=>⟨B,S6.mpr ⟨h1,J⟩⟩
 step:=⟨.v,λn=>(qP _).symm,λy y=>rfl,λn m h e=>(e)▸h⟩
 ins:=S6.mpr λn h=>h
 dir:=.inl ⟨rfl,rfl⟩
section
variable{b₀:Bd}{S₀:Sb}{one two:Tm}{todo:List (Tm×Tm)}
def fL.done(m:fL b₀ S₀ s t b S []):Met b₀ S₀ s t b S where
 aw:=m.aw
 sat:=λσ=>⟨λh=>(m.sat σ).mpr ⟨h,λy m=>aW m⟩,λh=>((m.sat σ).mp h).1⟩
 pre:=m.pre
 keys:=m.keys
 c7:=λQ h1 C B J=>(m.c7 Q h1 C B J).1
 step:=m.step
 dir:=m.dir.elim (λh=>nomatch h.2) λh=>h.elim (·.2) λh=>.none h.1 h.2
def Dir.next(h:(S=S₀/\(one,two)::todo=[(s,t)])\/((one,two)::todo=[]/\Dir S₀ s t S)\/((s.app S₀).bO=AD/\(t.app S₀).bO=AD)):(Dir S one two S'->(S'=S₀/\todo=[(s,t)])\/(todo=[]/\Dir S₀ s t S')\/((s.app S₀).bO=AD/\(t.app S₀).bO=AD))/\((one.app S).bO=AD->(two.app S).bO=AD->(s.app S₀).bO=AD/\(t.app S₀).bO=AD):=by
 rcases h with ⟨rfl,e⟩|h|h
 .rcases e with _|_;show⟨λh=>.inr<|.inl ⟨rfl,h⟩,.intro⟩
 show nomatch h.1;show⟨λy=>.inr<|.inr h,λy y=>h⟩
def Mk{A B_ C B E:Prop}(e:A↔B_/\C/\B)(h:B_->(C↔E)):A↔(B_/\E)/\B:=⟨λa=>have z:=e.mp a;⟨⟨z.1,(h z.1).mp z.2.1⟩,z.2.2⟩,λD=>D.elim λJ d=>J.elim λb c=>e.mpr ⟨b,(h b).mpr c,d⟩⟩
section
variable(m:fL b₀ S₀ s t b S ((one,two)::todo))
def fL.z7(σ:Sb):(Sat b₀ σ/\s.app σ=t.app σ)↔Sat b σ/\one.app σ=two.app σ/\∀p∈todo,p.1.app σ=p.2.app σ:=(m.sat σ).trans<|EM JD
def fL.skip(h:∀σ,Sat b σ->one.app σ=two.app σ):fL b₀ S₀ s t b S todo where
 aw:=m.aw
 sat:=λσ=>⟨λa=>have z:=(m.z7 σ).mp a;⟨z.1,z.2.2⟩,λz=>(m.z7 σ).mpr ⟨z.1,h σ z.1,z.2⟩⟩
 pre:=m.pre
 keys:=m.keys
 c7:=λQ h1 D B J=>⟨(m.c7 Q h1 D B J).1,λp C=>(m.c7 Q h1 D B J).2 p<|.tail _ C⟩
 step:=m.step
 ins:=λp C=>m.ins p<|.tail _ C
 dir:=(Dir.next m.dir).1<|.same (h _ m.aw.sol)
def fL.bound(D:∀σ,Sat b σ->(one.app σ=two.app σ↔σ x=u.app σ))(L:b.at x=AE)(G:∀y,u=.v y->b.at y=AE)(Z:¬(u.app S).has x)
  (T:∀n,n=x\/(u.app S).has n->(one.app S).has n\/(two.app S).has n) (Y:∀Q,iE Q->BQ Q b->Q one->Q two->Q (.v x)/\Q u)
  (O:(one.app S=.v x/\u.app S=two.app S)\/((one.app S).bO=AD/\two.app S=.v x/\u.app S=one.app S)):fL b₀ S₀ s t (b++[(x,u)]) (λn=>(S n).app<|Mine.U.one x (u.app S)) todo:=by
 have M:=m.aw.bind L Z G;have J:=λn h=>m.ins _ h_ n<|T n h;have B:∀{v:Tm} {n},(v.app λn=>(S n).app<|Mine.U.one x (u.app S)).has n->(v.app S).has n\/(u.app S).has n:=λ{v n} h=>PV<|gQ (Mine.U.one x<|u.app S) S v▸h;refine⟨M.1,λσ=>(Mk (m.z7 σ)<|D σ).trans<|and_congr_left' (M.2 σ).symm,m.pre.trans<|rZ _ _,λn q E=>?_,λQ D P A R=>?_,?_,λp C n h=>?_,(Dir.next m.dir).1<|Dir.bind O⟩
 .rw[oe L] at q;by_cases e:n=x;show J n<|.inl e;rw[aB e] at q;show m.keys n q E
 .have z:=m.c7 Q D P A R;have y:=z.2 _ h_;show⟨λp C=>(nA.mp C).elim (z.1 p) λC=>(JK.mp C).symm▸Y Q D z.1 y.1 y.2,λp C=>z.2 p<|.tail _ C⟩
 .obtain⟨D_,d1,d2,d3⟩:=m.step;refine⟨λn=>(D_ n).app<|Mine.U.one x (u.app S),λn=>(aF _<|d1 n).trans<|gQ _ _ _,λn q=>?_,λn k q h=>(PV h).elim (d3 n k q) λh=>J k<|.inr h⟩;change(D_ n).app _=_;rw[d2 n q];show tJ λe=>q<|J _ (.inl e)
 show h.elim (λh=>(B h).elim (λh=>m.ins p (.tail _ C) n<|.inl h) λh=>J n<|.inr h) λh=>(B h).elim (λh=>m.ins p (.tail _ C) n<|.inr h) λh=>J n<|.inr h
def fL.parts{ps:List<|Tm×Tm}(h:∀σ,Sat b σ->(one.app σ=two.app σ↔∀p∈ps,p.1.app σ=p.2.app σ))
  (B:∀p∈ps,∀n,(p.1.app S).has n\/(p.2.app S).has n->(one.app S).has n\/(two.app S).has n) (T:∀Q,iE Q->BQ Q b->Q one->Q two->∀p∈ps,Q p.1/\Q p.2) (J:(one.app S).bO=AD) (D:(two.app S).bO=AD):fL b₀ S₀ s t b S (ps++todo) where
 aw:=m.aw
 sat:=λσ=>(Mk (m.z7 σ)<|h σ).trans<|and_assoc.trans (EM List.forall_mem_append.symm)
 pre:=m.pre
 keys:=m.keys
 c7:=λQ J D M L=>
  have z:=m.c7 Q J D M L;have y:=z.2 _ h_
  ⟨z.1,λp C=>(nA.mp C).elim (T Q J z.1 y.1 y.2 p) λC=>z.2 p<|.tail _ C⟩
 step:=m.step
 ins:=λp C n h=>(nA.mp C).elim (λC=>m.ins _ h_ n<|B p C n h) λC=>m.ins p (.tail _ C) n h
 dir:=.inr<|.inr ((Dir.next (S':=S) m.dir).2 J D)
def fL.fails(h:∀σ,Sat b σ->one.app σ≠two.app σ):eh b₀ s t:=λσ a e=>by
 obtain⟨q,r⟩:=(m.sat σ).mp ⟨a,e⟩;show h σ q<|r _ h_
end
end
def cD(tb:List Nat):Tm->Tm×List Nat
 | .v n=>if n∈tb then(.v<|tb.idxOf n,tb) else(.v tb.length,tb++[n])| .c k z=>(.c k z,tb)| .s1 f x=>(.s1 f (cD tb x).1,(cD tb x).2)| .s2 f x y=>(.s2 f (cD tb x).1 (cD (cD tb x).2 y).1,(cD (cD tb x).2 y).2)
def eX(tb:List Nat):List Tm->List Tm×List Nat
 | []=>([],tb)|t::D=>((cD tb t).1::(eX (cD tb t).2 D).1,(eX (cD tb t).2 D).2)
def kJ(D:List Tm):List Tm:=(eX [] D).1
def cM(D:List Tm):List Nat:=(eX [] D).2
variable{tb:List Nat}{D:List Tm}
section
variable{x:Tm}
def lH:cD tb (.v n)=if n∈tb then(.v<|tb.idxOf n,tb) else(.v tb.length,tb++[n]):=rfl
end
structure gi(τ ω:Sb)(tb tb':List Nat):Prop where
 to:tb.map τ=tb'.map .v
 back:tb'.map ω=tb.map .v
variable{ω:Sb}{us:List Tm}
section
variable{tb':List Nat}{a b:Nat}
def gi.len(J:gi τ ω tb tb'):tb.length=tb'.length:=aO (f:=τ)▸(aF A8 J.to).trans (aO _)
def gi.at_(C:gi τ ω tb tb')(i a b:Nat)(B:tb[i]?=AA a)(J:tb'[i]?=AA b):τ a=.v b:=by
 have e:=aF (·[i]?) C.to;rw[f3,f3,B,J] at e;show ai e
def gi.nil:gi τ ω [] []:=⟨rfl,rfl⟩
section
variable(C_:gi τ ω tb tb')(h1:τ a=.v b)
def gi.mem(h:a∈tb):b∈tb':=by
 have m:=rY (f:=τ) h;rw[C_.to,h1] at m;show let ⟨_,m,e⟩:=List.mem_map.mp m;Tm.v.inj e▸m
def gi.snoc(J:ω b=.v a):gi τ ω (tb++[a])<|tb'++[b]:=⟨by rw[bw,bw,C_.to];show aF (tb'.map Tm.v++[·]) h1,by rw[bw,bw,C_.back];show aF (tb.map Tm.v++[·]) J⟩
end
def Yq(D:τ a=.v b)(C:ω b=.v a):∀{tb':List Nat},tb.map τ=tb'.map .v->tb'.map ω=tb.map .v->tb.idxOf a=tb'.idxOf b:=by
 induction tb with
 |nil=>
  intro tb' e _;rcases tb' with _|_;rfl;show nomatch e
 |cons x tb B=>
  intro tb' e T;rcases tb' with _|⟨y,tb'⟩;show nomatch e;have p:=p8 e;have J:=p8 T;have q:(x == a)=(y == b):=IW.mpr ⟨λz=>lB.mpr<|Tm.v.inj (p.1.symm.trans<|lB.mp z▸D),λz=>lB.mpr<|Tm.v.inj (J.1.symm.trans<|lB.mp z▸C)⟩;rw[Dp,Dp,B p.2 J.2,q]
def aB3:∀{tb tb':List Nat},(u.app τ).app ω=u->gi τ ω tb tb'->(cD tb u).1=(cD tb'<|u.app τ).1/\gi τ ω (cD tb u).2 (cD tb'<|u.app τ).2:=by
 induction u with
 |v a=>
  intro tb tb' h C_;obtain⟨b,e,J⟩:=ua h;rw[ub,show τ a=.v b from e,lH,lH]
  by_cases q:a∈tb
  .rw[aC q,aC<|C_.mem e q];show⟨aF Tm.v<|Yq e J C_.to C_.back,C_⟩
  rw[aB q,aB λr=>q<|gi.mem ⟨C_.back,C_.to⟩ J r];show⟨aF Tm.v C_.len,C_.snoc e J⟩
 |c=>show λo C_=>⟨rfl,C_⟩|s1 f x B=>show λh C_=>have z:=B (Tm.s1.inj h).2 C_;⟨aF (Tm.s1 f) z.1,z.2⟩|s2 f x y D C=>show λh C_=>have z:=D (Tm.s2.inj h).2.1 C_;have w:=C (Tm.s2.inj h).2.2 z.2;⟨pT z.1 w.1,w.2⟩
def aBw:∀{tb tb':List Nat},(us.map<|Tm.app τ).map (Tm.app ω)=us->gi τ ω tb tb'->(eX tb us).1=(eX tb'<|us.map (Tm.app τ)).1/\gi τ ω (eX tb us).2 (eX tb'<|us.map (Tm.app τ)).2:=by
 induction us with
 |nil=>show λy C_=>⟨rfl,C_⟩|cons u us J=>show λh C_=>have h:=p8 h;have z:=aB3 h.1 C_;have w:=J h.2 z.2;⟨List.cons_eq_cons.mpr ⟨z.1,w.1⟩,w.2⟩
end
def pB:∀{tb:List Nat},n∈(cD tb t).2↔n∈tb\/t.has n:=by
 induction t with
 |v m=>
  intro tb;rw[lH];by_cases h:m∈tb
  .rw[aC h];show⟨.inl,λq=>q.elim id λq=>(q)▸h⟩
  rw[aB h,nA,JK,Yc,eq_comm]
 |c=>show⟨.inl,λh=>h.elim id AM⟩|s1 f x J=>show J|s2 f x y C B=>show B.trans<|(or_congr_left C).trans or_assoc
def sR{p:α->Prop}{a:α}{l:List α}:p a\/(∃x∈l,p x)↔∃x∈a::l,p x:=⟨λh=>h.elim (λh=>⟨a,.head _,h⟩) λB=>B.elim λx J=>J.elim λm h=>⟨x,.tail _ m,h⟩,λ⟨x,m,h⟩=>(JJ.mp m).elim (λe=>.inl<|e▸h) λm=>.inr ⟨x,m,h⟩⟩
def qj:∀{tb:List Nat},n∈(eX tb D).2↔n∈tb\/∃t∈D,t.has n:=by
 induction D with
 |nil=>show⟨.inl,λh=>h.elim id λB=>B.elim λy J=>J.elim λm y=>aW m⟩|cons t D C=>show C.trans<|(or_congr_left pB).trans (or_assoc.trans<|or_congr_right sR)
variable{π:Sb}
def UP:t.app σ=t.app π->t.has n->σ n=π n:=by
 induction t with
 |v m=>show λe h=>h▸e|c=>show λz h=>h.elim|s1 f x J=>show λe h=>J (Tm.s1.inj e).2 h|s2 f x y C B=>show λe h=>Or.elim h (C (Tm.s2.inj e).2.1)<|B (Tm.s2.inj e).2.2
def map_inj(h:n∈cM D)(e:D.map (Tm.app σ)=D.map (Tm.app π)):σ n=π n:=
 have ⟨_,m,hn⟩:=(qj.mp h).resolve_left eL
 UP (List.map_inj_left.mp e _ m) hn
abbrev Place:=Nat×Nat
abbrev tP(n:Nat):Place:=(116,n)
abbrev yP(n:Nat):Place:=(121,n)
abbrev aP(n:Nat):Place:=(97,n)
inductive bN where
 |getVar (p q:Place)|kG (p q:Place)|kE (k:Bool) (z:Int) (q:Place)|yC (q:Place)|yD (f:Nat) (q:Place)|kb (p:Place)|pf (p:Place)|ph (p:Place)|oJ (k:Bool) (z:Int)|oL (n:Nat)|HV (q:Place)|putStr (f:Nat) (q:Place)|oD (p:Place)|pV (p:Place)|oC (p:Place)|oB (k:Bool) (z:Int)|oE (n:Nat)|q8 (p q:Place)|mX (q:Place)|lP (p q:Place)|jI (p q:Place)|kU (k:Bool) (z:Int) (q:Place)|mC (f:Nat)|fail|alloc (n:Nat)|jW|call (f:Nat) (n:Nat)|exec (f:Nat)|proceed
structure Pl where
 void:Nat->Bool
 perm:Nat->Bool
 slot:Nat->Nat
 dt:Nat->Bool
 last:Nat->Int
set_option genCtorIdx true in
inductive Gl where
 |call (f:Nat) (as:List Tm)|bi (f:Nat) (as:List Tm)|fE (l r:Tm)
structure Cs where
 seen:List Nat
 loc:List Nat
 nt:Nat
abbrev Wr:=List bN×Cs
inductive Pc where
 |tm (t:Tm)|rg (p:Place)
section
variable(Z:Pl)
def place(k:Nat):Place:=if Z.perm k=AB then yP (Z.slot k) else tP k
def add(l:List Nat)(k:Nat):List Nat:=if k∈l then l else l++[k]
def Cs.dA(c:Cs)(k:Nat):Cs:={c with seen:=add c.seen k}
def Cs.lI(c:Cs)(k:Nat):Cs:={c with loc:=add c.loc k}
def Cs.bh(c:Cs):Cs:={c with nt:=c.nt+1}
def aR:Tm->Bool
 | .s1 _ _=>AB| .s2 _ _ _=>AB|_=>AD
def af:Tm->List Tm
 | .s1 _ x=>[x]| .s2 _ x y=>[x,y]|_=>[]
def fnOf:Tm->Nat
 | .s1 f _=>f| .s2 f _ _=>f|_=>0
def cU:Tm->Bool
 | .v k=>Z.void k|_=>AD
def lE(f:Nat)(r:Place):bN:=if f=0 then .yC r else .yD f r
def pG(k:Nat)(c:Cs):Wr:=
 if k∈c.seen then(if k∈c.loc then([.pf<|place Z k],c) else([.ph<|place Z k],c)) else([.kb<|place Z k],c.dA k)
def jc(n:Nat):List bN:=if n=0 then[] else[.oL n]
def kN(t:Tm)(c:Cs):Wr:=match t with
 | .v k=>pG Z k c| .c b z=>([.oJ b z],c)|_=>([],c)
def b5:List Tm->Nat->Cs->List bN×Cs×List (Tm×Place)
 | [],n,c=>(jc n,c,[])|t::as,n,c=>if aR t=AB then(jc n++.kb (tP c.nt)::(b5 as 0 c.bh).1,(b5 as 0 c.bh).2.1,(t,tP c.nt)::(b5 as 0 c.bh).2.2)
  else if cU Z t=AB then b5 as (n+1) c
  else(jc n++((kN Z t c).1++(b5 as 0 (kN Z t c).2).1),(b5 as 0 (kN Z t c).2).2)
def jE:Nat->List (Tm×Place)->Cs->Wr
 |0,_,c=>([],c)|_+1,[],c=>([],c)|n+1,(t,r)::q,c=>(lE (fnOf t) r::(b5 Z (af t) 0 c).1++(jE n (q++(b5 Z (af t) 0 c).2.2) (b5 Z (af t) 0 c).2.1).1,(jE n (q++(b5 Z (af t) 0 c).2.2) (b5 Z (af t) 0 c).2.1).2)
def kO(t:Tm)(r:Place)(c:Cs):Wr:=jE Z t.aX [(t,r)] c
def nU(t:Tm)(q:Place)(c:Cs):Wr:=match t with
 | .v k=>if Z.void k=AB then([],c) else if k∈c.seen then([.kG (place Z k) q],c) else([.getVar (place Z k) q],(c.dA k).lI k)| .c b z=>([.kE b z q],c)|_=>([],c)
def hH:List Tm->Nat->Cs->Wr
 | [],_,c=>([],c)|t::D,n,c=>
   let w:=nU Z t (aP n) c
   let r:=hH D (n+1) w.2
   (w.1++r.1,r.2)
def vw(k:Nat)(c:Cs):Wr:=
 if k∈c.loc then([.pV<|place Z k],if Z.perm k=AB then c else {c with loc:=c.loc.filter (· != k)}) else([.oC<|place Z k],c)
def mY(k:Nat)(c:Cs):Wr:=if k∈c.seen then vw Z k c else([.oD<|place Z k],c.dA k)
def vm(f:Nat)(r:Place):bN:=if f=0 then .HV r else .putStr f r
def kD(n:Nat):List bN:=if n=0 then[] else[.oE n]
def qb:Pc->Bool
 | .tm t=>cU Z t| .rg _=>AD
def iY(p:Pc)(c:Cs):Wr:=match p with
 | .tm (.v k)=>mY Z k c| .tm (.c b z)=>([.oB b z],c)| .rg r=>([.oC r],c)|_=>([],c)
def fC:List Pc->Nat->Cs->Wr
 | [],n,c=>(kD n,c)|p::ps,n,c=>if qb Z p=AB then fC ps (n+1) c else(kD n++((iY Z p c).1++(fC ps 0 (iY Z p c).2).1),(fC ps 0 (iY Z p c).2).2)
abbrev Pr:=List bN×List Pc×Cs
def fin(t:Tm)(r:Place)(ps:List Pc)(c:Cs):Wr:=(vm (fnOf t) r::(fC Z ps 0 c).1,(fC Z ps 0 c).2)
def dW(J:Cs->Pr)(t:Tm)(c:Cs):List bN×Pc×Cs:=
 if aR t=AB then((J c).1++(fin Z t (tP (J c).2.2.nt) (J c).2.1 (J c).2.2.bh).1,.rg<|tP (J c).2.2.nt,(fin Z t (tP (J c).2.2.nt) (J c).2.1 (J c).2.2.bh).2) else([],.tm t,c)
def e8(J:Cs->Pr)(t:Tm)(c:Cs):List bN×Pc×Cs:=
 if aR t=AB then((J c.bh).1++(fin Z t (tP c.nt) (J c.bh).2.1 (J c.bh).2.2).1,.rg<|tP c.nt,(fin Z t (tP c.nt) (J c.bh).2.1 (J c.bh).2.2).2) else([],.tm t,c)
def pr1(w:List bN×Pc×Cs):Pr:=(w.1,[w.2.1],w.2.2)
def pr2(p:Pc)(i:List bN)(v:List bN×Pc×Cs):Pr:=(i++v.1,[v.2.1,p],v.2.2)
def bS(t:Tm):Cs->Pr:=Tm.rec (λz c=>([],[],c)) (λz z c=>([],[],c)) (λz x B c=>pr1<|dW Z B x c) (λz x y C J c=>pr2 (dW Z J y c).2.1 (dW Z J y c).1<|e8 Z C x (dW Z J y c).2.2) t
def dw(t:Tm)(r:Place)(c:Cs):Wr:=((bS Z t c).1++(fin Z t r (bS Z t c).2.1 (bS Z t c).2.2).1,(fin Z t r (bS Z t c).2.1 (bS Z t c).2.2).2)
def un(k:Nat)(J:Int):Bool:=Z.dt k&&decide (0<=J/\Z.last k=J)
def pE(k:Nat)(q:Place)(J:Int)(c:Cs):Wr:=
 if Z.void k=AB then([.mX q],c) else if k∈c.seen then([if un Z k J=AB then .lP (place Z k) q else .jI (place Z k) q],c) else([.q8 (place Z k) q],if Z.perm k=AB then(c.dA k).lI k else c.dA k)
def pD(t:Tm)(q:Place)(J:Int)(c:Cs):Wr:=match t with
 | .v k=>pE Z k q J c| .c b z=>([.kU b z q],c)|t=>dw Z t q c
def jC(J:Int):List Tm->Nat->Cs->Wr
 | [],_,c=>([],c)|t::D,n,c=>((pD Z t (aP n) J c).1++(jC J D (n+1) (pD Z t (aP n) J c).2).1,(jC J D (n+1) (pD Z t (aP n) J c).2).2)
def Tm.hasB(n:Nat):Tm->Bool
 | .v m=>m == n| .c _ _=>AD| .s1 _ x=>x.hasB n| .s2 _ x y=>x.hasB n||y.hasB n
section
variable(k:Nat)
def bD(c:Cs):Place×Cs:=if Z.perm k=AB then(tP c.nt,c.bh) else(tP k,c)
def settle(r:Place)(c:Cs):Wr:=(if Z.perm k=AB then[.getVar (place Z k) r] else[],c.dA k)
def s6(r:Place)(c:Cs):bN:=if k∈c.loc then .lP (place Z k) r else .jI (place Z k) r
def cV(c:Cs):List bN×Place×Cs:=if Z.perm k=AB then([s6 Z k (tP c.nt) c],tP c.nt,c.bh) else([],tP k,c)
def c9(c:Cs):Wr:=if Z.void k=AB then([],c) else(.mX (bD Z k c).1::(settle Z k (bD Z k c).1 (bD Z k c).2).1,(settle Z k (bD Z k c).1 (bD Z k c).2).2)
end
def nG(k o:Nat)(c:Cs):Cs:=(if o∈c.loc then c.lI k else c).dA k
def jS(k o:Nat)(c:Cs):Wr:=
 if Z.void k=AB then([],c) else if Z.perm o=AB then(s6 Z o (bD Z k c).1 (bD Z k c).2::(settle Z k (bD Z k c).1 (bD Z k c).2).1,(settle Z k (bD Z k c).1 (bD Z k c).2).2)
 else([if Z.perm k=AB then .getVar (place Z k) (place Z o) else .jI (place Z o) (place Z k)],nG k o c)
def jo(j k:Nat)(c:Cs):Wr:=
 if j∈c.seen then
  (if k∈c.seen then(if j=k then([],c) else if Z.perm j=AB then((cV Z k c).1++[.kG (place Z j) (cV Z k c).2.1],(cV Z k c).2.2) else([.kG (place Z k)<|place Z j],c)) else jS Z k j c)
 else if k∈c.seen then jS Z j k c
 else if j=k then c9 Z k c
 else((c9 Z k c).1++(if k∈(c9 Z k c).2.seen then jS Z j k (c9 Z k c).2 else c9 Z j (c9 Z k c).2).1,(if k∈(c9 Z k c).2.seen then jS Z j k (c9 Z k c).2 else c9 Z j (c9 Z k c).2).2)
section
variable(k:Nat)(t:Tm)(c:Cs)
def IA:Wr:=match t with
 | .c b z=>((cV Z k c).1++[.kE b z (cV Z k c).2.1],(cV Z k c).2.2)|t=>((cV Z k c).1++(kO Z t (cV Z k c).2.1 (cV Z k c).2.2).1,(kO Z t (cV Z k c).2.1 (cV Z k c).2.2).2)
def rK:Wr:=match t with
 | .c b z=>if Z.void k=AB then([],c) else(.kU b z (bD Z k c).1::(settle Z k (bD Z k c).1 (bD Z k c).2).1,(settle Z k (bD Z k c).1 (bD Z k c).2).2)|t=>if Z.void k=AB then dw Z t (tP c.nt) c.bh else((dw Z t (bD Z k c).1 (bD Z k c).2).1++(settle Z k (bD Z k c).1 (dw Z t (bD Z k c).1 (bD Z k c).2).2).1,(settle Z k (bD Z k c).1 (dw Z t (bD Z k c).1 (bD Z k c).2).2).2)
def oK:Wr:=if k∈c.seen then IA Z k t c else rK Z k t c
def mw:Wr:=if k∉c.seen/\t.hasB k=AB then((c9 Z k c).1++(oK Z k t (c9 Z k c).2).1,(oK Z k t (c9 Z k c).2).2) else oK Z k t c
def C7:Wr:=match t with
 | .v j=>jo Z k j c|t=>mw Z k t c
end
def cN:Tm->Tm->List (Tm×Tm)
 | .s1 f x,.s1 g y=>if f=g then cN x y else[(.s1 f x,.s1 g y)]| .s2 f x x',.s2 g y y'=>if f=g then cN x y++cN x' y' else[(.s2 f x x',.s2 g y y')]|l,r=>[(l,r)]
def Rz:Tm->Nat
 | .v k=>k|_=>0
def jK(p:Tm×Tm)(c:Cs):Wr:=
 if p.1.bO=AB then C7 Z (Rz p.1) p.2 c else if p.2.bO=AB then C7 Z (Rz p.2) p.1 c else if p.1=p.2 then([],c) else([.fail],c)
def fH:List (Tm×Tm)->Cs->Wr
 | [],c=>([],c)|p::ps,c=>((jK Z p c).1++(fH ps (jK Z p c).2).1,(fH ps (jK Z p c).2).2)
def tj(l r:Tm)(c:Cs):Wr:=fH Z (cN l r) c
def hG(g:Gl)(i:Nat)(c:Cs):Wr:=match g with
 | .call _ as=>jC Z i as 1 c| .bi f as=>((jC Z (-1) as 1 c).1++[.mC f],(jC Z (-1) as 1 c).2)| .fE l r=>tj Z l r c
end
def qW:Gl->bN
 | .call f _=>.exec f|_=>.proceed
def uj(J:Nat):Gl->List bN
 | .call f _=>[.call f J]|_=>[]
def iy(Z:Pl)(J:Nat->Nat)(e:Bool):List Gl->Nat->Cs->List bN
 | [],_,_=>[]|g::gs,i,c=>(hG Z g i c).1++(if gs.isEmpty=AB then(if e=AB then[.jW] else[])++[qW g] else uj (J i) g++iy Z J e gs (i+1) (hG Z g i c).2)
def jV(Z:Pl)(N:Nat)(J:Nat->Nat)(e:Bool)(es:Nat)(O:List Tm)(goals:List Gl):List bN:=(if e=AB then[.alloc es] else[])++((hH Z O 1 ⟨[],[],N⟩).1++iy Z J e goals 0 (hH Z O 1 ⟨[],[],N⟩).2)
abbrev Ev:=Nat×Nat×List Tm
structure FS where
 b:Bd
 hold:Place->Option Tm
 loose:List Nat
 ls:Nat->Int
 rest:List Tm
 aG:Nat
 living:Int
 evs:List Ev
 kept:List Tm
def pt(h:Place->Option Tm)(p:Place)(t:Tm):Place->Option Tm:=λq=>if q=p then AA t else h q
def ar(f:Nat):Nat:=if f=32 then 1 else 2
def bo(f n:Nat):Tm:=if f=32 then .s1 f (.v<|n+1) else .s2 f (.v<|n+1) (.v<|n+2)
def kT(J:List Nat)(n:Nat)(picks:List Nat):Option Nat:=if J≠[]/\0<(picks[n % picks.length]?).getD 0 then J[(picks[n % picks.length]?).getD 0 % J.length]? else AE
def EV(b:Bd)(n:Nat)(o:Option Nat):Bd:=CB b (λx=>b++[(x,.c AD<|700+n)]) o
def event(b:Bd)(S:Sb)(f:Nat×Nat)(D:List Tm)(evs:List Ev)(picks:List Nat):Bd×List Ev:=(EV b (evs.length+1)<|kT (cM<|D.map (Tm.app S)) (evs.length+1) picks,evs++[(f.1,f.2,kJ<|D.map (Tm.app S))])
def iV(living:Int)(p:Place):Bool:=decide<|p.1=121/\p.2<=living
def yV(living:Int)(p:Place):Bool:=decide (p.1=116)||iV living p
def mK(F:FS)(S:Sb)(J:List Tm)(f:Nat×Nat)(B:Place->Bool)(living:Int)(picks:List Nat):FS:=
 let e:=event F.b S f J F.evs picks
 {F with hold:=λp=>if B p=AB then F.hold p else AE,living:=living,kept:=F.kept++J,b:=e.1,evs:=e.2}
def fD(S:Sb)(J:List Tm):Prop:=∀t∈J,(t.app S).dep<=150
def Tm.WT:Tm->Prop
 | .s1 f x=>f=32/\x.WT| .s2 f x y=>(f=0\/f=33)/\x.WT/\y.WT|_=>True
structure aZ(n:Nat)(t:Tm):Prop where
 lo:∀x,t.has x->x<=n
 wt:t.WT
 dp:t.dep<=100
def fR(F:FS):Tm->Int
 | .v n=>if n∈F.loose then F.ls n else -3|_=>-3
structure Rules(R:List bN->FS->Prop)(Fl:List Ev->Prop)(Dn:FS->Prop)(sig:Nat->Nat)(picks:List Nat):Prop where
 getVar:∀{F is p q t},F.rest=[]->F.hold q=AA t->aZ F.aG t->R is {F with hold:=pt F.hold p t}->R (.getVar p q::is) F
 kG:∀{F is p q t u t' u' S},F.rest=[]->F.hold p=AA t->F.hold q=AA u->Walk F.b t t'->Walk F.b u u'->ay F.b S->BQ (aZ F.aG) F.b->aZ F.aG t'->aZ F.aG u'->
  (∀{s1 s2},(s1=u'/\s2=t'/\(∃x,u'=.v x)/\fR F t'<fR F u')\/(s1=t'/\s2=u'/\∀x,u'=.v x->fR F u'<=fR F t')->(∀{b' S'},Met F.b S s1 s2 b' S'->R is {F with b:=b'})/\(eh F.b s1 s2->Fl F.evs))->R (.kG p q::is) F
 kE:∀{F is k z q t S},F.rest=[]->F.hold q=AA t->ay F.b S->BQ (aZ F.aG) F.b->aZ F.aG t->(∀{b' S'},Met F.b S t (.c k z) b' S'->R is {F with b:=b'})->(eh F.b t (.c k z)->Fl F.evs)->R (.kE k z q::is) F
 MU:∀{F is f q t n S},F.rest=[]->F.hold q=AA t->Walk F.b t (.v n)->ay F.b S->BQ (aZ F.aG) F.b->aZ F.aG t->(f=32\/f=0\/f=33)->R is {F with b:=F.b++[(n,bo f F.aG)],rest:=af (bo f F.aG),aG:=F.aG+ar f}->R (lE f q::is) F
 MT:∀{F is f q t u S},F.rest=[]->F.hold q=AA t->Walk F.b t u->ay F.b S->BQ (aZ F.aG) F.b->aZ F.aG t->(f=32\/f=0\/f=33)->aR u=AB->fnOf u=f->R is {F with rest:=af u,aG:=F.aG+ar f}->R (lE f q::is) F
 MS:∀{F is f q t u S},F.rest=[]->F.hold q=AA t->Walk F.b t u->ay F.b S->BQ (aZ F.aG) F.b->aZ F.aG t->(f=32\/f=0\/f=33)->u.bO=AD->¬(aR u=AB/\fnOf u=f)->Fl F.evs->R (lE f q::is) F
 fail:∀{F is},F.rest=[]->Fl F.evs->R (.fail::is) F
 kb:∀{F is p t r},F.rest=t::r->aZ F.aG t->R is {F with hold:=pt F.hold p t,rest:=r}->R (.kb p::is) F
 oJ:∀{F is k z t r S},F.rest=t::r->ay F.b S->BQ (aZ F.aG) F.b->aZ F.aG t->(∀{b' S'},Met F.b S t (.c k z) b' S'->R is {F with b:=b',rest:=r})->(eh F.b t (.c k z)->Fl F.evs)->R (.oJ k z::is) F
 oL:∀{F is n},F.rest≠[]->n<=F.rest.length->R is {F with rest:=F.rest.drop n}->R (.oL n::is) F
 QE:∀{F is f q},F.rest=[]->(f=32\/f=0\/f=33)->R is {F with hold:=pt F.hold q (bo f F.aG),rest:=af (bo f F.aG),aG:=F.aG+ar f}->R (vm f q::is) F
 oD:∀{F is p t r},F.rest=t::r->aZ F.aG t->R is {F with hold:=pt F.hold p t,rest:=r}->R (.oD p::is) F
 oB:∀{F is k z t r S},F.rest=t::r->ay F.b S->BQ (aZ F.aG) F.b->aZ F.aG t->(∀{b' S'},Met F.b S t (.c k z) b' S'->R is {F with b:=b',rest:=r})->(eh F.b t (.c k z)->Fl F.evs)->R (.oB k z::is) F
 oE:∀{F is n},F.rest≠[]->n<=F.rest.length->R is {F with rest:=F.rest.drop n}->R (.oE n::is) F
 val:∀{F is p t u x r S} {i:Place->bN},i=.ph\/i=.oC->F.rest=x::r->F.hold p=AA t->Walk F.b t u->(∀n,u=.v n->n∉F.loose)->ay F.b S->BQ (aZ F.aG) F.b->aZ F.aG t->aZ F.aG u->aZ F.aG x->(∀{b' S'},Met F.b S x u b' S'->R is {F with b:=b',rest:=r})->(eh F.b x u->Fl F.evs)->R (i p::is) F
 loc:∀{F is p t u x r S} {i:Place->bN},i=.pf\/i=.pV->F.rest=x::r->F.hold p=AA t->Walk F.b t u->ay F.b S->BQ (aZ F.aG) F.b->aZ F.aG t->aZ F.aG u->aZ F.aG x->(∀{b' S'},Met F.b S x u b' S'->R is {F with b:=b',rest:=r,loose:=F.loose.filter λn=>decide (u≠.v n)})->(eh F.b x u->Fl F.evs)->R (i p::is) F
 QG:∀{F is n q},F.rest=[]->R is {F with hold:=pt (pt F.hold (tP n) (.v (F.aG+1))) q (.v (F.aG+1)),aG:=F.aG+1}->R (.q8 (tP n) q::is) F
 QH:∀{F is n q},F.rest=[]->(∀x∈F.loose,x<=F.aG)->R is {F with hold:=pt (pt F.hold (yP n) (.v (F.aG+1))) q (.v (F.aG+1)),aG:=F.aG+1,loose:=F.loose++[F.aG+1],ls:=λm=>if m=F.aG+1 then(n:Int) else F.ls m}->R (.q8 (yP n) q::is) F
 mX:∀{F is q},F.rest=[]->q.1≠121->R is {F with hold:=pt F.hold q (.v (F.aG+1)),aG:=F.aG+1}->R (.mX q::is) F
 lP:∀{F is p q t u},F.rest=[]->F.hold p=AA t->Walk F.b t u->BQ (aZ F.aG) F.b->aZ F.aG t->aZ F.aG u->R is {F with hold:=pt F.hold q u,loose:=F.loose.filter λn=>decide (u≠.v n)}->R (.lP p q::is) F
 jI:∀{F is p q t},F.rest=[]->F.hold p=AA t->aZ F.aG t->R is {F with hold:=pt F.hold q t}->R (.jI p q::is) F
 kU:∀{F is k z q},F.rest=[]->R is {F with hold:=pt F.hold q (.c k z)}->R (.kU k z q::is) F
 mC:∀{F is f parts S},F.rest=[]->sig f=parts.length/\parts.length<=100->(∀i t,parts[i]?=AA t->F.hold (aP (i+1))=AA t/\aZ F.aG t)->ay F.b S->BQ (aZ F.aG) F.b->fD S parts->R is (mK F S parts (1,f) (yV F.living) F.living picks)->R (.mC f::is) F
 jW:∀{F is},F.rest=[]->R is {F with living:=-1}->R (.jW::is) F
 call:∀{F is f parts S} {n:Nat},F.rest=[]->sig f=parts.length/\parts.length<=100->(∀i t,parts[i]?=AA t->F.hold (aP (i+1))=AA t/\aZ F.aG t)->(n:Int)<=F.living->ay F.b S->BQ (aZ F.aG) F.b->fD S parts->
  (∀t m,(t∈parts\/∃j,j<=n/\F.hold (yP j)=AA t)->t.app S=.v m->m∈F.loose->F.ls m<=(n:Int))->R is (mK F S parts (0,f) (iV n) n picks)->R (.call f n::is) F
 exec:∀{F f parts S},F.rest=[]->sig f=parts.length/\parts.length<=100->(∀i t,parts[i]?=AA t->F.hold (aP (i+1))=AA t/\aZ F.aG t)->F.living=-1->ay F.b S->BQ (aZ F.aG) F.b->fD S parts->
  (∀t m,t∈parts->t.app S=.v m->m∈F.loose->F.ls m<=-1)->Dn (mK F S parts (0,f) (iV (-1)) (-1) picks)->R [.exec f] F
 proceed:∀{F},F.rest=[]->F.living=-1->Dn F->R [.proceed] F
def Fg(n:Nat):iE<|aZ n:=⟨λf x h=>⟨h.lo,h.wt.2,eT h.dp⟩,λf x y h=>
 have e:=eT h.dp
 ⟨⟨λz q=>h.lo z<|.inl q,h.wt.2.1,aA (ly _ _) e⟩,⟨λz q=>h.lo z<|.inr q,h.wt.2.2,aA (l4 _ _) e⟩⟩⟩
def aZ.mono(h:aZ n t)(l:n<=m):aZ m t:=⟨λx q=>aA (h.lo x q) l,h.wt,h.dp⟩
def aZ.v{k:Nat}(h:k<=n):aZ n<|.v k:=⟨λy e=>e▸h,trivial,bK _⟩
variable{z:Int}
def aZ.c{k:Bool}:aZ n<|.c k z:=⟨λy e=>e.elim,trivial,bK _⟩
def gA(h:t.bO=AB)(k:∀n,t=.v n->P):P:=by
 rcases t with n|_;show k n rfl
 all_goals show(aI h).elim
def ay.ind(M:ay b S){P:Nat->Prop}(G:∀n,b.at n=AE->P n)(E:∀n t,b.at n=AA t->(∀m,t.has m->P m)->P n):∀n,P n:=by
 obtain⟨r,hr⟩:=M.rank;have J:∀k j n:Nat,(S n).aX<k->r n<j->P n:=by
  intro k
  induction k with
  |zero=>show λy y h=>absurd h (uS _)|succ k B=>
   intro j
   induction j with
   |zero=>show λy y h=>absurd h (uS _)|succ j C=>
    intro n hk L;rcases e:b.at n with _|t;show G n e;have D:=M.sol n t e;refine E n t e λm T=>?_;rcases hv:t.bO with _|_;show B (r m+1) m (b6 (D▸Mc T λe=>nomatch (e▸hv))<|kr hk)<|c5 _;refine gA hv λx Y=>?_;subst Y;cases (T);show C m (bZ (bJ<|aF Tm.aX D.symm) hk)<|b6 (hr n m e) (kr L)
 show λn=>J _ _ n (c5 _)<|c5 _
def Qk(M:ay b S){N:Nat->Prop}(h:BQ (λt=>∀n,t.has n->N n) b):∀n,N n->∀y,(S n).has y->N y:=M.ind (λn e h y J=>by rw[M.id n e] at J;show(J)▸h) λn t e B z y J=>by
 rw[M.sol n t e] at J;obtain⟨m,h1,C⟩:=dj.mp J;show B m h1 ((h _<|nN e).2 m h1) y C
def NL(S:Sb)(L:List Nat)(t:Tm):Prop:=∀x,(t.app S).has x->x∉L
def NI(S:Sb)(L:List Nat)(t:Tm):Prop:=(t.app S).bO=AB\/NL S L t
structure Ok(F:FS)(S:Sb):Prop where
 aw:ay F.b S
 cR:BQ (aZ F.aG) F.b
 low:∀x∈F.loose,x<=F.aG/\-2<=F.ls x
structure Mo(F:FS)(S:Sb)(F':FS)(S':Sb):Prop where
 ok:Ok F' S'
 sp:F.aG<=F'.aG
 nl:∀{t},aZ F.aG t->NL S F.loose t->NL S' F'.loose t
 ni:∀{t},aZ F.aG t->NI S F.loose t->NI S' F'.loose t
 fx:F'.evs=F.evs/\F'.living=F.living/\F'.kept=F.kept
 vl:∀{t n},aZ F.aG t->t.app S'=.v n->n∈F'.loose->∃k,t.app S=.v k/\k∈F.loose/\F'.ls n<=F.ls k
 sat:∀σ,Sat F'.b σ->Sat F.b σ
variable{g:Nat->Int}{F F' F2:FS}{L:List Nat}{T:Tm}{b':Bd}{r:List Tm}{h:Place->Option Tm}
section
variable{S2 D_:Sb}
def Ok.same(J:Ok F S):Mo F S {F with hold:=h,rest:=r} S:=⟨⟨J.aw,J.cR,J.low⟩,aV _,λy q=>q,λy q=>q,⟨rfl,rfl,rfl⟩,λy e m=>⟨_,e,m,wb _⟩,λy h=>h⟩
def Mo.trans(a:Mo F S F' S')(b:Mo F' S' F2 S2):Mo F S F2 S2:=⟨b.ok,aA a.sp b.sp,λi q=>b.nl (i.mono a.sp)<|a.nl i q,λi q=>b.ni (i.mono a.sp)<|a.ni i q,⟨b.fx.1.trans a.fx.1,b.fx.2.1.trans a.fx.2.1,b.fx.2.2.trans a.fx.2.2⟩,λi e m=>(b.vl (i.mono a.sp) e m).elim λy h=>(a.vl i h.1 h.2.1).elim λk z=>⟨k,z.1,z.2.1,du h.2.2 z.2.2⟩,λσ h=>a.sat σ<|b.sat σ h⟩
def rR(L:List Nat)(g:Nat->Int)(J:Sb):Prop:=∀n,J n=.v n\/(∀x,(J n).has x->x∉L)\/(n∈L/\∃y,J n=.v y/\(y∈L->g y<=g n))
section
variable(hd:rR L g D_)(hS:∀n,S' n=(S n).app D_)
def rR.nl(h:NL S L u):NL S' L u:=λx B=>by
 rw[funext hS,<-gQ] at B;obtain⟨n,h1,J⟩:=dj.mp B;rcases hd n with e|e|e
 .rw[e] at J;show(J)▸h n h1
 show e x J;show absurd e.1<|h n h1
def rR.ni(h:NI S L u):NI S' L u:=h.elim (λq=>gA q λn e=>by
 have J:u.app S'=D_ n:=by rw[funext hS,<-gQ,e];rfl
 unfold NI NL;rw[J];show(hd n).elim (λe=>.inl (by rw[e];rfl)) λe=>e.elim .inr λe=>.inl (e.2.elim λy z=>by rw[z.1];rfl)) λq=>.inr<|hd.nl hS q
def rR.vl(e:u.app S'=.v n)(m:n∈L):∃k,u.app S=.v k/\k∈L/\g n<=g k:=by
 rw[funext hS,<-gQ] at e;obtain⟨k,C,B⟩:=ua e;rcases hd k with h|h|h
 .have J:=Tm.v.inj<|h.symm.trans B;show⟨k,C,J▸m,m7<|aF g J.symm⟩
 show absurd m<|h n (B▸rfl);obtain⟨h1,y,T,D⟩:=h;have J:=Tm.v.inj<|T.symm.trans B;show⟨k,C,h1,J▸D (J▸m)⟩
end
def HE{y:Nat}(h:(∀x,w.has x->x∉L)\/(y∈L/\∃z,w=.v z/\(z∈L->g z<=g y))):rR L g<|one y w:=λn=>by
 unfold one;by_cases e:n=y
 .rw[aC e];show .inr<|h.imp id λq=>e▸q
 rw[aB e];show .inl rfl
def Way(S:Sb)(L:List Nat)(g:Nat->Int)(s t:Tm):Prop:=(NL S L s/\NL S L t)\/(∃x,s.app S=.v x/\NL S L t)\/∃x,s.app S=.v x/\x∈L/\NI S L t/\∀y,t.app S=.v y->y∈L->g y<=g x
def Met.Vm(M:Met F.b S s t b' S')(w:Way S L g s t):∃D_,rR L g D_/\∀n,S' n=(S n).app D_:=by
 rcases w with ⟨h1,B⟩|⟨x,h1,J⟩|⟨x,h1,B,J,D⟩
 .obtain⟨D_,d1,d2,d3⟩:=M.step;refine⟨D_,λn=>?_,d1⟩;by_cases q:(s.app S).has n\/(t.app S).has n;show .inr (.inl λx C=>(d3 n x q C).elim (h1 x)<|B x);show .inl<|d2 n q
 .show⟨_,HE<|.inl J,congrFun<|M.dir.1 x h1⟩
 show⟨_,HE<|J.elim (λq=>gA q λy e=>.inr ⟨B,y,e,D y e⟩) .inl,congrFun<|M.dir.1 x h1⟩
section
variable(O_:Ok F S)
def Met.mo(M:Met F.b S s t b' S')(B:aZ F.aG s)(J:aZ F.aG t)(w:Way S F.loose F.ls s t):Mo F S {F with b:=b',rest:=r} S':=by
 obtain⟨D_,hd,e⟩:=M.Vm w;show⟨⟨M.aw,M.c7 _ (Fg _) O_.cR B J,O_.low⟩,aV _,λy=>hd.nl e,λy=>hd.ni e,⟨rfl,rfl,rfl⟩,λy z m=>hd.vl e z m,λσ h=>((M.sat σ).mp h).1⟩
def Ok.pop{f:Nat->Bool}:Mo F S {F with loose:=F.loose.filter f} S:=⟨⟨O_.aw,O_.cR,λx m=>O_.low x (List.mem_filter.mp m).1⟩,aV _,λy q x J m=>q x J (List.mem_filter.mp m).1,λy q=>q.imp id λq x J m=>q x J (List.mem_filter.mp m).1,⟨rfl,rfl,rfl⟩,λy e m=>⟨_,e,(List.mem_filter.mp m).1,wb _⟩,λy h=>h⟩
def HP(w:Walk F.b t u)(h:NI S F.loose t):NL S (F.loose.filter λn=>decide<|u≠.v n) t:=λx J m=>by
 obtain⟨C,B⟩:=List.mem_filter.mp m;show h.elim (λq=>gA q λn e=>dK B<|(w.wG O_.aw).mpr (by rw[e] at J ⊢;show aF Tm.v J)) λq=>q x J C
def zN(w:Walk F.b t u):NL S L u↔NL S L t:=by unfold NL;rw[w.sat O_.aw.sol]
def Gy(w:Walk F.b t u):NI S L u↔NI S L t:=by unfold NI NL;rw[w.sat O_.aw.sol]
end
def pJ(h:(bo f n).has x):n<x/\x<=n+ar f:=by
 unfold bo at h;unfold ar;by_cases e:f=32
 .rw[aC e] at h;rw[aC e];show(h)▸⟨c5 _,aV _⟩
 rw[aB e] at h;rw[aB e];show h.elim (λh=>(h)▸⟨c5 _,b8 _⟩) λh=>(h)▸⟨qG<|c5 _,aV _⟩
def Gx:aR (bo f n)=AB/\fnOf (bo f n)=f:=by
 unfold bo;by_cases e:f=32
 .rw[aC e];show⟨rfl,rfl⟩
 rw[aB e];show⟨rfl,rfl⟩
def zG(h:f=32\/f=0\/f=33):aZ (n+ar f)<|bo f n:=⟨λx q=>(pJ q).2,by
 unfold bo;by_cases e:f=32
 .rw[aC e];show⟨e,trivial⟩
 .rw[aB e];show⟨h.resolve_left e,trivial,trivial⟩,by
 unfold bo;by_cases e:f=32
 .rw[aC e];show(by decide:1<=100)
 rw[aB e];show(by decide:1<=100)⟩
section
variable(O_:Ok F S)
def Ok.new(h:F.aG<x):S x=.v x:=O_.aw.id x (by
 rcases e:F.b.at x with _|t;rfl;show absurd ((O_.cR _<|nN e).1.lo x rfl)<|Nat.not_le.mpr h)
def Ok.more:Mo F S {F with hold:=h,rest:=r,aG:=F.aG+m} S:=⟨⟨O_.aw,λp q=>⟨(O_.cR p q).1.mono<|aY _ _,(O_.cR p q).2.mono<|aY _ _⟩,λx q=>⟨aA (O_.low x q).1<|aY _ _,(O_.low x q).2⟩⟩,aY _ _,λy q=>q,λy q=>q,⟨rfl,rfl,rfl⟩,λy e m=>⟨_,e,m,wb _⟩,λy h=>h⟩
def Ok.old(i:aZ F.aG t)(J:(t.app S).has x):x<=F.aG:=by
 obtain⟨m,h1,B⟩:=dj.mp J;show Qk O_.aw (λp m=>⟨(O_.cR p m).1.lo,(O_.cR p m).2.lo⟩) m (i.lo m h1) x B
def Ok.O8(C:-2<=z):Mo F S {F with hold:=h,aG:=F.aG+1,loose:=F.loose++[F.aG+1],ls:=λm=>if m=F.aG+1 then z else F.ls m} S:=by
 have B:∀{t x},aZ F.aG t->(t.app S).has x->x∈F.loose++[F.aG+1]->x∈F.loose/\x≠F.aG+1:=λi J m=>by
  have l:=O_.old i J;have ne:=eV<|ip l;show⟨(nA.mp m).resolve_right λm=>ne<|JK.mp m,ne⟩
 show⟨⟨O_.aw,λp q=>⟨(O_.cR p q).1.mono<|b8 _,(O_.cR p q).2.mono<|b8 _⟩,λx q=>(nA.mp q).elim (λq=>⟨eM (O_.low x q).1,le_of_le_of_eq (O_.low x q).2 (aB<|eV (ip (O_.low x q).1)).symm⟩) λq=>⟨bJ<|JK.mp q,le_of_le_of_eq C (aC<|JK.mp q).symm⟩⟩,b8 _,λi q x J m=>q x J (B i J m).1,λi q=>q.imp id λq x J m=>q x J (B i J m).1,⟨rfl,rfl,rfl⟩,λ{t n} i e m=>have z:=B i (e▸rfl) m;⟨n,e,z.1,m7<|aB z.2⟩,λy h=>h⟩
end
end
structure Pe where
 t:Tm
 T:Tm
 p:Option Place
 h:Bool
def fu(J:Nat->Option Tm)(k:Nat)(t:Tm):Nat->Option Tm:=λj=>if j=k then AA t else J j
structure Vn(Z:Pl)(lv:Nat->Prop)(c:Cs)(F:FS)(S:Sb)(k:Nat)(t:Tm):Prop where
 hold:lv k->F.hold (place Z k)=AA t
 ni:NI S F.loose t
 nl:k∉c.loc->NL S F.loose t
 lvl:∀n,t.app S=.v n->n∈F.loose->F.ls n<=-2\/(Z.perm k=AB/\F.ls n<=Z.slot k/\Z.dt k=AB)
structure Vk(Z:Pl)(N:Nat)(lv:Nat->Prop)(c:Cs)(F:FS)(S:Sb)(k:Nat)(t:Tm):Prop where
 bB:aZ F.aG t
 lt:k<N
 nv:Z.void k=AD->Vn Z lv c F S k t
structure Pk(N m:Nat)(F:FS)(S:Sb)(e:Pe):Prop where
 bB:aZ F.aG e.T
 ni:NI S F.loose e.T
 nl:e.h=AD->NL S F.loose e.T
 kW:∀p,e.p=AA p->F.hold p=AA e.T/\(p.1=97\/(p.1=116/\N<=p.2/\p.2<m))
 vs:∀k,e.t.has k->k<N
structure Bs where
 evs:List Ev
 living:Int
 kept:List Tm
 rel:Sb->Sb->Prop
def fW(b:Bd)(J:Nat->Option Tm)(π σ:Sb):Prop:=Sat b σ/\∀k t,J k=AA t->π k=t.app σ
structure Inv(Z:Pl)(N n0:Nat)(X:Bs)(lv:Nat->Prop)(c:Cs)(F:FS)(S:Sb)(val:Nat->Option Tm)(pd:List Pe):Prop where
 ok:Ok F S
 sp:n0<=F.aG
 fx:F.evs=X.evs/\F.living=X.living/\F.kept=X.kept
 an:∀π σ,fW F.b val π σ->X.rel π σ
 seen:∀k,Z.void k=AD->k∉c.seen->val k=AE
 sv:∀k,k∈c.seen->∃t,val k=AA t
 vk:∀k t,val k=AA t->Vk Z N lv c F S k t
 nt:N<=c.nt
 yh:∀n t,F.hold (yP n)=AA t->∃k,val k=AA t/\Z.void k=AD/\Z.perm k=AB/\Z.slot k=n
 pk:∀e∈pd,Pk N c.nt F S e
structure fY(Z:Pl)(N n0:Nat)(b:Bd)(val:Nat->Option Tm)(pd:List Pe)(π σ:Sb):Prop where
 sat:Sat b σ
 ag:∀n,N<=n->n<=n0->σ n=π n
 vc:∀k t,val k=AA t->π k=t.app σ
 pd:∀e∈pd,(e.h=AB/\cU Z e.t=AB)\/e.t.app π=e.T.app σ
structure Eqv(Z:Pl)(N n0:Nat)(P:Sb->Prop)(b:Bd)(val:Nat->Option Tm)(pd:List Pe):Prop where
 snd:∀{π σ},fY Z N n0 b val pd π σ->P π
 cmp:∀{π},P π->∃σ,fY Z N n0 b val pd π σ
def Inj(Z:Pl)(N:Nat):Prop:=∀j k,j<N->k<N->Z.void j=AD->Z.void k=AD->place Z j=place Z k->j=k
variable{Z:Pl}{N n0 k j:Nat}{lv:Nat->Prop}{X:Bs}{c':Cs}{val val':Nat->Option Tm}{pd pd':List Pe}{e:Pe}
section
variable{c:Cs}{P:Sb->Prop}
def dN{o:Option α}{x:α}{P:Prop}(h:o=AE)(J:o=AA x):P:=nomatch h.symm.trans J
def aEJ(h:place Z k=yP n):Z.perm k=AB/\Z.slot k=n:=by
 unfold place at h;by_cases q:Z.perm k=AB
 .rw[aC q] at h;show⟨q,(l6 h).2⟩
 rw[aB q] at h;show absurd (l6 h).1 ⋯
def Vn.mo(v:Vn Z lv c F S k t)(i:aZ F.aG t)(m:Mo F S F' S')(J:F'.hold (place Z k)=F.hold (place Z k)):Vn Z lv c F' S' k t:=
 ⟨λl=>J.trans<|v.hold l,m.ni i v.ni,λq=>m.nl i<|v.nl q,λn e q=>(m.vl i e q).elim λo z=>(v.lvl _ z.1 z.2.1).imp (du z.2.2) λy=>⟨y.1,du z.2.2 y.2.1,y.2.2⟩⟩
section
variable(I:Inv Z N n0 X lv c F S val pd)
def Inv.mo(m:Mo F S F' S')(J:∀p,((∃k t,val k=AA t/\Z.void k=AD/\p=place Z k)\/∃e∈pd,e.p=AA p)->F'.hold p=F.hold p)(B:∀n t,F'.hold (yP n)=AA t->F.hold (yP n)=AA t):Inv Z N n0 X lv c F' S' val pd:=
 ⟨m.ok,aA I.sp m.sp,⟨m.fx.1.trans I.fx.1,m.fx.2.1.trans I.fx.2.1,m.fx.2.2.trans I.fx.2.2⟩,λπ σ a=>I.an π σ ⟨m.sat σ a.1,a.2⟩,I.seen,I.sv,λk t e=>have v:=I.vk k t e
  ⟨v.bB.mono m.sp,v.lt,λq=>(v.nv q).mo v.bB m<|J _ (.inl ⟨k,t,e,q,rfl⟩)⟩,I.nt,λn t h=>I.yh n t<|B n t h,λe q=>have v:=I.pk e q
  ⟨v.bB.mono m.sp,m.ni v.bB v.ni,λh=>m.nl v.bB<|v.nl h,λp h=>⟨(J p<|.inr ⟨e,q,h⟩).trans (v.kW p h).1,(v.kW p h).2⟩,v.vs⟩⟩
def Inv.same:Inv Z N n0 X lv c {F with rest:=r} S val pd:=I.mo (I.ok.same) (λy y=>rfl) λy y h=>h
def Inv.perm(h:∀e∈pd',e∈pd):Inv Z N n0 X lv c F S val pd':=⟨I.ok,I.sp,I.fx,I.an,I.seen,I.sv,I.vk,I.nt,I.yh,λe q=>I.pk e<|h e q⟩
end
def Inv.tl(I:Inv Z N n0 X lv c F S val<|e::pd):Inv Z N n0 X lv c F S val pd:=I.perm λy q=>.tail _ q
def Inv.bh(I:Inv Z N n0 X lv c F S val pd):Inv Z N n0 X lv c.bh F S val pd:=⟨I.ok,I.sp,I.fx,I.an,I.seen,I.sv,λk t e=>have v:=I.vk k t e;⟨v.bB,v.lt,λq=>⟨(v.nv q).hold,(v.nv q).ni,(v.nv q).nl,(v.nv q).lvl⟩⟩,eM I.nt,I.yh,λe q=>have v:=I.pk e q;⟨v.bB,v.ni,v.nl,λp h=>⟨(v.kW p h).1,(v.kW p h).2.imp_right λz=>⟨z.1,z.2.1,qG z.2.2⟩⟩,v.vs⟩⟩
def Eqv.iff(E:Eqv Z N n0 P b val pd)(h:∀{π σ},fY Z N n0 b val pd π σ↔fY Z N n0 b' val' pd' π σ):Eqv Z N n0 P b' val' pd':=⟨λq=>E.snd<|h.mpr q,λq=>(E.cmp q).elim λσ s=>⟨σ,h.mp s⟩⟩
def mh:fY Z N n0 b val (e::pd) π σ↔((e.h=AB/\cU Z e.t=AB)\/e.t.app π=e.T.app σ)/\fY Z N n0 b val pd π σ:=⟨λs=>⟨s.pd e h_,s.sat,s.ag,s.vc,λe m=>s.pd e<|.tail _ m⟩,λJ=>J.elim λq s=>⟨s.sat,s.ag,s.vc,λB m=>(JJ.mp m).elim (λx=>x▸q)<|s.pd B⟩⟩
def tU{Q:Sb->Prop}(h:∀σ,Sat b' σ↔Sat b σ/\Q σ):fY Z N n0 b' val pd π σ↔Q σ/\fY Z N n0 b val pd π σ:=⟨λs=>⟨((h σ).mp s.sat).2,((h σ).mp s.sat).1,s.ag,s.vc,s.pd⟩,λJ=>J.elim λq s=>⟨(h σ).mpr ⟨s.sat,q⟩,s.ag,s.vc,s.pd⟩⟩
def PE(E:Eqv Z N n0 P b val pd)(h:∀{π σ},¬fY Z N n0 b val pd π σ)(π:Sb):¬P π:=λq=>(E.cmp q).elim λy s=>h s
def Eqv.void(E:Eqv Z N n0 P b val<|e::pd)(h:e.h=AB/\cU Z e.t=AB):Eqv Z N n0 P b val pd:=E.iff<|mh.trans ⟨λq=>q.2,λq=>⟨.inl h,q⟩⟩
def aF6(M:Met b S t u b' S')(h:∀{π σ},Sat b σ->(∀k t,val k=AA t->π k=t.app σ)->(((e.h=AB/\cU Z e.t=AB)\/e.t.app π=e.T.app σ)↔t.app σ=u.app σ)):fY Z N n0 b val (e::pd) π σ↔fY Z N n0 b' val pd π σ:=
 mh.trans ⟨λq=>(tU M.sat).mpr ⟨(h q.2.sat q.2.vc).mp q.1,q.2⟩,λq=>have q:=(tU M.sat).mp q;⟨(h q.2.sat q.2.vc).mpr q.1,q.2⟩⟩
section
variable(E:Eqv Z N n0 P b val (e::pd))
def Eqv.met(M:Met b S t u b' S')(h:∀{π σ},Sat b σ->(∀k t,val k=AA t->π k=t.app σ)->(((e.h=AB/\cU Z e.t=AB)\/e.t.app π=e.T.app σ)↔t.app σ=u.app σ)):Eqv Z N n0 P b' val pd:=E.iff<|aF6 M h
def Eqv.pv(U:eh b t u)(h:∀{π σ},Sat b σ->(∀k t,val k=AA t->π k=t.app σ)->(((e.h=AB/\cU Z e.t=AB)\/e.t.app π=e.T.app σ)↔t.app σ=u.app σ)):∀π,¬P π:=
 PE E λs=>have q:=mh.mp s;U _ q.2.sat<|(h q.2.sat q.2.vc).mp q.1
end
def wD(h:fu val k t j=AA w):(j=k/\w=t)\/(j≠k/\val j=AA w):=by
 unfold fu at h;by_cases q:j=k
 .rw[aC q] at h;show .inl ⟨q,(ai h).symm⟩
 rw[aB q] at h;show .inr ⟨q,h⟩
def jL(J:val k=AE)(h:val j=AA w):fu val k t j=AA w:=(aB λq=>dN J<|q▸h).trans h
def kh:fu val k t k=AA t:=aC rfl
def Eqv.var(E:Eqv Z N n0 P b val<|e::pd)(J:e.t=.v k)(C:e.h=AD\/Z.void k=AD)(D:val k=AE):Eqv Z N n0 P b (fu val k e.T) pd:=E.iff (mh.trans
 ⟨λB=>B.elim λq s=>⟨s.sat,s.ag,λj w h=>(wD h).elim (λh=>by
   rw[J] at q;rw[h.1,h.2];show q.resolve_left λz=>C.elim (λh=>aI<|h.symm.trans z.1) λh=>aI<|h.symm.trans z.2) λh=>s.vc j w h.2,s.pd⟩,
  λs=>⟨J▸.inr (s.vc k e.T kh),s.sat,s.ag,λj w h=>s.vc j w<|jL D h,s.pd⟩⟩)
def mP{l:List Nat}:j∈add l k↔j∈l\/j=k:=by
 unfold add;by_cases h:k∈l
 .rw[aC h];show⟨.inl,λq=>q.elim id λe=>e▸h⟩
 rw[aB h,nA,JK]
section
variable(I:Inv Z N n0 X lv c F S val pd)(hn:val k=AE)(i:aZ F.aG t)(lt:k<N)
def Inv.var(v:Vn Z lv c' {F with hold:=h,rest:=r} S k t)(h0:h (place Z k)=AA t)(h1:c'.seen=add c.seen k)(h2:c'.nt=c.nt)(h3:∀j,j≠k->j∉c'.loc->j∉c.loc)(hv:Z.void k=AD)
  (ho:∀p,p≠place Z k->((∃k t,val k=AA t/\Z.void k=AD/\p=place Z k)\/(∃e∈pd,e.p=AA p)\/p.1=121)->h p=F.hold p) (C:∀j t,val j=AA t->Z.void j=AD->place Z j≠place Z k) (he:∀e∈pd,e.p≠AA (place Z k)):Inv Z N n0 X lv c' {F with hold:=h,rest:=r} S (fu val k t) pd:=
 ⟨⟨I.ok.aw,I.ok.cR,I.ok.low⟩,I.sp,I.fx,λπ σ a=>I.an π σ ⟨a.1,λj w h=>a.2 j w<|jL hn h⟩,λj q z=>by rw[h1,mP] at z;show(aB λe=>z<|.inr e).trans<|I.seen j q λm=>z (.inl m),λj q=>by
  by_cases e:j=k
  .show⟨t,aC e⟩
  .rw[h1,mP] at q;show(I.sv j<|q.resolve_right e).elim λw a=>⟨w,jL hn a⟩,λj w a=>(wD a).elim (λa=>a.1▸a.2▸⟨i,lt,λo=>v⟩) λa=>have z:=I.vk j w a.2;⟨z.bB,z.lt,λq=>have y:=z.nv q;⟨λl=>(ho _ (C j w a.2 q)<|.inl ⟨j,w,a.2,q,rfl⟩).trans<|y.hold l,y.ni,λm=>y.nl<|h3 j a.1 m,y.lvl⟩⟩,h2▸I.nt,λn w a=>by
  by_cases e:yP n=place Z k
  .show have z:=aEJ e.symm;⟨k,kh.trans<|h0.symm.trans (e▸a),hv,z.1,z.2⟩
  show(I.yh n w<|(ho _ e<|.inr (.inr rfl)).symm.trans a).elim λj B=>B.elim λL J=>J.elim λT D=>⟨j,jL hn L,T,D⟩,λe m=>have z:=I.pk e m;⟨z.bB,z.ni,z.nl,λp q=>⟨(ho p (λx=>he e m<|x▸q)<|.inr (.inl ⟨e,m,q⟩)).trans (z.kW p q).1,h2▸(z.kW p q).2⟩,z.vs⟩⟩
def Inv.ghost(J:Z.void k=AB):Inv Z N n0 X lv c F S (fu val k t) pd:=
 ⟨I.ok,I.sp,I.fx,λπ σ a=>I.an π σ ⟨a.1,λj w h=>a.2 j w<|jL hn h⟩,λj q z=>(aB λe:j=k=>aI<|q.symm.trans (e▸J)).trans<|I.seen j q z,λj q=>(I.sv j q).elim λw a=>⟨w,jL hn a⟩,λj w a=>(wD a).elim (λa=>a.1▸a.2▸⟨i,lt,λq=>absurd (q.symm.trans J) aI⟩) λa=>I.vk j w a.2,I.nt,λn w a=>(I.yh n w a).elim λj z=>⟨j,jL hn z.1,z.2⟩,I.pk⟩
end
end
def rL:List Tm->List Tm->Nat->List Pe
 |t::D,T::Ts,i=>⟨t,T,AA<|aP i,AB⟩::rL D Ts (i+1)|_,_,_=>[]
variable{i:Nat}{p:Place}{R:List bN->FS->Prop}{Dn:FS->Prop}{sig:Nat->Nat}{picks:List Nat}{is:List bN}
section
variable{c:Cs}{P:Sb->Prop}
def hW(J:k<N)(h:p.1=97\/(p.1=116/\N<=p.2)):p≠place Z k:=by
 unfold place;intro e;by_cases q:Z.perm k=AB
 .rw[aC q] at e;rw[e] at h;show h.elim (show ¬121=97 by decide) λh=>(show ¬121=116 by decide) h.1
 rw[aB q] at e;rw[e] at h;show h.elim (show ¬116=97 by decide) λh=>eU _<|b6 J h.2
def vR{Q:Prop}(h:NI S L t)(C:∀x,t.app S=.v x->x∈L->Q)(B:NL S L t->Q):Q:=h.elim (λq=>gA q λx e=>(lb<|x∈L).elim (C x e) λn=>B λy J=>by rw[e] at J;show(J)▸n) B
def R3(h:NI S L t)(J:NL S L u):Way S L g t u:=vR h (λx e y=>.inr<|.inl ⟨x,e,J⟩) λn=>.inl ⟨n,J⟩
def s7(h:n∈F.loose):fR F (.v n)=F.ls n:=aC h
def Oh(M:ay F.b S)(w:Walk F.b t u)(h:NL S F.loose u):fR F u=-3:=by
 rcases u with n|_;show aB<|h n (by rw[<-w.sat M.sol,(w.wG M).mp rfl];rfl)
 all_goals rfl
def Ok.Od(J:Ok F S)(m:n∈F.loose):¬F.ls n<=-3:=λq=>absurd (du (J.low n m).2 q) ⋯
def Inv.meet(I:Inv Z N n0 X lv c F S val pd)(M:Met F.b S t u b' S')(B:aZ F.aG t)(J:aZ F.aG u)(w:Way S F.loose F.ls t u):Inv Z N n0 X lv c {F with b:=b',rest:=r} S' val pd:=I.mo (M.mo I.ok B J w) (λy y=>rfl) λy y h=>h
def Inv.new(B:Inj Z N)(I:Inv Z N n0 X lv c F S val pd)(D:val k=AE)(J:k<N)(C:Z.void k=AD)(G:aZ F.aG t)(M:NI S F.loose t)(L:k∉c'.loc->NL S F.loose t)(E:∀n,t.app S=.v n->n∈F.loose->F.ls n<=-2\/(Z.perm k=AB/\F.ls n<=Z.slot k/\Z.dt k=AB))(A:c'.seen=add c.seen k)(R:c'.nt=c.nt)(O:∀j,j≠k->j∉c'.loc->j∉c.loc)(T:h (place Z k)=AA t)(Y:∀p,p≠place Z k->((∃k t,val k=AA t/\Z.void k=AD/\p=place Z k)\/(∃e∈pd,e.p=AA p)\/p.1=121)->h p=F.hold p):Inv Z N n0 X lv c' {F with hold:=h,rest:=r} S (fu val k t) pd:=
 I.var D G J ⟨λy=>T,M,L,E⟩ T A R O C Y (λj t a q x=>dN D<|B j k (I.vk j t a).lt J q C x▸a) λe m x=>hW J (((I.pk e m).kW _ x).2.imp_right λz=>⟨z.1,z.2.1⟩) rfl
variable{Fl:List Ev->Prop}(rl:Rules R Fl Dn sig picks)(hF:(∀π,¬P π)->Fl X.evs)
include rl hF
def FV(I:Inv Z N n0 X lv c F S val<|e::pd)(E:Eqv Z N n0 P F.b val<|e::pd)(C:F.hold p=AA e.T)(hr:F.rest=[])(he:e.t=.v k)(l:Z.void k=AD)(al:lv k)(hk:k∈c.seen)(K:∀{b' S'},Inv Z N n0 X lv c {F with b:=b'} S' val pd->Eqv Z N n0 P b' val pd->R is {F with b:=b'}):R (.kG (place Z k) p::is) F:=by
 obtain⟨t,ht⟩:=I.sv k hk;have v:=I.vk k t ht;have y:=v.nv l;have q:=I.pk e h_;obtain⟨u,L⟩:=I.ok.aw.walks t;obtain⟨r,B⟩:=I.ok.aw.walks e.T;have i:=L.c7 I.ok.cR v.bB;have w:=B.c7 I.ok.cR q.bB;have m:=(Gy I.ok L).mpr y.ni;have g:=(Gy I.ok B).mpr q.ni;have D:∀{π σ:Sb},Sat F.b σ->(∀k t,val k=AA t->π k=t.app σ)->(((e.h=AB/\cU Z e.t=AB)\/e.t.app π=e.T.app σ)↔u.app σ=r.app σ):=λs A=>by
  rw[he,ub,A k t ht,L.sat s,B.sat s];show⟨λh=>h.resolve_left λz=>aI<|l.symm.trans z.2,.inr⟩
 have j:∀{x},u.app S=.v x->u=.v x:=λz=>(L.wG I.ok.aw).mpr<|(L.sat I.ok.aw.sol).trans z;have Q:∀{x},r.app S=.v x->r=.v x:=λz=>(B.wG I.ok.aw).mpr<|(B.sat I.ok.aw.sol).trans z;refine rl.kG hr (y.hold al) C L B I.ok.aw I.ok.cR i w λcs=>cs.elim (λ⟨f,d,z,o⟩=>?_) λ⟨f,d,o⟩=>?_
 .subst f d;refine⟨λM=>K (I.tl.meet M w i ?_)<|E.met M λs A=>(D s A).trans eq_comm,λU=>I.fx.1▸hF (E.pv U λs A=>(D s A).trans eq_comm)⟩;refine vR g (λx J Y=>.inr<|.inr ⟨x,J,Y,m,λy O G=>?_⟩) λn=>z.elim λx J=>.inr (.inl ⟨x,?_,vR m (λy O G=>?_) id⟩)
  .rw[j O,Q J,s7 G,s7 Y] at o;show rT o
  .show(B.sat I.ok.aw.sol).symm.trans<|(B.wG I.ok.aw).mp J
  rw[Oh I.ok.aw B n,j O,s7 G] at o;show absurd (rT o)<|I.ok.Od G
 subst f d;refine⟨λM=>K (I.tl.meet M i w ?_)<|E.met M D,λU=>I.fx.1▸hF (E.pv U D)⟩;refine vR m (λy O G=>.inr<|.inr ⟨y,O,G,g,λx J Y=>?_⟩) λn=>vR g (λx J Y=>?_) λa=>.inl ⟨n,a⟩
 .have o:=o x<|Q J;rw[j O,Q J,s7 G,s7 Y] at o;show o
 have o:=o x<|Q J;rw[Oh I.ok.aw L n,Q J,s7 Y] at o;show absurd o<|I.ok.Od Y
section
variable(inj:Inj Z N)(al:∀k,lv k)
def Ye(D:∀n∈F.loose,F.ls n=-2)(I:Inv Z N n0 X lv c F S val<|e::pd)(E:Eqv Z N n0 P F.b val<|e::pd)(C:e.p=AA p)(Y:e.h=AB)(L:aR e.t=AD)(J:F.rest=[])(K:∀{F' S' val'},(∀n∈F'.loose,F'.ls n=-2)->Inv Z N n0 X lv (nU Z e.t p c).2 F' S' val' pd->Eqv Z N n0 P F'.b val' pd->F'.rest=[]->(∀k,val' k≠AE↔val k≠AE\/(Z.void k=AD/\e.t.has k))->R is F'):R ((nU Z e.t p c).1++is) F:=by
 have q:=I.pk e h_;have G:=λn m=>m7<|D n m;rcases ht:e.t with k|⟨k,z⟩|⟨f,x⟩|⟨f,x,y⟩
 .rw[ht] at K;unfold nU at K ⊢
  dsimp only at K ⊢
  by_cases hv:Z.void k=AB
  .rw[aC hv] at K ⊢;show K D I.tl (E.void ⟨Y,ht▸hv⟩) J λj=>⟨.inl,λh=>h.elim id λh=>absurd ((h.2)▸h.1)<|hv▸aI.symm⟩
  rw[aB hv] at K ⊢;have hv:=Bool.eq_false_iff.mpr hv;by_cases hk:k∈c.seen
  .rw[aC hk] at K ⊢;show FV rl hF I E (q.kW p C).1 J ht hv (al k) hk λI E=>K D I E J λj=>⟨.inl,λh=>h.elim id λh=>(h.2)▸(λz=>(I.sv k hk).elim λo w=>dN z w)⟩
  rw[aB hk] at K ⊢;have hn:=I.seen k hv hk;refine rl.getVar J (q.kW p C).1 q.bB (K D (I.tl.new inj hn (q.vs k<|ht▸rfl) hv q.bB q.ni (λm=>absurd (mP.mpr<|.inr rfl) m) (λn o m=>.inl<|G n m) rfl rfl (λj o m m'=>m<|mP.mpr (.inl m')) (aC rfl) λp q o=>aB q) (E.var ht (.inr hv) hn) J λj=>?_);by_cases z:j=k
  .show⟨λo=>.inr ⟨z▸hv,z.symm⟩,λo y=>dN y (by rw[z];show kh)⟩
  unfold fu;rw[aB z];show⟨.inl,λh=>h.elim id λh=>absurd (h.2).symm z⟩
 .rw[ht] at K;have B:∀{π σ:Sb},Sat F.b σ->(∀k t,val k=AA t->π k=t.app σ)->(((e.h=AB/\cU Z e.t=AB)\/e.t.app π=e.T.app σ)↔e.T.app σ=(Tm.c k z).app σ):=λo o=>ht.symm▸⟨λh=>(h.resolve_left λz=>nomatch z.2).symm,λh=>.inr h.symm⟩;show rl.kE J (q.kW p C).1 I.ok.aw I.ok.cR q.bB (λM=>K D (I.tl.meet M q.bB .c<|R3 q.ni λo h=>h.elim) (E.met M B) J λj=>⟨.inl,λh=>h.elim id λh=>h.2.elim⟩) λU=>I.fx.1▸hF (E.pv U B)
 .rw[ht] at L;show nomatch L
 rw[ht] at L;show nomatch L
def Md:∀{Ts i c F S val},(∀t∈D,aR t=AD)->D.length=Ts.length->(∀n∈F.loose,F.ls n=-2)->Inv Z N n0 X lv c F S val (rL D Ts i)->Eqv Z N n0 P F.b val (rL D Ts i)->F.rest=[]->(∀{F' S' val'},(∀n∈F'.loose,F'.ls n=-2)->Inv Z N n0 X lv (hH Z D i c).2 F' S' val' []->Eqv Z N n0 P F'.b val' []->F'.rest=[]->(∀k,val' k≠AE↔val k≠AE\/(Z.void k=AD/\∃t∈D,t.has k))->R is F')->R ((hH Z D i c).1++is) F:=by
 induction D with
 |nil=>
  intro Ts i c F S val _ hl J I E hr K;obtain rfl:=TG.mp hl.symm;show K J I E hr λk=>⟨.inl,λh=>h.elim id λM=>M.elim λy C=>C.elim λy B=>B.elim λm y=>aW m⟩
 |cons t D G=>
  intro Ts i c F S val L hl J I E hr K;rcases Ts with _|⟨T,Ts⟩;show nomatch hl;change R ((nU Z t (aP i) c).1++_++is) F;rw[bp];refine Ye rl hF inj al J I E rfl rfl (L t h_) hr λJ I E hr a=>G (λt m=>L t<|.tail _ m) (oW hl) J I E hr λJ I E hr b=>K J I E hr λk=>(b k).trans ?_;rw[a k,or_assoc,<-and_or_left,sR]
end
end
def cg(n:Nat):Tm->Nat
 | .v m=>if m=n then 1 else 0| .c _ _=>0| .s1 _ x=>cg n x| .s2 _ x y=>cg n x+cg n y
def dz(k:Nat):List Tm->Nat
 | []=>0|t::D=>cg k t+dz k D
def gW(h:t.has n):1<=cg n t:=by
 induction t with
 |v m=>show bJ (aC h).symm|c=>show h.elim|s1 f x J=>show J h|s2 f x y C B=>show h.elim (λh=>aA (C h)<|aY _ _) λh=>aA (B h)<|bU _ _
def jn(m:t∈D)(h:t.has k):1<=dz k D:=by
 induction D with
 |nil=>show aW m|cons u D J=>show(JJ.mp m).elim (λe=>aA (gW<|e▸h)<|aY _ _) λm=>aA (J m)<|bU _ _
def lT{a b:Nat}(h:a+b<=1)(B:1<=a)(J:1<=b):P:=absurd (aA (bW B J) h) ⋯
def Fr(Z:Pl)(J:Nat->Option Tm)(D:List Tm):Prop:=∀k,Z.void k=AB->dz k D<=1/\∀t∈D,t.has k->J k=AE
structure St(H:Place->Prop)(A:Nat->Prop)(F:FS)(S:Sb)(val:Nat->Option Tm)(F':FS)(S':Sb)(val':Nat->Option Tm):Prop where
 mo:Mo F S F' S'
 ho:∀p,H p->F'.hold p=F.hold p
 an:∀{π σ},fW F'.b val' π σ->fW F.b val π σ
 nw:∀k,val' k≠AE↔val k≠AE\/A k
abbrev Dh(Z:Pl)(N C:Nat)(X:Bs)(lv:Nat->Prop)(R:List bN->FS->Prop)(is:List bN)(H:Place->Prop)(A:Nat->Prop)(F:FS)(S:Sb)(J:Nat->Option Tm)(B_:Sb->Sb->Prop)(c:Cs)(B:List Pe)(P:Sb->Prop)(r:List Tm)(n:Nat):Prop:=∀{F':FS} {S':Sb} {val':Nat->Option Tm},St H A F S J F' S' val'->(∀{π σ},fW F'.b val' π σ->B_ π σ)->Inv Z N C X lv c F' S' val' B->Eqv Z N C P F'.b val' B->F'.rest=r->c.nt=n->R is F'
structure w7(lo m:Nat)(F:FS)(S:Sb)(val:Nat->Option Tm)(p:Place)(t T:Tm):Prop where
 tp:p.1=116/\lo<=p.2/\p.2<m
 hold:F.hold p=AA T
 bB:aZ F.aG T
 nl:NL S F.loose T
 an:∀{π σ},fW F.b val π σ->t.app π=T.app σ
def l5(B m:Nat)(F:FS)(S:Sb)(J:Nat->Option Tm):Pc->Tm->Prop
 | .tm u,t=>u=t/\aR t=AD| .rg p,t=>∃T,w7 B m F S J p t T
def qK(B m:Nat)(F:FS)(S:Sb)(J:Nat->Option Tm):List Pc->List Tm->Prop
 |p::ps,t::D=>l5 B m F S J p t/\qK B m F S J ps D| [],[]=>True|_,_=>False
def ft:List Pc->List Tm
 | []=>[]| .tm t::ps=>t::ft ps| .rg _::ps=>ft ps
def iL(D J:List Tm):List Pe:=List.zipWith (λt T=>⟨t,T,AE,AD⟩) D J
def Hs(N:Nat)(J p:Place):Prop:=p.1=97\/(p.1=116/\N<=p.2)\/p=J
variable{val2:Nat->Option Tm}{P:Sb->Prop}{lo lo' m':Nat}{Ts:List Tm}{H H':Place->Prop}{A A':Nat->Prop}{q ρ:Place}{pc:Pc}{ps:List Pc}{a:Bool}{x:Tm}
section
variable{c:Cs}{S2:Sb}
def Yo(J:k<N)(h:place Z k≠ρ)(C:Hs N ρ p):p≠place Z k:=C.elim (λa=>hW J<|.inl a) λa=>a.elim (λa=>hW J<|.inr a) λe q=>h<|q.symm.trans e
section
variable(s:St H A F S val F' S' val')
def St.weak(h:∀p,H' p->H p)(a:∀k,A k↔A' k):St H' A' F S val F' S' val':=⟨s.mo,λp q=>s.ho p<|h p q,s.an,λk=>(s.nw k).trans<|or_congr_right (a k)⟩
def St.trans(s':St H A' F' S' val' F2 S2 val2):St H (λk=>A k\/A' k) F S val F2 S2 val2:=⟨s.mo.trans s'.mo,λp q=>(s'.ho p q).trans<|s.ho p q,λa=>s.an<|s'.an a,λk=>by rw[s'.nw,s.nw,or_assoc]⟩
end
def Fr.step(f:Fr Z val<|t::D)(s:St H A F S val F' S' val')(a:∀k,A k->t.has k):Fr Z val' D:=λk v=>⟨aA (bU _ _) (f k v).1,λu m J=>ij λz=>((s.nw k).mp z).elim (λz=>z<|(f k v).2 u (.tail _ m) J) λz=>lT (f k v).1 (gW<|a k z)<|jn m J⟩
def w7.mo(g:w7 lo m F S val p t T)(s:St H A F S val F' S' val')(C:H p)(J:lo'<=lo)(B:m<=m'):w7 lo' m' F' S' val' p t T:=⟨⟨g.tp.1,aA J g.tp.2.1,b6 g.tp.2.2 B⟩,(s.ho p C).trans g.hold,g.bB.mono s.mo.sp,s.mo.nl g.bB g.nl,λa=>g.an<|s.an a⟩
def l5.mo(g:l5 lo m F S val pc t)(s:St H A F S val F' S' val')(C:∀p,p.1=116->lo<=p.2->p.2<m->H p)(J:lo'<=lo)(B:m<=m'):l5 lo' m' F' S' val' pc t:=by
 rcases pc with u|p;show g;show g.elim λT g=>⟨T,g.mo s (C p g.tp.1 g.tp.2.1 g.tp.2.2) J B⟩
def qK.mo(s:St H A F S val F' S' val')(C:∀p,p.1=116->lo<=p.2->p.2<m->H p)(B:lo'<=lo)(T:m<=m'):∀{D},qK lo m F S val ps D->qK lo' m' F' S' val' ps D:=by
 induction ps with
 |nil=>
  intro D g;rcases D with _|_;show trivial;show g.elim
 |cons pc ps J=>
  intro D g;rcases D with _|⟨t,D⟩;show g.elim;show⟨g.1.mo s C B T,J g.2⟩
def Inv.aHz(I:Inv Z N n0 X lv c F S val pd)(J:∀t,val k=AA t->NL S F.loose t):Inv Z N n0 X lv {c with loc:=c.loc.filter (· != k)} F S val pd:=⟨I.ok,I.sp,I.fx,I.an,I.seen,I.sv,λj t h=>have v:=I.vk j t h
 ⟨v.bB,v.lt,λz=>have y:=v.nv z;⟨y.hold,y.ni,λq=>by
  by_cases e:j=k;show J t<|e▸h;show y.nl λm=>q<|List.mem_filter.mpr ⟨m,bne_iff_ne.mpr e⟩,y.lvl⟩⟩,I.nt,I.yh,I.pk⟩
def mU{b:Bool}(h:(a=AB/\b=AB)\/x=y)(z:a=AD):x=y:=h.resolve_left λq=>aI<|z.symm.trans q.1
variable{Fl:List Ev->Prop}(rl:Rules R Fl Dn sig picks)(hF:(∀π,¬P π)->Fl X.evs)
include rl hF
def IB{i:Place->bN}(m:i=.ph\/i=.oC)(I:Inv Z N n0 X lv c F S val<|e::pd)(E:Eqv Z N n0 P F.b val<|e::pd)(g:F.rest=e.T::r)(L:e.h=AD)(C:F.hold p=AA t)(O:aZ F.aG t)(j:NL S F.loose t)(Q:∀{π σ},fW F.b val π σ->e.t.app π=t.app σ)
  (K:∀{b' S'},St (λy=>True) (λy=>False) F S val {F with b:=b',rest:=r} S' val->(∀{π σ},fW b' val π σ->e.t.app π=e.T.app σ)->Inv Z N n0 X lv c {F with b:=b',rest:=r} S' val pd->Eqv Z N n0 P b' val pd->R is {F with b:=b',rest:=r}):R (i p::is) F:=by
 obtain⟨u,w⟩:=I.ok.aw.walks t;have q:=I.pk e h_;have Y:=(zN I.ok w).mpr j;have D:=w.c7 I.ok.cR O;have J:∀{π σ:Sb},Sat F.b σ->(∀k t,val k=AA t->π k=t.app σ)->(((e.h=AB/\cU Z e.t=AB)\/e.t.app π=e.T.app σ)↔e.T.app σ=u.app σ):=λs G=>⟨λh=>(mU h L).symm.trans<|(Q ⟨s,G⟩).trans (w.sat s),λh=>.inr<|((Q ⟨s,G⟩).trans<|w.sat s).trans h.symm⟩;have B:Way S F.loose F.ls e.T u:=.inl ⟨q.nl L,Y⟩;show rl.val m g C w (λn A=>Y n (by rw[A,show(Tm.v n).app S=.v n from I.ok.aw.id n<|w.free n A];rfl)) I.ok.aw I.ok.cR O D q.bB (λM=>K ⟨M.mo I.ok q.bB D B,λy y=>rfl,λa=>⟨((M.sat _).mp a.1).1,a.2⟩,λk=>(lN<|λh=>h).symm⟩ (λa=>have z:=(M.sat _).mp a.1;mU ((J z.1 a.2).mpr z.2) L) (I.tl.meet M q.bB D B)<|E.met M J) λU=>I.fx.1▸hF (E.pv U J)
def OX{i:Place->bN}(d:i=.pf\/i=.pV)(I:Inv Z N n0 X lv c F S val<|e::pd)(E:Eqv Z N n0 P F.b val<|e::pd)(o:F.rest=e.T::r)(D:e.h=AD)(C:F.hold p=AA t)(B:aZ F.aG t)(g:NI S F.loose t)(Q:∀{π σ},fW F.b val π σ->e.t.app π=t.app σ)
  (K:∀{b' S' l},St (λy=>True) (λy=>False) F S val {F with b:=b',rest:=r,loose:=l} S' val->NL S' l t->(∀{π σ},fW b' val π σ->e.t.app π=e.T.app σ)->Inv Z N n0 X lv c {F with b:=b',rest:=r,loose:=l} S' val pd->Eqv Z N n0 P b' val pd->R is {F with b:=b',rest:=r,loose:=l}):R (i p::is) F:=by
 obtain⟨u,w⟩:=I.ok.aw.walks t;have O:=I.ok.pop (f:=λn=>decide<|u≠.v n);have L:=I.mo O (λy y=>rfl) λy y h=>h;have q:=L.pk e h_;have Y:=HP I.ok w g;have j:=(zN I.ok w).mpr Y;have A:=w.c7 I.ok.cR B;have J:∀{π σ:Sb},Sat F.b σ->(∀k t,val k=AA t->π k=t.app σ)->(((e.h=AB/\cU Z e.t=AB)\/e.t.app π=e.T.app σ)↔e.T.app σ=u.app σ):=λs G=>⟨λh=>(mU h D).symm.trans<|(Q ⟨s,G⟩).trans (w.sat s),λh=>.inr<|((Q ⟨s,G⟩).trans<|w.sat s).trans h.symm⟩;show rl.loc d o C w I.ok.aw I.ok.cR B A q.bB (λM=>have m:=Met.mo L.ok M q.bB A<|.inl ⟨q.nl D,j⟩;K ⟨O.trans m,λy y=>rfl,λa=>⟨((M.sat _).mp a.1).1,a.2⟩,λk=>(lN<|λh=>h).symm⟩ (m.nl B Y) (λa=>have z:=(M.sat _).mp a.1;mU ((J z.1 a.2).mpr z.2) D) (L.tl.mo m (λy y=>rfl) λy y h=>h)<|E.met M J) λU=>I.fx.1▸hF (E.pv U J)
def aFW(Q:Inj Z N)(I:Inv Z N n0 X lv c F S val<|e::pd)(hpd:∀e∈pd,e.p=AE)(E:Eqv Z N n0 P F.b val<|e::pd)(L:F.rest=e.T::r)(B:e.h=AD)(g:l5 lo m F S val pc e.t)(w:qb Z pc=AD)(l:∀t,pc=.tm t->∀k,t.has k->Z.void k=AD->lv k/\place Z k≠ρ)
  (K:Dh Z N n0 X lv R is (Hs N ρ) (λk=>∃t∈ft [pc],t.has k) F S val (λπ σ=>e.t.app π=e.T.app σ) (iY Z pc c).2 pd P r c.nt):R ((iY Z pc c).1++is) F:=by
 have q:=I.pk e h_;rcases pc with u|p
 .obtain⟨rfl,hs⟩:=g;have one:∀{k:Nat},e.t.has k↔∃t∈ft [.tm e.t],t.has k:=⟨λh=>⟨_,.head _,h⟩,λ⟨_,m,h⟩=>JK.mp m▸h⟩;rcases ht:e.t with k|⟨k,z⟩|⟨f,x⟩|⟨f,x,y⟩
  .rw[ht] at K one w l;have hv:=w;have lt:=q.vs k<|ht▸rfl;have G:=l _ rfl k rfl hv;change R ((mY Z k c).1++is) F;have K:Dh Z N n0 X lv R is (Hs N ρ) (λj=>k=j) F S val (λπ σ=>e.t.app π=e.T.app σ) (mY Z k c).2 pd P r c.nt:=λs a I E L hn=>K (s.weak (λo h=>h) λj=>one) (ht▸a) I E L hn;unfold mY at K ⊢;by_cases hk:k∈c.seen
   .rw[aC hk] at K ⊢;obtain⟨t,J⟩:=I.sv k hk;have v:=I.vk k t J;have y:=v.nv hv;have i:∀{π σ},fW F.b val π σ->e.t.app π=t.app σ:=λa=>ht▸a.2 k t J;have A:∀{F' S' val'},St (λo=>True) (λo=>False) F S val F' S' val'->St (Hs N ρ) (λj=>k=j) F S val F' S' val':=λs=>⟨s.mo,λp o=>s.ho p trivial,s.an,λj=>(s.nw j).trans ⟨λh=>h.imp id AM,λh=>.inl<|h.elim id λe=>e▸λz=>dN z J⟩⟩;unfold vw at K ⊢;by_cases d:k∈c.loc
    .rw[aC d] at K ⊢;refine OX rl hF (.inr rfl) I E L B (y.hold G.1) v.bB y.ni i λs O a I E=>?_;by_cases C:Z.perm k=AB
     .rw[aC C] at K;show K (A s) a I E rfl rfl
     rw[aB C] at K;show K (A s) a (I.aHz λt h=>ai (J.symm.trans h)▸O) E rfl rfl
    rw[aB d] at K ⊢;show IB rl hF (.inr rfl) I E L B (y.hold G.1) v.bB (y.nl d) i λs a I E=>K (A s) a I E rfl rfl
   rw[aB hk] at K ⊢;have hn:=I.seen k hv hk;have O:=q.nl B;refine rl.oD L q.bB<|K ⟨I.ok.same,λp C=>aB<|Yo lt G.2 C,λa=>⟨a.1,λj t h=>a.2 j t<|jL hn h⟩,λj=>?_⟩ (λa=>ht▸a.2 k e.T kh) (I.tl.new Q hn lt hv q.bB q.ni (λo=>O) (λn z m=>absurd m<|O n (by rw[z];rfl)) rfl rfl (λj o m m'=>m m') (aC rfl) λp q o=>aB q) (E.var ht (.inl B) hn) rfl rfl
   by_cases z:j=k
   .show⟨λo=>.inr z.symm,λo y=>dN y (by rw[z];show kh)⟩
   unfold fu;rw[aB z];show⟨.inl,λh=>h.elim id λh=>absurd h.symm z⟩
  .rw[ht] at K one;have D:∀{π σ:Sb},Sat F.b σ->(∀k t,val k=AA t->π k=t.app σ)->(((e.h=AB/\cU Z e.t=AB)\/e.t.app π=e.T.app σ)↔e.T.app σ=(Tm.c k z).app σ):=λo o=>ht.symm▸⟨λh=>(mU h B).symm,λh=>.inr h.symm⟩;have Y:Way S F.loose F.ls e.T<|.c k z:=.inl ⟨q.nl B,λo h=>h.elim⟩;show rl.oB L I.ok.aw I.ok.cR q.bB (λM=>K ⟨M.mo I.ok q.bB .c Y,λo o=>rfl,λa=>⟨((M.sat _).mp a.1).1,a.2⟩,λj=>(lN λh=>(one.mpr h).elim).symm⟩ (λa=>have z:=(M.sat _).mp a.1;ht▸mU ((D z.1 a.2).mpr z.2) B) (I.tl.meet M q.bB .c Y) (E.met M D) rfl rfl) λU=>I.fx.1▸hF (E.pv U D)
  .rw[ht] at hs;show nomatch hs
  rw[ht] at hs;show nomatch hs
 obtain⟨T,g⟩:=g;show IB rl hF (.inr rfl) I E L B g.hold g.bB g.nl g.an λs a I E=>K (s.weak (λo o=>trivial) λk=>⟨AM,λ⟨_,m,_⟩=>nomatch m⟩) a I E rfl rfl
end
section
variable{c:Cs}{S2:Sb}
def Ok.fresh(B:Ok F S)(h:F.aG<n):NL S F.loose<|.v n:=λx J m=>by
 rw[show(Tm.v n).app S=.v n from B.new h] at J
 show Nat.not_le.mpr h<|(J)▸(B.low x m).1
section
variable(ht:aR t=AB)(wt:t.WT)
def DI:(t.app π=(bo (fnOf t) n).app σ)↔∀e∈iL (af t) (af<|bo (fnOf t) n),e.t.app π=e.T.app σ:=by
 rcases t with _|_|⟨f,x⟩|⟨f,x,y⟩
 .show(aI ht).elim
 .show(aI ht).elim
 .obtain⟨rfl,_⟩:=wt;show⟨λh e m=>JK.mp m▸(Tm.s1.inj h).2,λh=>aF (Tm.s1 32)<|h _ h_⟩
 have ne:f≠32:=λe=>by rw[e] at wt;show absurd wt.1 ⋯
 rw[show bo (fnOf<|.s2 f x y) n=.s2 f (.v<|n+1) (.v<|n+2) from aB ne]
 show⟨λh e m=>(JJ.mp m).elim (λz=>z▸(Tm.s2.inj h).2.1) λm=>(JK.mp m).symm▸(Tm.s2.inj h).2.2,λh=>pT (h _ h_)<|h _ (.tail _ h_)⟩
def O9:∃τ:Sb,t.app π=(bo (fnOf t) n).app τ:=by
 rcases t with _|_|⟨f,x⟩|⟨f,x,y⟩
 .show(aI ht).elim
 .show(aI ht).elim
 .obtain⟨rfl,_⟩:=wt;show⟨λz=>x.app π,rfl⟩
 have ne:f≠32:=λe=>by rw[e] at wt;show absurd wt.1 ⋯
 rw[show bo (fnOf<|.s2 f x y) n=.s2 f (.v<|n+1) (.v<|n+2) from aB ne]
 show⟨λm=>if m=n+1 then x.app π else y.app π,pT (aC rfl).symm (aB<|iC (c5<|n+1)).symm⟩
def Wc:(fnOf t=32\/fnOf t=0\/fnOf t=33)/\(af t).length=(af<|bo (fnOf t) n).length:=by
 rcases t with _|_|⟨f,x⟩|⟨f,x,y⟩
 .show(aI ht).elim
 .show(aI ht).elim
 .obtain⟨rfl,_⟩:=wt;show⟨.inl rfl,rfl⟩
 have ne:f≠32:=λe=>by rw[e] at wt;show absurd wt.1 ⋯
 rw[show bo (fnOf<|.s2 f x y) n=.s2 f (.v<|n+1) (.v<|n+2) from aB ne]
 show⟨.inr wt.1,rfl⟩
end
def aDH(m:u∈af (bo f n)):∃x,u=.v x/\n<x/\x<=n+ar f:=by
 unfold bo at m;unfold ar;by_cases e:f=32
 .rw[aC e] at m;rw[aC e];show⟨n+1,JK.mp m,c5 _,aV _⟩
 rw[aB e] at m;rw[aB e];show(JJ.mp m).elim (λm=>⟨n+1,m,c5 _,b8 _⟩) λm=>⟨n+2,JK.mp m,qG<|c5 _,aV _⟩
def DH(m:e∈iL D Ts):e.t∈D/\e.T∈Ts/\e.p=AE/\e.h=AD:=by
 induction D generalizing Ts with
 |nil=>show aW m|cons t D B=>
  rcases Ts with _|⟨T,Ts⟩;show aW m;show(JJ.mp m).elim (λq=>q▸⟨.head _,.head _,rfl,rfl⟩) λm=>((B m).elim λa J=>J.elim λb c=>⟨.tail _ a,.tail _ b,c⟩)
def nL{Q:Tm->Prop}(h:iE Q)(q:Q t):∀x∈af t,Q x:=by
 rcases t with _|_|⟨f,x⟩|⟨f,x,y⟩;show λz m=>aW m;show λz m=>aW m;show λz m=>JK.mp m▸h.s1 f x q;show λz m=>(JJ.mp m).elim (λe=>e▸(h.s2 f x y q).1) λm=>JK.mp m▸(h.s2 f x y q).2
def iG(m:x∈af t)(h:x.has k):t.has k:=by
 rcases t with _|_|⟨f,y⟩|⟨f,y,z⟩;show aW m;show aW m;show JK.mp m▸h;show(JJ.mp m).elim (λe=>.inl<|e▸h) λm=>.inr<|JK.mp m▸h
def aG9(m:t∈ft ps):t∈ft (pc::ps):=by
 rcases pc with _|_;show .tail _ m;show m
def aG7:((∃t∈ft [pc],t.has k)\/∃t∈ft ps,t.has k)↔∃t∈ft (pc::ps),t.has k:=by
 rcases pc with u|_
 .show(or_congr_left ⟨λ⟨_,m,h⟩=>JK.mp m▸h,λh=>⟨_,.head _,h⟩⟩).trans<|sR
 show vf λ⟨_,m,_⟩=>nomatch m
def Fr.tl(f:Fr Z val<|ft (pc::ps))(s:St H (λk=>∃t∈ft [pc],t.has k) F S val F' S' val'):Fr Z val'<|ft ps:=by
 rcases pc with u|_;show Fr.step f s λk ⟨_,m,h⟩=>JK.mp m▸h;show λk v=>⟨(f k v).1,λu m J=>ij λz=>((s.nw k).mp z).elim (λz=>z<|(f k v).2 u m J) λ⟨_,m,_⟩=>nomatch m⟩
variable{Fl:List Ev->Prop}(rl:Rules R Fl Dn sig picks)(hF:(∀π,¬P π)->Fl X.evs)(inj:Inj Z N)
include rl
theorem Lw(B:F.rest.drop n=Ts)(J:n<=F.rest.length)(K:R is {F with rest:=Ts}):R (kD n++is) F:=by
 unfold kD;by_cases h:n=0
 .rw[aC h];rw[h] at B;show(show {F with rest:=Ts}=F by rw[<-B];rfl)▸K
 rw[aB h];show rl.oE (λe=>h<|Nat.le_zero.mp (by rw[e] at J;show J)) J<|B.symm▸K
include hF inj
def aFY:∀{n c F S val D Ts},Inv Z N n0 X lv c F S val (iL D Ts)->Eqv Z N n0 P F.b val (iL D Ts)->N<=lo->qK lo m F S val ps D->D.length=Ts.length->F.rest.drop n=Ts->n<=F.rest.length->Fr Z val (ft ps)->(∀t∈ft ps,∀k,t.has k->Z.void k=AD->lv k/\place Z k≠ρ)->
  (Dh Z N n0 X lv R is (Hs N ρ) (λk=>∃t∈ft ps,t.has k) F S val (λπ σ=>∀e∈iL D Ts,e.t.app π=e.T.app σ) (fC Z ps n c).2 [] P [] c.nt)->R ((fC Z ps n c).1++is) F:=by
 induction ps with
 |nil=>
  intro n c F S val D Ts I E _ g hl hd hn _ _ K;rcases D with _|_
  .obtain rfl:=TG.mp hl.symm;refine Lw rl hd hn<|K ⟨I.ok.same,λo o=>rfl,λa=>a,λk=>(lN λr=>r.elim λo M=>M.elim λm o=>aW m).symm⟩ (λo o m=>aW m) I.same E rfl rfl
  show g.elim
 |cons pc ps Q=>
  intro n c F S val D Ts I E B g hl hd hn fr al K;rcases D with _|⟨t,D⟩;show g.elim;rcases Ts with _|⟨T,Ts⟩;show nomatch hl;have q:=I.pk _ h_;have Y:=D1 λz=>by rw[Dk z] at hd;show nomatch hd
  by_cases hv:qb Z pc=AB
  .rw[show fC Z (pc::ps) n c=fC Z ps (n+1) c from aC hv] at K ⊢
   rcases pc with u|_
   .obtain⟨rfl,hs⟩:=g.1;rcases u with k|_
    .have hn0:=(fr k hv).2 _ h_ rfl;have C:St (λo=>True) (λj=>k=j) F S val F S<|fu val k T:=⟨I.ok.same,λo o=>rfl,λa=>⟨a.1,λj t h=>a.2 j t<|jL hn0 h⟩,λj=>by
      by_cases z:j=k
      .show⟨λo=>.inr z.symm,λo y=>dN y (by rw[z];show kh)⟩
      unfold fu;rw[aB z];show⟨.inl,λh=>h.elim id λh=>absurd h.symm z⟩⟩
     refine Q (I.tl.ghost hn0 q.bB (q.vs k rfl) hv) (E.var rfl (.inl rfl) hn0) B (g.2.mo C (λo o o o=>trivial) (aV _)<|aV _) (oW hl) (by rw[<-I7,hd];rfl) Y (fr.step C λo h=>h) (λt m=>al t<|.tail _ m) λs a I E hr A=>K (((C.weak (λo o=>trivial) λo=>ju).trans s).weak (λo h=>h) λj=>sR (p:=Tm.has j) (a:=.v k)) (λz e J=>(JJ.mp J).elim (λJ=>J▸(s.an z).2 k T kh)<|a z e) I E hr A
    .show(aI hv).elim
    .show(aI hv).elim
    show(aI hv).elim
   show(aI hv).elim
  rw[show fC Z (pc::ps) n c=(kD n++((iY Z pc c).1++(fC Z ps 0 (iY Z pc c).2).1),(fC Z ps 0 (iY Z pc c).2).2) from aB hv] at K ⊢
  rw[bp,bp];have C:St (λo=>True) (λo=>False) F S val {F with rest:=T::Ts} S val:=⟨I.ok.same,λo o=>rfl,λa=>a,λk=>(lN λh=>h).symm⟩;have f:=g.mo C (λo o o o=>trivial) (aV lo)<|aV m;refine Lw rl hd hn (aFW rl hF inj I.same (λe J=>(DH J).2.2.1) E rfl rfl f.1 (Bool.eq_false_iff.mpr hv) (λu z=>by
   subst z;show al u h_) λL w i x G O=>?_)
  have L:=((C.weak (λo o=>trivial) λo=>ju).trans L).weak (λo h=>h) λo=>(by rw[false_or])
  refine Q i x B (g.2.mo L (λp h1 d o=>.inr<|.inl ⟨h1,aA B d⟩) (aV _)<|aV _) (oW hl) G (bK _) (fr.tl L) (λt m=>al t<|aG9 m) λs a I E hr A=>K ((L.trans s).weak (λo h=>h) λj=>aG7) (λz e J=>(JJ.mp J).elim (λJ=>J▸w (s.an z))<|a z e) I E hr<|A.trans O
end
def Hp(N:Nat)(J:Place)(m:Nat)(p:Place):Prop:=p.1=97\/(p.1=116/\N<=p.2/\p.2<m)\/p=J
def flat(t:Tm):List Tm:=(af t).filter λx=>!aR x
variable{c2:Cs}{l:List Tm}{r:Place}
section
variable{c:Cs}{S2:Sb}
def qk(h:aZ n t)(e:∀m,m<=n->π m=σ m):t.app π=t.app σ:=app_congr λm J=>e m<|h.lo m J
def PO:aR t=AB->dz k (af t)=cg k t:=by
 rcases t with _|_;show λh=>(aI h).elim;show λh=>(aI h).elim;show λy=>rfl;show λy=>rfl
def aDe{q:Tm->Bool}:dz k (l.filter q)<=dz k l:=by
 induction l with
 |nil=>show aV _|cons x l J=>
  rw[wg];split
  show b7 J _;show aA J<|bU _ _
def aHi(L:u∈l)(T:w∈l)(E:aR u=AD)(s2:aR w=AB)(C:u.has k)(B:w.has k):1+1<=dz k l:=by
 induction l with
 |nil=>show aW L|cons x l Y=>show(JJ.mp L).elim (λM=>(JJ.mp T).elim (λJ=>absurd (E.symm.trans<|(aF aR<|M.trans J.symm).trans s2) aI) λm=>bW (gW<|M▸C)<|jn m B) λD=>(JJ.mp T).elim (λJ=>bW (gW<|J▸B)<|jn D C) λG=>aA (Y D G)<|bU _ _
def Yb(D:aR t=AB):((∃x∈af t,aR x=AB/\x.has k)\/∃x∈flat t,x.has k)↔t.has k:=by
 refine⟨λh=>h.elim (λB=>B.elim λx J=>J.elim λm h=>iG m h.2) λB=>B.elim λx J=>J.elim λm h=>iG (List.mem_filter.mp m).1 h,λh=>?_⟩
 have:∃x∈af t,x.has k:=by
  rcases t with _|_|⟨f,x⟩|⟨f,x,y⟩
  .show(aI D).elim
  .show(aI D).elim
  .show⟨x,.head _,h⟩
  show h.elim (λh=>⟨x,.head _,h⟩) λh=>⟨y,.tail _ h_,h⟩
 obtain⟨x,C,h⟩:=this;rcases hs:aR x with _|_;show .inr ⟨x,List.mem_filter.mpr ⟨C,by rw[hs];rfl⟩,h⟩
 show .inl ⟨x,C,hs,h⟩
def Fr.flat(M:aR t=AB)(f:Fr Z val [t])(s:St H (λk=>∃x∈af t,aR x=AB/\x.has k) F S val F' S' val'):Fr Z val'<|flat t:=λk v=>by
 have o:=PO M▸aA (aY _ _) (f k v).1;refine⟨aA aDe o,λu m C=>ij λz=>((s.nw k).mp z).elim (λz=>z<|(f k v).2 t h_ (iG (List.mem_filter.mp m).1 C)) λD=>D.elim λx B=>B.elim λT J=>J.elim λE L=>?_⟩;have m:=List.mem_filter.mp m;show absurd (aA (aHi m.1 T (by have:=m.2;cases q:aR u with|true=>rw[q] at this;show(aI this).elim|false=>rfl) E C L) o) ⋯
variable{Fl:List Ev->Prop}(rl:Rules R Fl Dn sig picks)(hF:(∀π,¬P π)->Fl X.evs)(inj:Inj Z N)
include rl hF inj
def WS(Y:aR t=AB)(M:t.WT)(vs:∀k,t.has k->k<N)(I:Inv Z N n0 X lv c F S val [])(E:Eqv Z N n0 P F.b val [])(j:F.rest=[])(D:N<=lo)(g:qK lo m F S val ps<|af t)(J:r.1=97\/(r.1=116/\N<=r.2/\(r.2<lo\/m<=r.2))\/(r=ρ/\r.1=116/\r.2<N/\∀k t,val k=AA t->Z.void k=AD->place Z k≠r))(fr:Fr Z val<|ft ps)(al:∀t∈ft ps,∀k,t.has k->Z.void k=AD->lv k/\place Z k≠ρ)
  (K:∀{F' S' val' T},St (λp=>Hs N ρ p/\p≠r) (λk=>∃t∈ft ps,t.has k) F S val F' S' val'->F'.hold r=AA T->aZ F'.aG T->NL S' F'.loose T->(∀{π σ},fW F'.b val' π σ->t.app π=T.app σ)->Inv Z N n0 X lv (fin Z t r ps c).2 F' S' val' []->Eqv Z N n0 P F'.b val' []->F'.rest=[]->(fin Z t r ps c).2.nt=c.nt->R is F'):R ((fin Z t r ps c).1++is) F:=by
 have o:=Wc (n:=F.aG) Y M;have hs:Hs N ρ r:=J.imp_right λh=>h.imp (λh=>⟨h.1,h.2.1⟩) λh=>h.1;have O:∀{k t},val k=AA t->Z.void k=AD->r≠place Z k:=λa v=>J.elim (λh=>hW (I.vk _ _ a).lt<|.inl h) λh=>h.elim (λh=>hW (I.vk _ _ a).lt<|.inr ⟨h.1,h.2.1⟩) λh=>(h.2.2.2 _ _ a v).symm;have w:=J.imp_right λh=>h.elim (λh=>h.1) λh=>h.2.1;refine rl.QE j o.1 ?_;have i:Mo F S {F with hold:=pt F.hold r<|bo (fnOf t) F.aG,rest:=af<|bo (fnOf t) F.aG,aG:=F.aG+ar (fnOf t)} S:=I.ok.more;have B:=I.mo i (λp q=>aB (q.elim (λ⟨k,t,a,v,z⟩=>z▸(O a v).symm) λζ=>ζ.casesOn λy m y=>nomatch m)) λn t z=>(aB (λe=>by rw[<-e] at w;show w.elim (show ¬(121:Nat)=97 by decide)<|show ¬(121:Nat)=116 by decide):pt F.hold r _ (yP n)=F.hold (yP n))▸z
 have I2:Inv Z N n0 X lv c {F with hold:=pt F.hold r<|bo (fnOf t) F.aG,rest:=af<|bo (fnOf t) F.aG,aG:=F.aG+ar (fnOf t)} S val<|iL (af t) (af<|bo (fnOf t) F.aG):=⟨B.ok,B.sp,B.fx,B.an,B.seen,B.sv,B.vk,B.nt,B.yh,λe A=>by
  obtain⟨m1,m2,m3,m4⟩:=DH A;obtain⟨x,d,l1,l2⟩:=aDH m2;have G:=I.ok.fresh l1;show⟨d▸.v l2,d▸.inr G,λy=>d▸G,λp z=>dN m3 z,λk h=>vs k<|iG m1 h⟩⟩
 have E2:Eqv Z N n0 P F.b val<|iL (af t) (af<|bo (fnOf t) F.aG):=⟨λs=>E.snd ⟨s.sat,s.ag,s.vc,λy m=>nomatch m⟩,λ{π} p=>by
  obtain⟨σ,s⟩:=E.cmp p;obtain⟨τ,Q⟩:=O9 (n:=F.aG) (π:=π) Y M;have lo:∀m,m<=F.aG->(λm=>if m<=F.aG then σ m else τ m) m=σ m:=λm h=>aC h
  show⟨λm=>if m<=F.aG then σ m else τ m,λx u C=>have r:=I.ok.cR _<|nN C;(lo x<|r.1.lo x rfl).trans<|(s.sat x u C).trans (qk r.2 lo).symm,λm h1 L=>(lo m<|aA L I.sp).trans<|s.ag m h1 L,λk t h=>(s.vc k t h).trans (qk (I.vk k t h).bB lo).symm,λe A=>.inr<|(DI Y M).mp (Q.trans<|app_congr λx C=>(aB<|Nat.not_le.mpr (pJ C).1).symm) e A⟩⟩
 have f:St (λp=>p≠r) (λy=>False) F S val {F with hold:=pt F.hold r<|bo (fnOf t) F.aG,rest:=af<|bo (fnOf t) F.aG,aG:=F.aG+ar (fnOf t)} S val:=⟨i,λp h=>aB h,λa=>a,λk=>(lN λh=>h).symm⟩;have l:aZ (F.aG+ar (fnOf t))<|bo (fnOf t) F.aG:=zG o.1;have G:NL S F.loose<|bo (fnOf t) F.aG:=λx C mx=>by
  rw[xD λx q=>I.ok.new (pJ q).1] at C;show Nat.not_le.mpr (pJ C).1 (I.ok.low x mx).1
 show aFY rl hF inj I2 E2 D (g.mo f (λp h1 L h3 e=>J.elim (λh=>by rw[<-e,h1] at h;show absurd h ⋯) λh=>h.elim (λh=>by rw[<-e] at h;show h.2.2.elim (Nat.not_lt.mpr L)<|Nat.not_le.mpr h3) λh=>absurd h.2.2.1<|Nat.not_lt.mpr (e▸aA D L)) (aV _)<|aV _) o.2 rfl (bK _) fr al λs a I E j hc=>K (((f.weak (λy h=>h.2) λy=>ju).trans<|s.weak (λy h=>h.1) λy=>ju).weak (λy h=>h) λy=>by rw[false_or]) ((s.ho r hs).trans<|aC rfl) (l.mono s.mo.sp) (s.mo.nl l G) (λz=>(DI Y M).mpr<|a z) I E j hc
end
variable{J:Cs->Pr}
section
variable{c:Cs}{S2:Sb}
structure Bt(Z:Pl)(N:Nat)(lv:Nat->Prop)(ρ:Place)(t:Tm):Prop where
 wt:t.WT
 vs:∀k,t.has k->k<N
 al:∀k,t.has k->Z.void k=AD->lv k/\place Z k≠ρ
def Kl:iE<|Bt Z N lv ρ:=⟨λy y h=>⟨h.wt.2,h.vs,h.al⟩,λy y y h=>⟨⟨h.wt.2.1,λk q=>h.vs k<|.inl q,λk q=>h.al k<|.inl q⟩,⟨h.wt.2.2,λk q=>h.vs k<|.inr q,λk q=>h.al k<|.inr q⟩⟩⟩
def aG8:aR t=AB->ft (bS Z t c).2.1=flat t:=by
 rcases t with _|_|⟨f,x⟩|⟨f,x,y⟩;show λh=>(aI h).elim;show λh=>(aI h).elim
 .intro _;change ft [(dW Z (bS Z x) x c).2.1]=[x].filter _;unfold dW;rcases hs:aR x with _|_
  .rw[aB aI,uN (by rw[hs];rfl)];rfl
  rw[aC rfl,uM<|hs.symm▸aI];rfl
 intro _;change ft [(e8 Z (bS Z x) x (dW Z (bS Z y) y c).2.2).2.1,(dW Z (bS Z y) y c).2.1]=[x,y].filter _;generalize (dW Z (bS Z y) y c).2.2=c1;unfold dW e8;rcases hx:aR x with _|_
 .rw[aB aI,uN (by rw[hx];rfl)]
  rcases hy:aR y with _|_
  .rw[aB aI,uN (by rw[hy];rfl)];rfl
  rw[aC rfl,uM<|hy.symm▸aI];rfl
 rw[aC rfl,uM<|hx.symm▸aI];rcases hy:aR y with _|_
 .rw[aB aI,uN (by rw[hy];rfl)];rfl
 rw[aC rfl,uM<|hy.symm▸aI];rfl
def PM:∀{n:Nat} {c:Cs},(fC Z ps n c).2.nt=c.nt:=by
 induction ps with
 |nil=>show rfl|cons pc ps J=>
  intro n c;change(if qb Z pc=AB then fC Z ps (n+1) c else _).2.nt=c.nt
  by_cases h:qb Z pc=AB
  .rw[aC h];show J
  rw[aB h];refine J.trans ?_;rcases pc with u|_
  .rcases u with k|_
   .change(mY Z k c).2.nt=c.nt;unfold mY vw;split
    .split
     .split<;>rfl
     rfl
    rfl
   rfl;rfl;rfl
  rfl
section
variable(h:∀{c},c.nt<=(J c).2.2.nt)
def HA:c.nt<=(dW Z J x c).2.2.nt:=by
 unfold dW;split
 .change c.nt<=(fC Z (J c).2.1 0 (J c).2.2.bh).2.nt;rw[PM];show eM h
 show aV _
def PL:c.nt<=(e8 Z J x c).2.2.nt:=by
 unfold e8;split
 .change c.nt<=(fC Z (J c.bh).2.1 0 (J c.bh).2.2).2.nt;rw[PM];show aA (b8 _)<|h (c:=c.bh)
 show aV _
end
def tG:∀{c},c.nt<=(bS Z t c).2.2.nt:=by
 induction t with
 |v=>show aV _|c=>show aV _|s1 f x J=>show HA J|s2 f x y C B=>show aA (HA B)<|PL C
def l5.low(g:l5 lo m F S val pc t)(h:lo'<=lo):l5 lo' m F S val pc t:=by
 rcases pc with u|p;show g;show g.elim λT g=>⟨T,⟨g.tp.1,aA h g.tp.2.1,g.tp.2.2⟩,g.hold,g.bB,g.nl,g.an⟩
variable(R) in
def ED(B:Place)(Z:Pl)(N J:Nat)(X:Bs)(lv:Nat->Prop)(P:Sb->Prop)(t:Tm):Prop:=aR t=AB->∀{is c F S val},Inv Z N J X lv c F S val []->Eqv Z N J P F.b val []->F.rest=[]->Fr Z val [t]->
 (∀{F' S' val'},St (Hp N B c.nt) (λk=>∃x∈af t,aR x=AB/\x.has k) F S val F' S' val'->qK c.nt (bS Z t c).2.2.nt F' S' val' (bS Z t c).2.1 (af t)->c.nt<=(bS Z t c).2.2.nt->Inv Z N J X lv (bS Z t c).2.2 F' S' val' []->Eqv Z N J P F'.b val' []->F'.rest=[]->R is F')->R ((bS Z t c).1++is) F
variable{Fl:List Ev->Prop}(rl:Rules R Fl Dn sig picks)(hF:(∀π,¬P π)->Fl X.evs)(inj:Inj Z N)(hρ:∀m,N<=m->tP m≠ρ)
include rl hF inj hρ
theorem Ea(n:ED R ρ Z N n0 X lv P t)(D:aR t=AB)(M:Bt Z N lv ρ t)(q:c2=(bS Z t c).2.2\/c2=(bS Z t c).2.2.bh)(A:r.1=97\/(r.1=116/\N<=r.2/\(r.2<c.nt\/(bS Z t c).2.2.nt<=r.2))\/(r=ρ/\r.1=116/\r.2<N/\∀k t,val k=AA t->Z.void k=AD->place Z k≠r))(I:Inv Z N n0 X lv c F S val [])(E:Eqv Z N n0 P F.b val [])(j:F.rest=[])(o:Fr Z val [t])
  (K:∀{F' S' val' T},St (λp=>Hp N ρ c.nt p/\p≠r) (Tm.has · t) F S val F' S' val'->F'.hold r=AA T->aZ F'.aG T->NL S' F'.loose T->(∀{π σ},fW F'.b val' π σ->t.app π=T.app σ)->Inv Z N n0 X lv (fin Z t r (bS Z t c).2.1 c2).2 F' S' val' []->Eqv Z N n0 P F'.b val' []->F'.rest=[]->(fin Z t r (bS Z t c).2.1 c2).2.nt=c2.nt->R is F'):R ((bS Z t c).1++((fin Z t r (bS Z t c).2.1 c2).1++is)) F:=by
 refine n D I E j o λ{F1 S1 C} O g hc d E1 Q=>?_;have I2:=q.elim (λe=>e▸d) λe=>e▸d.bh;have Y:=aG8 (Z:=Z) (c:=c) D;have L:r.1=97\/(r.1=116/\N<=r.2/\(r.2<c.nt\/(bS Z t c).2.2.nt<=r.2))\/(r=ρ/\r.1=116/\r.2<N/\∀k t,C k=AA t->Z.void k=AD->place Z k≠r):=by
  refine A.imp_right λh=>h.imp_right λG=>G.elim λh1 B=>B.elim λq J=>J.elim λh3 s=>⟨h1,q,h3,λk t' a v=>((O.nw k).mp λz=>dN z a).elim (λz=>?_) λG=>G.elim λx B=>B.elim λi J=>J.elim λy l=>h1▸(M.al k (iG i l) v).2⟩;rcases hw:val k with _|w;show absurd hw z;show s k w hw v
 refine WS rl hF inj D M.wt M.vs I2 E1 Q I.nt g L (Y▸o.flat D O) (λu m k h=>M.al k<|iG (List.mem_filter.mp<|Y▸m).1 h) λs2 h1 b1 f a1 I E j hn=>K (((O.weak (λy h=>h.1) λy=>ju).trans<|s2.weak (λp h=>⟨h.1.imp_right λh=>h.imp_left λh=>⟨h.1,h.2.1⟩,h.2⟩) λy=>ju).weak (λy h=>h) λk=>?_) h1 b1 f a1 I E j hn;rw[Y];show Yb D
section
variable(hP:ED R ρ Z N n0 X lv P x)(bt:Bt Z N lv ρ x)(I:Inv Z N n0 X lv c F S val [])(E:Eqv Z N n0 P F.b val [])(hr:F.rest=[])(fr:Fr Z val [x])
def OT
  (K:∀{F' S' val'},St (Hp N ρ c.nt) (λk=>aR x=AB/\x.has k) F S val F' S' val'->l5 c.nt (dW Z (bS Z x) x c).2.2.nt F' S' val' (dW Z (bS Z x) x c).2.1 x->Inv Z N n0 X lv (dW Z (bS Z x) x c).2.2 F' S' val' []->Eqv Z N n0 P F'.b val' []->F'.rest=[]->R is F'):R ((dW Z (bS Z x) x c).1++is) F:=by
 have L:=I;unfold dW at K ⊢;by_cases J:aR x=AB
 .rw[aC J] at K ⊢;rw[bp];have B:=tG (Z:=Z) (t:=x) (c:=c);refine Ea rl hF inj hρ hP J bt (.inr rfl) (.inr<|.inl ⟨rfl,aA I.nt B,.inr<|aV _⟩) I E hr fr λs h1 D C T I E hr hn=>?_;rw[hn] at K;refine K (s.weak (λp h=>⟨h,λe=>?_⟩) λk=>⟨λh=>⟨J,h⟩,λh=>h.2⟩) ⟨_,⟨rfl,B,c5 _⟩,h1,D,C,T⟩ I E hr;rw[e] at h;show h.elim (show ¬116=97 by decide) λh=>h.elim (λh=>Nat.not_lt.mpr B h.2.2)<|hρ _ (aA L.nt B)
 rw[aB J] at K ⊢;show K ⟨I.ok.same,λy y=>rfl,λa=>a,λk=>(lN λh=>J h.1).symm⟩ ⟨rfl,Bool.eq_false_iff.mpr J⟩ I E hr
def aCn
  (K:∀{F' S' val'},St (Hp N ρ c.nt) (λk=>aR x=AB/\x.has k) F S val F' S' val'->l5 c.nt (e8 Z (bS Z x) x c).2.2.nt F' S' val' (e8 Z (bS Z x) x c).2.1 x->Inv Z N n0 X lv (e8 Z (bS Z x) x c).2.2 F' S' val' []->Eqv Z N n0 P F'.b val' []->F'.rest=[]->R is F'):R ((e8 Z (bS Z x) x c).1++is) F:=by
 have L:=I;unfold e8 at K ⊢;by_cases J:aR x=AB
 .rw[aC J] at K ⊢;rw[bp];have C:=tG (Z:=Z) (t:=x) (c:=c.bh);refine Ea rl hF inj hρ hP J bt (.inl rfl) (.inr<|.inl ⟨rfl,I.nt,.inl<|c5 _⟩) I.bh E hr fr λs h1 D B T I E hr hn=>?_;rw[hn] at K;refine K (s.weak (λp h=>⟨h.imp_right λh=>h.imp_left λh=>⟨h.1,h.2.1,qG h.2.2⟩,λe=>?_⟩) λk=>⟨λh=>⟨J,h⟩,λh=>h.2⟩) ⟨_,⟨rfl,aV _,C⟩,h1,D,B,T⟩ I E hr;rw[e] at h;show h.elim (show ¬116=97 by decide) λh=>h.elim (λh=>eU _ h.2.2)<|hρ _ L.nt
 rw[aB J] at K ⊢;show K ⟨I.ok.same,λy y=>rfl,λa=>a,λk=>(lN λh=>J h.1).symm⟩ ⟨rfl,Bool.eq_false_iff.mpr J⟩ I E hr
end
def aEe(M:Bt Z N lv ρ t):ED R ρ Z N n0 X lv P t:=by
 induction t with
 |v=>show λh=>(aI h).elim|c=>show λh=>(aI h).elim|s1 f x Y=>
  intro _ is c F S val I E hr fr K;have B:=Kl.s1 _ _ M;show OT rl hF inj hρ (Y B) B I E hr (λk v=>⟨(fr k v).1,λu m C=>(fr k v).2 _ h_<|JK.mp m▸C⟩) λs g I E hr=>K (s.weak (λq h=>h) λk=>⟨λh=>⟨x,.head _,h⟩,λ⟨_,m,h⟩=>JK.mp m▸h⟩) ⟨g,trivial⟩ tG I E hr
 |s2 f x y A O=>
  intro _ is c F S val I E hr fr K;have D:=I.nt;have B:=Kl.s2 _ _ _ M;have J:Fr Z val [y,x]:=λk v=>⟨by
   have:=(fr k v).1
   change cg k y+(cg k x+0)<=1;rw[Nat.add_zero,bQ];show this,λu m C=>(fr k v).2 _ h_<|(JJ.mp m).elim (λe=>.inr<|e▸C) λm=>.inl (JK.mp m▸C)⟩
  have T:Fr Z val [y]:=λk v=>⟨aA (b7 (bK _) _) (J k v).1,λu m=>(J k v).2 u<|JK.mp m▸.head _⟩;change R ((dW Z (bS Z y) y c).1++(e8 Z (bS Z x) x (dW Z (bS Z y) y c).2.2).1++is) F;rw[bp];refine OT rl hF inj hρ (O B.2) B.2 I E hr T λs1 o I E hr=>?_;refine aCn rl hF inj hρ (A B.1) B.1 I E hr (J.step s1 λq h=>h.2) λs2 r I E hr=>?_;have L:=HA (Z:=Z) (x:=y) (c:=c)<|tG (Z:=Z) (t:=y);have G:=PL (Z:=Z) (x:=x) (c:=(dW Z (bS Z y) y c).2.2)<|tG (Z:=Z) (t:=x);refine K ((s1.trans<|s2.weak (λp h=>h.imp_right λh=>h.imp_left λh=>⟨h.1,h.2.1,b6 h.2.2 L⟩) λq=>ju).weak (λq h=>h) λk=>⟨λh=>h.elim (λh=>⟨y,.tail _ h_,h⟩) λh=>⟨x,.head _,h⟩,λ⟨z,m,h⟩=>(JJ.mp m).elim (λe=>.inr<|e▸h) λm=>.inl<|JK.mp m▸h⟩) ⟨?_,?_,trivial⟩ tG I E hr;show r.low L;show o.mo s2 (λp h1 j Q=>.inr<|.inl ⟨h1,aA D j,Q⟩) (aV _) G
def EW(L:aR t=AB)(C:Bt Z N lv ρ t)(J:r.1=97\/(r.1=116/\N<=r.2/\r.2<c.nt)\/(r=ρ/\r.1=116/\r.2<N/\∀k t,val k=AA t->Z.void k=AD->place Z k≠r))(I:Inv Z N n0 X lv c F S val [])(E:Eqv Z N n0 P F.b val [])(B:F.rest=[])(M:Fr Z val [t])
  (K:∀{F' S' val' T},St (λp=>Hp N ρ c.nt p/\p≠r) (Tm.has · t) F S val F' S' val'->F'.hold r=AA T->aZ F'.aG T->NL S' F'.loose T->(∀{π σ},fW F'.b val' π σ->t.app π=T.app σ)->Inv Z N n0 X lv (dw Z t r c).2 F' S' val' []->Eqv Z N n0 P F'.b val' []->F'.rest=[]->R is F'):R ((dw Z t r c).1++is) F:=by
 change R ((bS Z t c).1++_++is) F;rw[bp];show Ea rl hF inj hρ (aEe rl hF inj hρ C) L C (.inl rfl) (J.imp_right λh=>h.imp_left λh=>⟨h.1,h.2.1,.inl h.2.2⟩) I E B M λs h1 G D Y I E B hn=>K (s.weak (λy h=>h) λy=>ju) h1 G D Y I E B
end
structure Ax(Z:Pl)(N:Nat)(lv:Nat->Prop)(lg L:Int)(M:Nat->Prop)(t:Tm):Prop where
 bt:Bt Z N lv (aP 0) t
 uv:∀k,t=.v k->Z.void k=AD->Z.perm k=AB->(Z.dt k=AB->(Z.slot k:Int)<=L\/un Z k lg=AB)/\(¬M k->Z.dt k=AB/\(Z.slot k:Int)<=L)
structure La(L:Int)(F:FS)(S:Sb)(val:Nat->Option Tm)(q:Place)(t T:Tm):Prop where
 hold:F.hold q=AA T
 bB:aZ F.aG T
 lv:∀m,T.app S=.v m->m∈F.loose->F.ls m<=L
 an:∀{π σ},fW F.b val π σ->t.app π=T.app σ
abbrev KL(Z:Pl)(N B:Nat)(X:Bs)(lv:Nat->Prop)(R:List bN->FS->Prop)(is:List bN)(H:Place->Prop)(A:Nat->Prop)(F:FS)(S:Sb)(J:Nat->Option Tm)(L:Int)(q:Place)(t:Tm)(c:Cs)(P:Sb->Prop):Prop:=∀{F':FS} {S':Sb} {val':Nat->Option Tm} {T:Tm},St H A F S J F' S' val'->La L F' S' val' q t T->Inv Z N B X lv c F' S' val' []->Eqv Z N B P F'.b val' []->F'.rest=[]->R is F'
variable{lg:Int}{M:Nat->Prop}
section
variable{c:Cs}{S2:Sb}{L:Int}
def La.mo(g:La L F S val q t T)(s:St H A F S val F' S' val')(J:H q)(B:-2<=L):La L F' S' val' q t T:=⟨(s.ho q J).trans g.hold,g.bB.mono s.mo.sp,λm e z=>(s.mo.vl g.bB e z).elim λk z=>du z.2.2<|g.lv k z.1 z.2.1,λa=>g.an<|s.an a⟩
def Eqv.zJ(I:Inv Z N n0 X lv c F S val [])(E:Eqv Z N n0 P F.b val [])(C:val k=AE):Eqv Z N n0 P F.b (fu val k<|.v (F.aG+1)) []:=⟨λs=>E.snd ⟨s.sat,s.ag,λj w h=>s.vc j w<|jL C h,λy m=>aW m⟩,λ{π} p=>by
 obtain⟨σ,s⟩:=E.cmp p;have lo:∀m,m<=F.aG->(λm=>if m<=F.aG then σ m else π k) m=σ m:=λm h=>aC h
 show⟨λm=>if m<=F.aG then σ m else π k,λx u J=>have r:=I.ok.cR _<|nN J;(lo x<|r.1.lo x rfl).trans<|(s.sat x u J).trans (qk r.2 lo).symm,λm h1 B=>(lo m<|aA B I.sp).trans<|s.ag m h1 B,λj t h=>(wD h).elim (λh=>h.1▸h.2▸(aB<|Te F.aG).symm) λh=>(s.vc j t h.2).trans (qk (I.vk j t h.2).bB lo).symm,λy m=>aW m⟩⟩
def vU(J:val k=AE):∀j,fu val k t j≠AE↔val j≠AE\/k=j:=λj=>by
 by_cases z:j=k
 .show⟨λq=>.inr z.symm,λq y=>dN y (by rw[z];show kh)⟩
 unfold fu;rw[aB z];show⟨.inl,λh=>h.elim id λh=>absurd h.symm z⟩
def Wy(f:Fr Z val [.v k])(v:Z.void k=AB):val k=AE:=(f k v).2 _ h_ rfl
variable{Fl:List Ev->Prop}(rl:Rules R Fl Dn sig picks)(hF:(∀π,¬P π)->Fl X.evs)(inj:Inj Z N)
include rl inj
theorem aB8(a:Ax Z N lv lg L M<|.v k)(mv:∀k,M k->val k≠AE)(hL:-2<=L)(G:q.1=97)(I:Inv Z N n0 X lv c F S val [])(E:Eqv Z N n0 P F.b val [])(J:F.rest=[])(fr:Fr Z val [.v k])
  (K:KL Z N n0 X lv R is (λp=>p.1=97/\p≠q) (λj=>k=j) F S val L q (.v k) (pE Z k q lg c).2 P):R ((pE Z k q lg c).1++is) F:=by
 have lt:=a.bt.vs k rfl;have qn:q≠place Z k:=hW lt<|.inl G;have qy:∀n,yP n≠q:=λn e=>by rw[<-e] at G;show(show ¬(121:Nat)=97 by decide) G
 have hh:∀{h:Place->Option Tm} {T:Tm} {p},((∃k t,val k=AA t/\Z.void k=AD/\p=place Z k)\/∃e∈([]:List Pe),e.p=AA p)->pt h q T p=h p:=λz=>aB (z.elim (λ⟨j,t,b,_,z⟩=>z▸(hW (Z:=Z) (I.vk j t b).lt<|.inl G).symm) λQ=>Q.casesOn λo m o=>nomatch m);have s:∀{T:Tm} (n t),pt F.hold q T (yP n)=AA t->F.hold (yP n)=AA t:=λn t z=>(aB (qy n):pt F.hold q _ (yP n)=F.hold (yP n))▸z;unfold pE at K ⊢;by_cases hv:Z.void k=AB
 .rw[aC hv] at K ⊢;have hn:=Wy fr hv;have B:Mo F S {F with hold:=pt F.hold q<|.v (F.aG+1),rest:=F.rest,aG:=F.aG+1} S:=I.ok.more;show rl.mX J (by rw[G];decide)<|K ⟨B,λp z=>aB z.2,λz=>⟨z.1,λj t h=>z.2 j t<|jL hn h⟩,vU hn⟩ ⟨aC rfl,.v<|aV _,λm e z=>absurd z<|I.ok.fresh (c5 _) m (by rw[e];rfl),λz=>z.2 k _ kh⟩ ((I.mo B (λp z=>hh z) s).ghost hn (.v<|aV _) lt hv) (E.zJ I hn) J
 rw[aB hv] at K ⊢;have hv:=Bool.eq_false_iff.mpr hv;have al:=a.bt.al k rfl hv;by_cases hk:k∈c.seen
 .rw[aC hk] at K ⊢;obtain⟨t,D⟩:=I.sv k hk;have v:=I.vk k t D;have y:=v.nv hv;have nw:∀j,val j≠AE↔val j≠AE\/k=j:=λj=>⟨.inl,λh=>h.elim id λe=>e▸λz=>dN z D⟩;by_cases hu:un Z k lg=AB
  .rw[aC hu];obtain⟨u,w⟩:=I.ok.aw.walks t;have B:=I.ok.pop (f:=λn=>decide<|u≠.v n);have g:=B.trans<|B.ok.same (h:=pt F.hold q u) (r:=F.rest);have A:=(zN I.ok w).mpr<|HP I.ok w y.ni;have ib:=w.c7 I.ok.cR v.bB;show rl.lP J (y.hold al.1) w I.ok.cR v.bB ib<|K ⟨g,λp z=>aB z.2,λa=>a,nw⟩ ⟨aC rfl,ib,λm e z=>absurd z<|A m (by rw[e];rfl),λz=>(z.2 k t D).trans<|w.sat z.1⟩ (I.mo g (λp z=>hh z) s) E J
  rw[aB hu];have g:Mo F S {F with hold:=pt F.hold q t} S:=I.ok.same (h:=pt F.hold q t) (r:=F.rest);show rl.jI J (y.hold al.1) v.bB<|K ⟨g,λp z=>aB z.2,λa=>a,nw⟩ ⟨aC rfl,v.bB,λm e z=>(y.lvl m e z).elim (λh=>du h hL) λ⟨h1,h2,h3⟩=>du h2<|((a.uv k rfl hv h1).1 h3).resolve_right hu,λz=>z.2 k t D⟩ (I.mo g (λp z=>hh z) s) E J
 rw[aB hk] at K ⊢;have hn:=I.seen k hv hk;have d:∀{h:Place->Option Tm} {T:Tm},pt (pt h (place Z k) T) q T (place Z k)=AA T:=(aB qn.symm).trans<|aC rfl;by_cases C:Z.perm k=AB
 .rw[aC C] at K;have O:place Z k=yP (Z.slot k):=aC C;have z:=(a.uv k rfl hv C).2 λh=>mv k h hn;have B:Mo F S {F with hold:=F.hold,aG:=F.aG+1,loose:=F.loose++[F.aG+1],ls:=λm=>if m=F.aG+1 then(Z.slot k) else F.ls m} S:=I.ok.O8 (du ⋯<|eI _)
  have eS:(Tm.v<|F.aG+1).app S=.v (F.aG+1):=I.ok.new<|c5 _;rw[O] at d ⊢;have l:Mo F S {F with hold:=pt (pt F.hold (yP<|Z.slot k)<|.v (F.aG+1)) q<|.v (F.aG+1),aG:=F.aG+1,loose:=F.loose++[F.aG+1],ls:=λm=>if m=F.aG+1 then(Z.slot k) else F.ls m} S:=I.ok.O8<|du ⋯ (eI _)
  refine rl.QH J (λx m=>(I.ok.low x m).1) (K ⟨l,λp z=>(aB z.2).trans (aB λe=>by rw[e] at z;show absurd z.1<|show ¬(121:Nat)=97 by decide),λz=>⟨z.1,λj t h=>z.2 j t<|jL hn h⟩,vU hn⟩ ⟨aC rfl,.v<|aV _,λm e o=>(show(if m=F.aG+1 then(Z.slot k:Int) else F.ls m)<=L by rw[aC<|Tm.v.inj (e.symm.trans eS)];show z.2),λz=>z.2 k _ kh⟩
   ((I.mo B (λo o=>rfl) λo o h=>h).new (c':=(c.dA k).lI k) (r:=F.rest) (t:=.v<|F.aG+1) inj hn lt hv (.v<|aV _) (.inl (by rw[eS];rfl)) (λz=>absurd (mP.mpr<|.inr rfl) z) (λm e o=>.inr ⟨C,m7<|aC (Tm.v.inj<|e.symm.trans eS),z.1⟩) rfl rfl (λj o m m'=>m<|mP.mpr (.inl m')) (O.symm▸d) λp i Y=>(aB ?_).trans<|aB (O▸i)) (E.zJ I hn) J)
  show Y.elim (λ⟨j,t,b,_,z⟩=>z▸(hW (Z:=Z) (I.vk j t b).lt<|.inl G).symm) λY=>Y.elim (λQ=>Q.casesOn λo m o=>nomatch m) λz e=>by rw[e,G] at z;show absurd z ⋯
 rw[aB C] at K;have O:place Z k=tP k:=aB C;have A:=I.ok.fresh<|c5 F.aG;have B:Mo F S {F with hold:=F.hold,rest:=F.rest,aG:=F.aG+1} S:=I.ok.more;rw[O] at d ⊢;have l:Mo F S {F with hold:=pt (pt F.hold (tP k)<|.v (F.aG+1)) q<|.v (F.aG+1),rest:=F.rest,aG:=F.aG+1} S:=I.ok.more;refine rl.QG J (K ⟨l,λp z=>(aB z.2).trans (aB λe=>by rw[e] at z;show absurd z.1<|show ¬(116:Nat)=97 by decide),λz=>⟨z.1,λj t h=>z.2 j t<|jL hn h⟩,vU hn⟩ ⟨aC rfl,.v<|aV _,λm e z=>absurd z<|A m (by rw[e];rfl),λz=>z.2 k _ kh⟩
  ((I.mo B (λo o=>rfl) λo o h=>h).new (c':=c.dA k) (r:=F.rest) (t:=.v<|F.aG+1) (h:=pt (pt F.hold (tP k)<|.v (F.aG+1)) q<|.v (F.aG+1)) inj hn lt hv (.v<|aV _) (.inr A) (λo=>A) (λm e z=>absurd z<|A m (by rw[e];rfl)) rfl rfl (λj o m m'=>m m') (O.symm▸d) λp i Y=>(aB ?_).trans<|aB (O▸i)) (E.zJ I hn) J)
 show Y.elim (λ⟨j,t,b,_,z⟩=>z▸(hW (Z:=Z) (I.vk j t b).lt<|.inl G).symm) λY=>Y.elim (λQ=>Q.casesOn λo m o=>nomatch m) λz e=>by rw[e,G] at z;show absurd z ⋯
include hF
def aB7(a:Ax Z N lv lg L M t)(O:∀k,M k->val k≠AE)(Q:-2<=L)(B:q.1=97)(I:Inv Z N n0 X lv c F S val [])(E:Eqv Z N n0 P F.b val [])(J:F.rest=[])(T:Fr Z val [t])
  (K:KL Z N n0 X lv R is (λp=>p.1=97/\p≠q) (Tm.has · t) F S val L q t (pD Z t q lg c).2 P):R ((pD Z t q lg c).1++is) F:=by
 have C:aR t=AB->(KL Z N n0 X lv R is (λp=>p.1=97/\p≠q) (Tm.has · t) F S val L q t (dw Z t q c).2 P)->R ((dw Z t q c).1++is) F:=λA K=>EW rl hF inj (λm o e=>absurd (aF As e)<|show ¬116=97 by decide) A a.bt (.inl B) I E J T λs h1 r Y u I E J=>K (s.weak (λp h=>⟨.inl h.1,h.2⟩) λo=>ju) ⟨h1,r,λm e z=>absurd z<|Y m (by rw[e];rfl),u⟩ I E J
 rcases t with k|⟨b,z⟩|⟨f,x⟩|⟨f,x,y⟩;show aB8 rl inj a O Q B I E J T K
 .have m1:Mo F S {F with hold:=pt F.hold q<|.c b z} S:=I.ok.same;show rl.kU J<|K ⟨m1,λp z=>aB z.2,λa=>a,λj=>(lN λh=>h).symm⟩ ⟨aC rfl,.c,λm e=>(nomatch e),λo=>rfl⟩ (I.mo m1 (λp z=>aB<|z.elim (λ⟨j,t,b,_,z⟩=>z▸(hW (I.vk j t b).lt<|.inl B).symm) λG=>G.elim λo D=>D.elim λm o=>aW m) λn t z=>(aB (λe=>by rw[<-e] at B;show(show ¬121=97 by decide) B):pt F.hold q _ (yP n)=F.hold (yP n))▸z) E J
 show C rfl K;show C rfl K
end
def DJ(Z:Pl)(N:Nat)(lv:Nat->Prop)(J L:Int)(M:Nat->Prop)(D:List Tm):Prop:=AO (λy=>True) (λt y B M=>Ax Z N lv J L M t/\B λk=>M k\/t.has k) D M
structure k9(us ws:List Tm)(τ ω:Sb):Prop where
 to:us.map (Tm.app τ)=ws
 back:ws.map (Tm.app ω)=us
variable{ws:List Tm}
section
variable(V:k9 us ws τ ω)
def k9.LA:kJ us=kJ ws/\gi τ ω (cM us) (cM ws):=V.to▸aBw (V.to▸V.back) .nil
def k9.kJ:kJ us=kJ ws:=V.LA.1
def k9.names:gi τ ω (cM us)<|cM ws:=V.LA.2
end
def At(vs:List Tm)(x:Nat)(c:Tm)(D:List Tm):Prop:=∃σ:Sb,D=vs.map (Tm.app σ)/\σ x=c
variable{vs:List Tm}{x:Nat}
def Ub{c:Tm}(m:x∈cM vs)(h:D=vs.map (Tm.app σ)):At vs x c D↔σ x=c:=⟨λB=>B.elim λy J=>J.elim λe q=>(map_inj m<|h.symm.trans e).trans q,λq=>⟨σ,h,q⟩⟩
variable{hv:Nat->Prop}{Sp:Sb}{as ks kF:List Tm}{Q:Prop}
section
variable{FS2:FS}{c:Cs}{y:Nat}{l':List Tm}{LL:Int}
def Good(N J:Nat)(B:Nat->Prop)(n:Nat):Prop:=(n<N/\¬B n)\/(N<=n/\n<=J)
structure Lk(N n0:Nat)(hv:Nat->Prop)(Z:Pl)(P:Sb->Prop)(b:Bd)(Sp:Sb)(ks:List Tm)(bF:Bd)(kF:List Tm)(val:Nat->Option Tm):Prop where
 mp:ay b Sp
 pp:∀π,P π↔∃π',Sat b π'/\∀n,Good N n0 hv n->π' n=π n
 ke:∀{π σ},fY Z N n0 bF val [] π σ->ks.map (Tm.app π)=kF.map (Tm.app σ)
 kv:∀t∈ks,∀n,t.has n->Good N n0 hv n
def Gi(J:∀t∈as,∀n,t.has n->Good N n0 hv n)(h:∀n,Good N n0 hv n->π n=σ n):as.map (Tm.app π)=as.map (Tm.app σ):=jO λt m=>app_congr λn q=>h n<|J t m n q
def aCd:(us.map<|Tm.app τ).map (Tm.app σ)=us.map (Tm.app λn=>(τ n).app σ):=by rw[gm];show jO λt y=>gQ σ τ t
def Gj(M:ay b S)(h:Sat b σ):(us.map<|Tm.app S).map (Tm.app σ)=us.map (Tm.app σ):=by rw[gm];show jO λt y=>M.Gr h t
def Cn(M:ay b S)(J:∀k t,val k=AA t->k<N):∃π,fY Z N n0 b val [] π S:=⟨λn=>if n<N then((val n).getD<|.v n).app S else S n,M.sol,λn h y=>(aB<|Nat.not_lt.mpr h).symm,λk t h=>(aC<|J k t h).trans (by rw[h];rfl),λy m=>aW m⟩
def tw(E:Eqv Z N n0 P b' val [])(M:ay b' S)(L:Lk N n0 hv Z P b Sp ks b' kF val)(B:∀k t,val k=AA t->k<N)(J:∀{π σ},fY Z N n0 b' val [] π σ->as.map (Tm.app π)=us.map (Tm.app σ))(C:∀t∈as,∀n,t.has n->Good N n0 hv n):∃τ ω,k9 (as.map<|Tm.app Sp) (us.map<|Tm.app S) τ ω:=by
 obtain⟨π,s⟩:=Cn M B;obtain⟨τ,h1,D⟩:=(L.pp π).mp<|E.snd s;obtain⟨ω,s'⟩:=E.cmp<|(L.pp Sp).mpr ⟨Sp,L.mp.sol,λy y=>rfl⟩;show⟨τ,ω,by rw[Gj L.mp h1,Gi C D,J s],by rw[Gj M s'.sat,J s']⟩
def aD4{l J:List Nat}(h:l.length=J.length)(D:kT l n picks=AE->kT J n picks=AE->Q)(B:∀j x y:Nat,l[j]?=AA x->J[j]?=AA y->kT l n picks=AA x->kT J n picks=AA y->Q):Q:=by
 unfold kT at D B;have e:l≠[]↔J≠[]:=not_congr<|by rw[<-TG,h,TG]
 by_cases q:l≠[]/\0<(picks[n % picks.length]?).getD 0
 .have C:=List.length_pos_iff.mpr q.1;rw[aC q,aC ⟨e.mp q.1,q.2⟩,<-h] at B;have L:=cK<|wz ((picks[n % picks.length]?).getD 0) C;have T:=cK (l:=J) (i:=(picks[n % picks.length]?).getD 0 % l.length)<|h▸wz ((picks[n % picks.length]?).getD 0) C;show B _ _ _ L T L T
 rw[aB q,aB λz=>q ⟨e.mpr z.1,z.2⟩] at D;show D rfl rfl
def zC(M:ay b S)(h:x∈cM (us.map<|Tm.app S)):b.at x=AE:=by
 obtain⟨t,ht,hn⟩:=(qj.mp h).resolve_left eL;obtain⟨u,_,rfl⟩:=List.mem_map.mp ht;obtain⟨m,B,J⟩:=dj.mp hn;show M.free J
def Gn(M:ay b S)(J:b.at x=AE){k:Bool}:∃S',Met b S (.v x) (.c k z) (b++[(x,.c k z)]) S':=
 ⟨_,((fL.start M (.v x)<|.c k z).bound (λy y=>ju) J (λy e=>nomatch e) (λh=>h) (λn h=>.inl (by
  change(S x).has n;rw[M.id x J];show(h.resolve_right λq=>q).symm)) (λy y y h1 B=>⟨h1,B⟩)<|.inl ⟨M.id x J,rfl⟩).done⟩
def KR{c:Tm}(M:ay b S)(m:x∈cM vs)(e:vs.map (Tm.app τ)=as.map (Tm.app S))(J:τ x=.v y)(h:Sat b σ):At vs x c (as.map<|Tm.app σ)↔σ y=c:=(Ub m<|by rw[<-Gj M h,<-e,aCd]).trans (by rw[J];show .rfl)
def WB(J:Ok F S)(E:Eqv Z N n0 P F.b val [])(L:Lk N n0 hv Z P b Sp ks F.b F.kept val)(hl:∀k t,val k=AA t->k<N)(C:∀{π σ},fY Z N n0 F.b val [] π σ->as.map (Tm.app π)=us.map (Tm.app σ))(G:∀t∈as,∀n,t.has n->Good N n0 hv n)(ib:∀t∈us,aZ F.aG t){f:Nat×Nat}
  (K:∀{M S' P'},Mo F S {F with b:=(event F.b S f us F.evs picks).1} S'->Eqv Z N n0 P' (event F.b S f us F.evs picks).1 val []->Lk N n0 hv Z P' (event b Sp f as F.evs picks).1 M (ks++as) (event F.b S f us F.evs picks).1 (F.kept++us) val->(event b Sp f as F.evs picks).2=(event F.b S f us F.evs picks).2->Q):Q:=by
 obtain⟨τ,ω,V⟩:=tw E J.aw L hl C G;have l:(event b Sp f as F.evs picks).2=(event F.b S f us F.evs picks).2:=by unfold event;rw[V.kJ]
 have p:∀{π σ},fY Z N n0 F.b val [] π σ->(ks++as).map (Tm.app π)=(F.kept++us).map (Tm.app σ):=λs=>by rw[bw,bw,L.ke s,C s]
 have o:=λt m=>(nA.mp m).elim (L.kv t)<|G t;unfold event at K;refine aD4 (n:=F.evs.length+1) (picks:=picks) V.names.len (λr q=>?_) λj x y d X r q=>?_
 .rw[r,q] at K;show K (J.same) E ⟨L.mp,L.pp,p,o⟩ l
 rw[r,q] at K;have I:=eK d;have fx:=zC L.mp I;have i:=zC J.aw<|eK X;obtain⟨M,a⟩:=Gn L.mp fx;obtain⟨S',e⟩:=Gn J.aw i;have yb:aZ F.aG<|.v y:=by
  obtain⟨t,ht,hn⟩:=(qj.mp<|eK X).resolve_left eL;obtain⟨u,C,rfl⟩:=List.mem_map.mp ht;show .v<|J.old (ib u C) hn
 have g:=λ{σ}=>(a.sat σ).trans (qO λh=>(KR L.mp I (List.map_id'' qP _) rfl h).symm);have O:=λ{σ}=>(e.sat σ).trans (qO λh=>(KR J.aw I V.to (V.names.at_ j x y d X) h).symm);refine K (P':=λπ=>P π/\At (as.map<|Tm.app Sp) x (.c AD<|700+((F.evs.length+1):Int)) (as.map<|Tm.app π)) (e.mo J yb .c<|.inr (.inl ⟨y,J.aw.id y i,λz h=>h.elim⟩)) ⟨λs=>?_,λD=>D.elim λA R=>?_⟩ ⟨a.aw,λπ=>⟨λD=>D.elim λA R=>?_,λD=>D.elim λB Y=>Y.elim λh1 T=>?_⟩,λs=>p ((tU λσ=>O).mp s).2,o⟩ l
 .have s:=(tU λσ=>O).mp s;show⟨E.snd s.2,C s.2▸s.1⟩
 .obtain⟨σ,s⟩:=E.cmp A;show⟨σ,(tU λσ=>O).mpr ⟨C s▸R,s⟩⟩
 .obtain⟨B,h1,T⟩:=(L.pp π).mp A;show⟨B,g.mpr ⟨h1,Gi G T▸R⟩,T⟩
 have w:=g.mp h1;show⟨(L.pp π).mpr ⟨B,w.1,T⟩,Gi G T▸w.2⟩
variable{Fl:List Ev->Prop}(rl:Rules R Fl Dn sig picks)(hF:(∀π,¬P π)->Fl X.evs)(inj:Inj Z N)
include rl hF inj
def aCA(G:-2<=LL):∀{n c F S val M},DJ Z N lv lg LL M as->(∀k,val k≠AE↔M k)->Fr Z val as->Inv Z N n0 X lv c F S val []->Eqv Z N n0 P F.b val []->F.rest=[]->
  (∀{F' S' val'} {us:List Tm},St (λp=>p.1=97/\p.2<n) (λk=>∃t∈as,t.has k) F S val F' S' val'->as.length=us.length->(∀i T,us[i]?=AA T->F'.hold (aP<|n+i)=AA T/\aZ F'.aG T/\∀m,T.app S'=.v m->m∈F'.loose->F'.ls m<=LL)->(∀{π σ},fW F'.b val' π σ->as.map (Tm.app π)=us.map (Tm.app σ))->Inv Z N n0 X lv (jC Z lg as n c).2 F' S' val' []->Eqv Z N n0 P F'.b val' []->F'.rest=[]->R is F')->R ((jC Z lg as n c).1++is) F:=by
 induction as with
 |nil=>show λa C fr I E hr K=>K ⟨I.ok.same,λy y=>rfl,λa=>a,λk=>(lN λY=>Y.elim λy J=>J.elim λm y=>aW m).symm⟩ rfl (λy y h=>dN rfl h) (λy=>rfl) I E hr|cons t as O=>
  intro n c F S val M a C fr I E hr K;have D:Fr Z val [t]:=λk v=>⟨aA (b7 (bK _) _) (fr k v).1,λu m=>(fr k v).2 u<|JK.mp m▸.head _⟩;change R ((pD Z t (aP n) lg c).1++_++is) F;rw[bp];refine aB7 rl hF inj a.1 (λk=>(C k).mpr) G rfl I E hr D λ{r q L T} B Q I E hr=>O a.2 (λk=>(B.nw k).trans<|or_congr_left (C k)) (fr.step B λy h=>h) I E hr λ{F2 S2 val2 us} s2 hl A j I E hr=>?_;have g:=Q.mo s2 (⟨rfl,c5 n⟩) G;refine K (us:=T::us) (((B.weak (λp h=>⟨h.1,λe=>eU n (by rw[e] at h;show h.2)⟩) λy=>ju).trans<|s2.weak (λp h=>⟨h.1,qG h.2⟩) λy=>ju).weak (λy h=>h) λk=>sR (a:=t)) (aF BB hl) (λi U h=>?_) (λz=>List.cons_eq_cons.mpr ⟨g.an z,j z⟩) I E hr
  rcases i with _|i;show ai h▸⟨g.hold,g.bB,g.lv⟩;rw[bQ i 1,<-bH];show A i U h
end
def gb(l:List<|Tm×Place):Nat:=(l.map λq=>q.1.aX).sum
def Cw{q r:List<|Tm×Place}:gb (q++r)=gb q+gb r:=by unfold gb;rw[bw,JO]
section
variable{c:Cs}
def yw(J:aR t=AB):b5 Z (t::D) n c=(jc n++.kb (tP c.nt)::(b5 Z D 0 c.bh).1,(b5 Z D 0 c.bh).2.1,(t,tP c.nt)::(b5 Z D 0 c.bh).2.2):=aC J
def yv(J:aR t=AD)(h:cU Z t=AB):b5 Z (t::D) n c=b5 Z D (n+1) c:=(aB<|J▸aI).trans<|aC h
def yu(J:aR t=AD)(h:cU Z t=AD):b5 Z (t::D) n c=(jc n++((kN Z t c).1++(b5 Z D 0 (kN Z t c).2).1),(b5 Z D 0 (kN Z t c).2).2):=(aB<|J▸aI).trans<|aB (h▸aI)
end
structure Wt(D:List Tm)(r:List (Tm×Place)):Prop where
 sz:gb r<=(D.map Tm.aX).sum
 s:∀q∈r,aR q.1=AB
 mem:∀q∈r,q.1∈D
 len:r.length<=D.length
def DE:∀{n:Nat} {c:Cs},Wt D (b5 Z D n c).2.2:=by
 induction D with
 |nil=>show⟨aV _,(λy m=>aW m),(λy m=>aW m),aV _⟩|cons t D J=>
  intro n c;have B:∀{n c},Wt (t::D) (b5 Z D n c).2.2:=⟨by rw[da,qC];show aA J.sz<|bU _ _,J.s,λq m=>.tail _<|J.mem q m,eM J.len⟩
  rcases hs:aR t with _|_
  .rcases h:cU Z t with _|_
   .rw[yu hs h];show B
   rw[yv hs h];show B
  rw[yw hs];show⟨by rw[da,qC];show b7 J.sz _,λq m=>(JJ.mp m).elim (λe=>e▸hs)<|J.s q,λq m=>(JJ.mp m).elim (λe=>e▸.head _) λm=>.tail _<|J.mem q m,bj J.len⟩
def Cy(h:aR t=AB):((af t).map Tm.aX).sum+1=t.aX:=by
 rcases t with _|_|⟨f,x⟩|⟨f,x,y⟩
 .show(aI h).elim
 .show(aI h).elim
 rfl;rfl
def Pe.tp(e:Pe):Tm×Place:=(e.t,e.p.getD (0,0))
def aDK(S:Sb)(L:List Nat):iE<|NL S L:=⟨λy y h=>h,λy y y h=>⟨λx q=>h x<|.inl q,λx q=>h x<|.inr q⟩⟩
variable{es:List Pe}{r:List Tm}{x:Tm}
section
variable{c:Cs}
def Fs(J:aR t=AB):cU Z t=AD:=by
 rcases t with _|_
 .show(aI J).elim
 all_goals rfl
def zU(h:(a=AB/\cU Z t=AB)\/x=y)(J:cU Z t=AD):x=y:=h.resolve_left λq=>aI<|J.symm.trans q.2
section
variable(ht:aR t=AB)
def EO(J:t.WT):(af t).length=ar (fnOf t)/\(fnOf t=32\/fnOf t=0\/fnOf t=33):=by
 rcases t with _|_|⟨f,x⟩|⟨f,x,y⟩
 .show(aI ht).elim
 .show(aI ht).elim
 .unfold ar;rw[aC<|show fnOf (.s1 f x)=32 from J.1];show⟨rfl,.inl J.1⟩
 unfold ar;rw[aB (λq=>by rw[show f=32 from q] at J;show absurd J.1 ⋯)];show⟨rfl,.inr J.1⟩
def J8(C:t.WT)(J:aR u=AB)(B:u.WT)(e:fnOf u=fnOf t):t.app π=u.app σ↔∀e∈iL (af t) (af u),e.t.app π=e.T.app σ:=by
 rcases t with _|_|⟨f,x⟩|⟨f,x,x'⟩
 .show(aI ht).elim
 .show(aI ht).elim
 .rcases u with _|_|⟨g,y⟩|⟨g,y,z⟩
  .show(aI J).elim
  .show(aI J).elim
  .obtain rfl:=(e);show⟨λh o z=>JK.mp z▸(Tm.s1.inj h).2,λq=>aF (Tm.s1 _)<|q _ h_⟩
  show absurd (B.1) (by rw[show g=f from e,C.1];decide)
 rcases u with _|_|⟨g,y⟩|⟨g,y,y'⟩
 .show(aI J).elim
 .show(aI J).elim
 show absurd (C.1) (by rw[<-show g=f from e,B.1];decide)
 obtain rfl:=(e);show⟨λh o z=>(JJ.mp z).elim (λz=>z▸(Tm.s2.inj h).2.1) λz=>JK.mp z▸(Tm.s2.inj h).2.2,λq=>pT (q _ h_)<|q _ (.tail _ h_)⟩
def UQ(J:u.bO=AD)(h:¬(aR u=AB/\fnOf u=fnOf t)):t.app π≠u.app σ:=by
 rcases u with _|_
 .show(aI J.symm).elim
 .rcases t with _|_
  .show(aI ht).elim
  .show(aI ht).elim
  show λq=>nomatch q;show λq=>nomatch q
 .rcases t with _|_
  .show(aI ht).elim
  .show(aI ht).elim
  show λq=>h ⟨rfl,(Tm.s1.inj q).1.symm⟩;show λq=>nomatch q
 rcases t with _|_
 .show(aI ht).elim
 .show(aI ht).elim
 show λq=>nomatch q;show λq=>h ⟨rfl,(Tm.s2.inj q).1.symm⟩
end
def Ok.bind(J:Ok F S)(L:f=32\/f=0\/f=33)(T:F.b.at n=AE)(D:n<=F.aG):(∃S',Mo F S {F with b:=F.b++[(n,bo f F.aG)],rest:=r,aG:=F.aG+ar f} S'/\NL S' F.loose (bo f F.aG))/\∀σ,Sat (F.b++[(n,bo f F.aG)]) σ↔Sat F.b σ/\σ n=(bo f F.aG).app σ:=by
 have e:(bo f F.aG).app S=bo f F.aG:=xD λx q=>J.new (pJ q).1;have fr:∀x,(bo f F.aG).has x->x∉F.loose:=λx q m=>Nat.not_le.mpr (pJ q).1 (J.low x m).1;obtain⟨M,B⟩:=J.aw.bind T (e.symm▸λq=>Nat.not_le.mpr (pJ q).1 D) λy q=>by have:=(Gx (f:=f) (n:=F.aG)).1;rw[q] at this;show(aI this).elim
 rw[e] at M;have d:=HE (g:=F.ls) (y:=n)<|.inl fr;refine⟨⟨_,⟨⟨M,λp C=>(nA.mp C).elim (λq=>⟨(J.cR p q).1.mono<|aY _ _,(J.cR p q).2.mono<|aY _ _⟩) λq=>(JK.mp q).symm▸⟨.v<|aA D (aY _ _),zG L⟩,λx m=>⟨aA (J.low x m).1<|aY _ _,(J.low x m).2⟩⟩,aY _ _,λo=>d.nl λo=>rfl,λo=>d.ni λo=>rfl,⟨rfl,rfl,rfl⟩,λo z m=>d.vl (λo=>rfl) z m,λσ h=>((B σ).mp h).1⟩,d.nl (λo=>rfl) (by unfold NL;rw[e];show fr)⟩,B⟩
def aF5{l:List Pe}:fY Z N n0 b val (l++pd) π σ↔(∀e∈l,(e.h=AB/\cU Z e.t=AB)\/e.t.app π=e.T.app σ)/\fY Z N n0 b val pd π σ:=⟨λs=>⟨λe m=>s.pd e<|gF _ m,s.sat,s.ag,s.vc,λe m=>s.pd e<|gn _ m⟩,λJ=>J.elim λq s=>⟨s.sat,s.ag,s.vc,λe m=>(nA.mp m).elim (q e)<|s.pd e⟩⟩
def Hq:fY Z N n0 b val (iL D Ts++pd) π σ↔(∀e∈iL D Ts,e.t.app π=e.T.app σ)/\fY Z N n0 b val pd π σ:=aF5.trans<|and_congr_left λy=>⟨λh e m=>mU (h e m) (DH m).2.2.2,λh e m=>.inr<|h e m⟩
def Inv.parts(I:Inv Z N n0 X lv c F S val pd)(vs:∀k,t.has k->k<N)(B:aZ F.aG u)(J:NL S F.loose u):Inv Z N n0 X lv c F S val<|iL (af t) (af u)++pd:=⟨I.ok,I.sp,I.fx,I.an,I.seen,I.sv,I.vk,I.nt,I.yh,λe m=>(nA.mp m).elim (λm=>
 have z:=DH m;have y:=nL (aDK S F.loose) J e.T z.2.1
 ⟨nL (Fg _) B e.T z.2.1,.inr y,λq=>y,λp h=>dN z.2.2.1 h,λk h=>vs k<|iG z.1 h⟩)<|I.pk e⟩
end
section
variable{c:Cs}
def Eqv.new(I:Inv Z N n0 X lv c F S val<|e::pd)(E:Eqv Z N n0 P F.b val<|e::pd)(C:aR e.t=AB)(D:e.t.WT)(w:Walk F.b e.T<|.v n)(J:∀σ,Sat b' σ↔Sat F.b σ/\σ n=(bo (fnOf e.t) F.aG).app σ):Eqv Z N n0 P b' val<|iL (af e.t) (af<|bo (fnOf e.t) F.aG)++pd:=by
 have q:=I.pk e h_;refine⟨λs=>?_,λp=>?_⟩
 .have s1:=Hq.mp s;have s2:=(tU J).mp s1.2;show E.snd<|mh.mpr ⟨.inr<|w.sat s2.2.sat▸ub▸s2.1▸(DI C D).mpr s1.1,s2.2⟩
 obtain⟨σ,s⟩:=E.cmp p;rename_i π;have O:=zU (s.pd e h_)<|Fs C;obtain⟨τ,B⟩:=O9 C D;have lo:∀m,m<=F.aG->(λm=>if m<=F.aG then σ m else τ m) m=σ m:=λm h=>aC h
 have hn:(bo (fnOf e.t) F.aG).app (λm=>if m<=F.aG then σ m else τ m)=(bo (fnOf e.t) F.aG).app τ:=app_congr λm h=>aB<|Nat.not_le.mpr (pJ h).1
 have Y:σ n=(bo (fnOf e.t) F.aG).app τ:=by rw[<-B,O,w.sat s.sat];rfl
 have G:=(w.c7 I.ok.cR q.bB).lo n rfl;refine⟨λm=>if m<=F.aG then σ m else τ m,Hq.mpr ⟨(DI C D).mp<|B.trans hn.symm,(J _).mpr ⟨λx t h=>?_,hn▸Y▸aC G⟩,λm h1 L=>(lo m<|aA L I.sp).trans<|s.ag m h1 L,λk t h=>(s.vc k t h).trans (qk (I.vk k t h).bB lo).symm,λM m=>qk (I.pk M<|.tail _ m).bB lo▸s.pd M (.tail _ m)⟩⟩
 have r:=I.ok.cR _<|nN h;show(lo x<|r.1.lo x rfl).trans<|(s.sat x t h).trans (qk r.2 lo).symm
variable{Fl:List Ev->Prop}(rl:Rules R Fl Dn sig picks)(hF:(∀π,¬P π)->Fl X.evs)
include rl hF
def YE(I:Inv Z N n0 X lv c F S val<|e::pd)(E:Eqv Z N n0 P F.b val<|e::pd)(J:aR e.t=AB)(D:e.t.WT)(C:F.hold p=AA e.T)(M:F.rest=[])
  (K:∀{F' S' Ts},Inv Z N n0 X lv c F' S' val (iL (af e.t) Ts++pd)->Eqv Z N n0 P F'.b val (iL (af e.t) Ts++pd)->(af e.t).length=Ts.length->F'.rest=Ts->R is F'):R (lE (fnOf e.t) p::is) F:=by
 obtain⟨u,w⟩:=I.ok.aw.walks e.T;have q:=I.pk e h_;have al:=EO J D;have B:=w.c7 I.ok.cR q.bB;rcases hv:u.bO with _|_
 .by_cases h:aR u=AB/\fnOf u=fnOf e.t
  .have nl:=((Gy I.ok w).mpr q.ni).elim (λz=>by
    rcases u with _|_
    .show(aI hv.symm).elim
    all_goals show(aI z).elim) id
   show rl.MT M C w I.ok.aw I.ok.cR q.bB al.2 h.1 h.2<|K ((I.tl.mo (I.ok.more) (λy y=>rfl) λy y h=>h).parts q.vs (B.mono<|aY _ _) nl) (E.iff<|mh.trans (.trans (and_congr_left λz=>w.sat z.sat▸⟨λo=>(J8 J D h.1 B.wt h.2).mp<|zU o (Fs J),λo=>.inr<|(J8 J D h.1 B.wt h.2).mpr o⟩) Hq.symm)) (al.1.trans<|(EO h.1 B.wt).1▸h.2▸rfl) rfl
  show rl.MS M C w I.ok.aw I.ok.cR q.bB al.2 hv h<|I.fx.1▸hF (PE E λs=>UQ J hv h<|w.sat s.sat▸zU (s.pd e h_) (Fs J))
 refine gA hv λn hn=>?_;subst hn;obtain⟨⟨S',m,nl⟩,L⟩:=I.ok.bind al.2 (w.free n rfl)<|B.lo n rfl;show rl.MU M C w I.ok.aw I.ok.cR q.bB al.2<|K ((I.tl.mo m (λy y=>rfl) λy y h=>h).parts q.vs (zG al.2) nl) (Eqv.new I E J D w L) (al.1.trans<|(aF ar Gx.2.symm).trans (EO Gx.1 (zG al.2).wt).1.symm) rfl
end
variable{l':List Tm}
def mV:dz k (l++l')=dz k l+dz k l':=by
 induction l with
 |nil=>show(cT _).symm|cons t l J=>change cg k t+dz k (l++l')=_;rw[J,<-bH];rfl
def Nw(B:Nat->Option Tm)(A:Nat->Prop)(J:Nat->Option Tm):Prop:=∀k,J k≠AE↔B k≠AE\/A k
abbrev KN(Z:Pl)(N C:Nat)(X:Bs)(lv:Nat->Prop)(R:List bN->FS->Prop)(is:List bN)(J:Nat->Option Tm)(A:Nat->Prop)(c:Cs)(B:List Pe)(P:Sb->Prop)(r:List Tm):Prop:=∀{F':FS} {S':Sb} {val':Nat->Option Tm},Nw J A val'->Inv Z N C X lv c F' S' val' B->Eqv Z N C P F'.b val' B->F'.rest=r->R is F'
abbrev KF(Z:Pl)(N C:Nat)(X:Bs)(lv:Nat->Prop)(R:List bN->FS->Prop)(is:List bN)(ws:List Tm)(J:Nat->Option Tm)(A:Nat->Prop)(c:Cs)(B:List Pe)(P:Sb->Prop)(r:List Tm):Prop:=∀{F':FS} {S':Sb} {val':Nat->Option Tm},Nw J A val'->Fr Z val' ws->Inv Z N C X lv c F' S' val' B->Eqv Z N C P F'.b val' B->F'.rest=r->R is F'
def Nw.trans(a:Nw val A val')(b:Nw val' A' val2):Nw val (λk=>A k\/A' k) val2:=λk=>by rw[b k,a k,or_assoc]
def Nw.weak(a:Nw val A val')(h:∀k,A k↔A' k):Nw val A' val':=λk=>(a k).trans<|or_congr_right (h k)
def Nw.id:Nw val (λy=>False) val:=λk=>(lN λh=>h).symm
section
variable{c:Cs}
def Fr.mono(f:Fr Z val l)(h:∀k,dz k l'<=dz k l)(m:∀t∈l',t∈l):Fr Z val l':=λk v=>⟨aA (h k) (f k v).1,λt q=>(f k v).2 t<|m t q⟩
def Fr.nw(f:Fr Z val<|t::l)(s:Nw val A val')(a:∀k,A k->t.has k):Fr Z val' l:=λk v=>⟨aA (bU _ _) (f k v).1,λu m J=>ij λz=>((s k).mp z).elim (λz=>z<|(f k v).2 u (.tail _ m) J) λz=>lT (f k v).1 (gW<|a k z)<|jn m J⟩
def lL(J:val k=AE):Nw val (λj=>k=j)<|fu val k t:=vU J
def Inv.wait(I:Inv Z N n0 X lv c F S val<|e::pd)(B:e.h=AD):Inv Z N n0 X lv c.bh {F with hold:=pt F.hold (tP c.nt) e.T,rest:=r} S val<|⟨e.t,e.T,AA<|tP c.nt,AD⟩::pd:=by
 have q:=I.pk e h_;have J_:=(I.tl.mo (I.ok.same (h:=pt F.hold (tP c.nt) e.T) (r:=r)) (λp z=>aB (z.elim (λ⟨k,t,a,_,z⟩=>z▸(hW (I.vk k t a).lt<|.inr ⟨rfl,I.nt⟩).symm) λ⟨J,m,z⟩ y=>((I.tl.pk J m).kW p z).2.elim (λh=>by rw[y] at h;show absurd h<|show ¬116=97 by decide) λh=>by rw[y] at h;show eU _ h.2.2)) λn t z=>(aB (λe=>absurd (aF As e)<|show ¬121=116 by decide):pt F.hold (tP c.nt) e.T (yP n)=F.hold (yP n))▸z).bh
 show⟨J_.ok,J_.sp,J_.fx,J_.an,J_.seen,J_.sv,J_.vk,J_.nt,J_.yh,λJ m=>(JJ.mp m).elim (λz=>z▸⟨q.bB,q.ni,λo=>q.nl B,λp h=>ai h▸⟨aC rfl,.inr ⟨rfl,I.nt,c5 _⟩⟩,q.vs⟩)<|J_.pk J⟩
def Eqv.wait{p:Option Place}(E:Eqv Z N n0 P b val<|e::pd)(J:e.h=AD):Eqv Z N n0 P b val<|⟨e.t,e.T,p,AD⟩::pd:=E.iff<|mh.trans ((and_congr_left λy=>⟨λh=>.inr<|mU h J,λh=>.inr<|mU h rfl⟩).trans (mh).symm)
def Eqv.perm(E:Eqv Z N n0 P b val pd)(h:∀e,e∈pd'↔e∈pd):Eqv Z N n0 P b val pd':=E.iff ⟨λs=>⟨s.sat,s.ag,s.vc,λe m=>s.pd e<|(h e).mp m⟩,λs=>⟨s.sat,s.ag,s.vc,λe m=>s.pd e<|(h e).mpr m⟩⟩
variable{Fl:List Ev->Prop}(rl:Rules R Fl Dn sig picks)(hF:(∀π,¬P π)->Fl X.evs)(inj:Inj Z N)
include rl hF
theorem FF(B:F.rest.drop n=Ts)(J:n<=F.rest.length)(K:R is {F with rest:=Ts}):R (jc n++is) F:=by
 unfold jc;by_cases h:n=0
 .rw[aC h];rw[h] at B;subst B;show K
 rw[aB h];show rl.oL (λe=>h<|Nat.le_zero.mp (by rw[e] at J;show J)) J<|B.symm▸K
include inj
def aCZ(I:Inv Z N n0 X lv c F S val<|e::pd)(E:Eqv Z N n0 P F.b val<|e::pd)(Y:F.rest=e.T::r)(G:aR e.t=AD)(B:cU Z e.t=AD)(C:e.h=AD)(d:∀k,e.t.has k->Z.void k=AD->lv k)
  (K:KN Z N n0 X lv R is val (e.t.has ·) (kN Z e.t c).2 pd P r):R ((kN Z e.t c).1++is) F:=by
 have q:=I.pk e h_;rcases ht:e.t with k|⟨k,z⟩|⟨f,x⟩|⟨f,x,y⟩
 .rw[ht] at K B d;have B:=B;have lt:=q.vs k<|ht▸rfl;have L:=d k rfl B;change R ((pG Z k c).1++is) F;have K:KN Z N n0 X lv R is val (λj=>k=j) (pG Z k c).2 pd P r:=K;unfold pG at K ⊢;by_cases hk:k∈c.seen
  .rw[aC hk] at K ⊢;obtain⟨t,J⟩:=I.sv k hk;have v:=I.vk k t J;have y:=v.nv B;have g:∀{π σ},fW F.b val π σ->e.t.app π=t.app σ:=λa=>ht▸a.2 k t J;have Q:Nw val (λj=>k=j) val:=λj=>⟨.inl,λh=>h.elim id λe=>e▸λz=>dN z J⟩;by_cases A:k∈c.loc
   .rw[aC A] at K ⊢;show OX rl hF (.inl rfl) I E Y C (y.hold L) v.bB y.ni g λo o o I E=>K Q I E rfl
   rw[aB A] at K ⊢;show IB rl hF (.inl rfl) I E Y C (y.hold L) v.bB (y.nl A) g λo o I E=>K Q I E rfl
  rw[aB hk] at K ⊢;have hn:=I.seen k B hk;have u:=q.nl C;show rl.kb Y q.bB<|K (lL hn) (I.tl.new inj hn lt B q.bB q.ni (λo=>u) (λn z m=>absurd m<|u n (by rw[z];rfl)) rfl rfl (λj o m m'=>m m') (aC rfl) λp q o=>aB q) (E.var ht (.inl C) hn) rfl
 .rw[ht] at K;have D:∀{π σ:Sb},Sat F.b σ->(∀k t,val k=AA t->π k=t.app σ)->(((e.h=AB/\cU Z e.t=AB)\/e.t.app π=e.T.app σ)↔e.T.app σ=(Tm.c k z).app σ):=λo o=>ht.symm▸⟨λh=>(mU h C).symm,λh=>.inr h.symm⟩;have O:Way S F.loose F.ls e.T<|.c k z:=.inl ⟨q.nl C,λo h=>h.elim⟩;show rl.oJ Y I.ok.aw I.ok.cR q.bB (λM=>K Nw.id (I.tl.meet M q.bB .c O) (E.met M D) rfl) λU=>I.fx.1▸hF (E.pv U D)
 .rw[ht] at G;show nomatch G
 rw[ht] at G;show nomatch G
end
section
variable{c:Cs}
def Wq(e:Pe):Prop:=aR e.t=AB/\e.p=AA e.tp.2/\e.h=AD
def Wv(f:Fr Z val<|t::l++ws):Fr Z val<|l++t::ws:=f.mono (λk=>by
 change dz k (l++t::ws)<=cg k t+dz k (l++ws);rw[mV,mV];show bJ<|Dy _ _ _) λu m=>(nA.mp m).elim (λm=>.tail _<|gF _ m) λm=>(JJ.mp m).elim (λe=>e▸.head _) λm=>.tail _<|gn _ m
def aCu(f:Fr Z val<|l++t::ws):Fr Z val<|t::l++ws:=f.mono (λk=>by
 change cg k t+dz k (l++ws)<=dz k (l++t::ws);rw[mV,mV];show bJ<|Dy _ _ _) λu m=>(JJ.mp m).elim (λe=>e▸gn _ h_) λm=>(nA.mp m).elim (λm=>gF _ m) λm=>gn _<|.tail _ m
variable{Fl:List Ev->Prop}(rl:Rules R Fl Dn sig picks)(hF:(∀π,¬P π)->Fl X.evs)(inj:Inj Z N)
include rl hF inj
def aCY:∀{n c F S val Ts pd ws},Inv Z N n0 X lv c F S val (iL as Ts++pd)->Eqv Z N n0 P F.b val (iL as Ts++pd)->as.length=Ts.length->F.rest.drop n=Ts->n<=F.rest.length->Fr Z val (as++ws)->(∀t∈as,∀k,t.has k->Z.void k=AD->lv k)->
  (∀{F' S' val' es},es.map Pe.tp=(b5 Z as n c).2.2->(∀e∈es,Wq e)->es.map (·.t)=as.filter aR->Nw val (λk=>∃t∈as,aR t=AD/\t.has k) val'->Fr Z val' (es.map (·.t)++ws)->Inv Z N n0 X lv (b5 Z as n c).2.1 F' S' val' (es++pd)->Eqv Z N n0 P F'.b val' (es++pd)->F'.rest=[]->R is F')->R ((b5 Z as n c).1++is) F:=by
 induction as with
 |nil=>
  intro n c F S val Ts pd ws I E hl hd hn fr _ K;obtain rfl:=TG.mp hl.symm;show FF rl hF hd hn<|K rfl (λy m=>aW m) rfl (Nw.id.weak λk=>⟨AM,λD=>D.elim λy J=>J.elim λm y=>aW m⟩) fr I.same E rfl
 |cons t as O=>
  intro n c F S val Ts pd ws I E hl hd hn fr al K;rcases Ts with _|⟨T,Ts⟩;show nomatch hl;have L:=oW hl;have M:=λt m=>al t<|.tail _ m;have q:=I.pk _ h_;rcases hs:aR t with _|_
  .have ff:∀{l:List Tm},l=as.filter aR->l=(t::as).filter aR:=λe=>by rw[uM (by rw[hs];show aI)];show e
   have Q:∀{A:Nat->Prop} {C val2:Nat->Option Tm},Nw val (t.has ·) C->Nw C (λk=>∃t∈as,aR t=AD/\t.has k) val2->Nw val (λk=>∃u∈t::as,aR u=AD/\u.has k) val2:=λa b=>(a.trans b).weak λk=>⟨λh=>h.elim (λh=>⟨t,.head _,hs,h⟩) λD=>D.elim λu J=>J.elim λm h=>⟨u,.tail _ m,h⟩,λ⟨u,m,h⟩=>(JJ.mp m).elim (λe=>.inl<|e▸h.2) λm=>.inr ⟨u,m,h⟩⟩;rcases hv:cU Z t with _|_
   .rw[yu hs hv] at K ⊢;rw[bp,bp];show FF rl hF hd hn<|aCZ rl hF inj (I.same) E rfl hs hv rfl (al t h_) λG I E q=>O I E L q (bK _) (Fr.nw fr G λy h=>h) M λq z f Y=>K q z (ff f) (Q (A:=λy=>True) G Y)
   rw[yv hs hv] at K ⊢;have lt:=D1 λq=>by rw[Dk q] at hd;show nomatch hd
   rcases t with k|_
   .have hn0:=(fr k hv).2 _ h_ rfl;have G:Nw val ((Tm.v k).has ·)<|fu val k T:=lL hn0;show O (I.tl.ghost hn0 q.bB (q.vs k rfl) hv) (E.var rfl (.inl rfl) hn0) L (by rw[<-I7,hd];rfl) lt (Fr.nw fr G λy h=>h) M λq z f Y=>K q z (ff f)<|Q (A:=λy=>True) G Y
   all_goals show(aI hv).elim
  rw[yw hs] at K ⊢;rw[bp];refine FF rl hF hd hn<|rl.kb rfl q.bB ?_;have B:∀{l:List Pe} {e},e∈l++⟨t,T,AA<|tP c.nt,AD⟩::pd↔e∈⟨t,T,AA<|tP c.nt,AD⟩::(l++pd):=List.perm_middle.mem_iff;show O (((I.same).wait rfl).perm λe=>B.mp) ((E.wait rfl).perm λe=>B) L rfl (bK _) (Wv fr) M λ{F' S' val' es} q z f Y fr I E=>K (es:=⟨t,T,AA<|tP c.nt,AD⟩::es) (aF (B6 _) q) (λe m=>(JJ.mp m).elim (λq=>q▸⟨hs,rfl,rfl⟩)<|z e) (by rw[uN hs,<-f];rfl) (Y.weak λk=>⟨λD=>D.elim λu J=>J.elim λm h=>⟨u,.tail _ m,h⟩,λD=>D.elim λu J=>J.elim λm h=>(JJ.mp m).elim (λe=>absurd (hs.symm.trans<|e▸h.1) ⋯) λm=>⟨u,m,h⟩⟩) (aCu fr) (I.perm λe=>B.mpr)<|E.perm λe=>B.symm
end
section
variable{c:Cs}
def Wu(B:aR t=AB)(f:Fr Z val<|t::l):Fr Z val<|af t++l:=λk v=>⟨by rw[mV,PO B];show(f k v).1,λu m J=>(nA.mp m).elim (λm=>(f k v).2 t h_<|iG m J) λm=>(f k v).2 u (.tail _ m) J⟩
structure Wm(N:Nat)(Z:Pl)(lv:Nat->Prop)(e:Pe):Prop where
 q:Wq e
 wt:e.t.WT
 al:∀k,e.t.has k->Z.void k=AD->lv k
def SG(h:t.WT):∀x∈af t,x.WT:=by
 rcases t with _|_|⟨f,x⟩|⟨f,x,y⟩;show λq m=>aW m;show λq m=>aW m;show λy m=>JK.mp m▸h.2;show λz m=>(JJ.mp m).elim (λe=>e▸h.2.1) λm=>JK.mp m▸h.2.2
def KG(B:aR t=AB):(∃x∈af t,x.has k)↔t.has k:=⟨λC=>C.elim λx J=>J.elim λm h=>iG m h,λh=>by
 rcases t with _|_|⟨f,x⟩|⟨f,x,y⟩
 .show(aI B).elim
 .show(aI B).elim
 .show⟨x,.head _,h⟩
 show h.elim (λh=>⟨x,.head _,h⟩) λh=>⟨y,.tail _ h_,h⟩⟩
variable{Fl:List Ev->Prop}(rl:Rules R Fl Dn sig picks)(hF:(∀π,¬P π)->Fl X.evs)(inj:Inj Z N)
include rl hF inj
def PX(I:Inv Z N n0 X lv c F S val<|e::pd)(E:Eqv Z N n0 P F.b val<|e::pd)(G:aR e.t=AB)(Q:e.t.WT)(C:F.hold p=AA e.T)(O:F.rest=[])(j:∀k,e.t.has k->Z.void k=AD->lv k)(A:Fr Z val<|e.t::ws)
  (K:∀{F' S' val' es},es.map Pe.tp=(b5 Z (af e.t) 0 c).2.2->(∀e∈es,Wm N Z lv e)->Nw val (λk=>∃t∈af e.t,aR t=AD/\t.has k) val'->(∀k,(∃J∈es,J.t.has k)↔∃t∈af e.t,aR t=AB/\t.has k)->Fr Z val' (es.map (·.t)++ws)->Inv Z N n0 X lv (b5 Z (af e.t) 0 c).2.1 F' S' val' (es++pd)->Eqv Z N n0 P F'.b val' (es++pd)->F'.rest=[]->R is F'):R (lE (fnOf e.t) p::(b5 Z (af e.t) 0 c).1++is) F:=by
 refine YE rl hF I E G Q C O λI E hl q=>aCY rl hF inj I E hl q (bK _) (Wu G A) (λt m k h=>j k<|iG m h) λ{F' S' val' M} q z f r A I E O=>?_;have D:∀J∈M,J.t∈af e.t:=λJ m=>(List.mem_filter.mp<|f▸rY m).1;show K q (λJ m=>⟨z J m,SG Q _<|D J m,λk h=>j k<|iG (D J m) h⟩) r (λk=>⟨λY=>Y.elim λJ B=>B.elim λm h=>⟨J.t,D J m,(z J m).1,h⟩,λY=>Y.elim λt B=>B.elim λm L=>L.elim λG h=>by
  have v:t∈M.map (·.t):=by rw[f];show List.mem_filter.mpr ⟨m,G⟩
  obtain⟨J,u,rfl⟩:=List.mem_map.mp v;show⟨J,u,h⟩⟩) A I E O
def aCj:∀{n es c F S val},Inv Z N n0 X lv c F S val (es++pd)->Eqv Z N n0 P F.b val (es++pd)->(∀e∈es,Wm N Z lv e)->gb (es.map Pe.tp)<=n->F.rest=[]->Fr Z val (es.map (·.t)++ws)->
  (KF Z N n0 X lv R is ws val (λk=>∃e∈es,e.t.has k) (jE Z n (es.map Pe.tp) c).2 pd P [])->R ((jE Z n (es.map Pe.tp) c).1++is) F:=by
 intro n
 induction n with
 |zero=>
  intro es c F S val I E O Y hr fr K;rcases es with _|⟨e,es⟩;show K (Nw.id.weak λk=>⟨AM,λT=>T.elim λy J=>J.elim λm y=>aW m⟩) fr I E hr;show absurd (aA e.t.kZ<|aA (aY _ _) Y)<|jy 0
 |succ n r=>
  intro es c F S val I E O Y hr fr K;rcases es with _|⟨e,es⟩;show K (Nw.id.weak λk=>⟨AM,λT=>T.elim λy J=>J.elim λm y=>aW m⟩) fr I E hr;have L:=O e h_;have u:=DE (Z:=Z) (D:=af e.t) (n:=0) (c:=c);change R (lE (fnOf e.t) e.tp.2::((b5 Z (af e.t) 0 c).1++(jE Z n (es.map Pe.tp++_) _).1)++is) F;rw[uK,bp];refine PX rl hF inj (ws:=es.map (·.t)++ws) I E L.q.1 L.wt ((I.pk e h_).kW _ L.q.2.1).1 hr L.al fr λ{F' S' val' B} q z j A fr I E hr=>?_;have G:∀{e:Pe},e∈(es++B)++pd↔e∈B++(es++pd):=by
   intro e;rw[bp,nA,nA,nA,nA,or_left_comm]
  have K:∀{F' S' val'},Nw val (λk=>∃C∈e::es,C.t.has k) val'->Fr Z val' ws->Inv Z N n0 X lv (jE Z n (es.map Pe.tp++(b5 Z (af e.t) 0 c).2.2) (b5 Z (af e.t) 0 c).2.1).2 F' S' val' pd->_:=K;have hk:es.map Pe.tp++(b5 Z (af e.t) 0 c).2.2=(es++B).map Pe.tp:=by rw[bw,q]
  rw[hk] at K ⊢;refine r (I.perm λe=>G.mp) (E.perm λe=>G) (λe m=>(nA.mp m).elim (λm=>O e<|.tail _ m)<|z e) (by
   have a:gb (es.map Pe.tp)+gb (B.map Pe.tp)+1<=e.t.aX+gb (es.map Pe.tp):=by rw[bQ e.t.aX,bH,<-Cy L.q.1];show b7 (bj<|q.symm▸u.sz) _
   rw[bw,Cw];show gN<|aA a Y) hr (fr.mono (λk=>by rw[bw,mV,mV,mV,mV];show bJ<|(bH _ _ _).trans (Dy _ _ _)) λt m=>by
    rw[bw,bp] at m;show(nA.mp m).elim (λm=>gn _<|gF _ m) λm=>(nA.mp m).elim (λm=>gF _ m) λm=>gn _<|gn _ m) λs fr I E hr=>K ((j.trans s).weak λk=>?_) fr I E hr
  have a:=KG (k:=k) L.q.1;have h1:=A k;constructor
  show λh=>h.elim (λT=>T.elim λt J=>J.elim λm M=>M.elim λy h=>⟨e,.head _,a.mp ⟨t,m,h⟩⟩) λT=>T.elim λC J=>J.elim λm h=>(nA.mp m).elim (λm=>⟨C,.tail _ m,h⟩) λm=>(h1.mp ⟨C,m,h⟩).elim λt z=>⟨e,.head _,a.mp ⟨t,z.1,z.2.2⟩⟩
  rintro ⟨C,m,h⟩
  rcases JJ.mp m with m|m
  .subst m;obtain⟨t,Q,ht⟩:=a.mpr h;rcases hs:aR t with _|_;show .inl ⟨t,Q,hs,ht⟩;show .inr<|(h1.mpr ⟨t,Q,hs,ht⟩).elim λC z=>⟨C,gn _ z.1,z.2⟩
  show .inr ⟨C,gF _ m,h⟩
end
variable{r:Place}
section
variable{c:Cs}
variable{Fl:List Ev->Prop}(rl:Rules R Fl Dn sig picks)(hF:(∀π,¬P π)->Fl X.evs)(inj:Inj Z N)
include rl hF inj
def aCk(I:Inv Z N n0 X lv c F S val<|e::pd)(E:Eqv Z N n0 P F.b val<|e::pd)(B:aR e.t=AB)(O:e.t.WT)(C:F.hold r=AA e.T)(L:F.rest=[])(u:∀k,e.t.has k->Z.void k=AD->lv k)(M:Fr Z val<|e.t::ws)
  (K:KF Z N n0 X lv R is ws val (e.t.has ·) (kO Z e.t r c).2 pd P []):R ((kO Z e.t r c).1++is) F:=by
 have j:=DE (Z:=Z) (D:=af e.t) (n:=0) (c:=c);have Q:=Cy B;unfold kO at K ⊢;rw[<-Q] at K ⊢;generalize hn:((af e.t).map Tm.aX).sum=n at K ⊢;change R (lE (fnOf e.t) r::((b5 Z (af e.t) 0 c).1++(jE Z n (b5 Z (af e.t) 0 c).2.2 _).1)++is) F;rw[uK,bp];refine PX rl hF inj I E B O C L u M λq z A Y M I E L=>?_;have K:KF Z N n0 X lv R is ws val (e.t.has ·) (jE Z n (b5 Z (af e.t) 0 c).2.2 (b5 Z (af e.t) 0 c).2.1).2 pd P []:=K;rw[<-q] at K ⊢;refine aCj rl hF inj I E z (hn▸q.symm▸j.sz) L M λs M I E L=>K ((A.trans s).weak λk=>?_) M I E L;have a:=KG (k:=k) B;rw[Y k,<-a];constructor
 show λh=>h.elim (λG=>G.elim λt J=>J.elim λm h=>⟨t,m,h.2⟩) λG=>G.elim λt J=>J.elim λm h=>⟨t,m,h.2⟩
 rintro ⟨t,m,h⟩
 rcases B:aR t with _|_;show .inl ⟨t,m,B,h⟩;show .inr ⟨t,m,B,h⟩
end
section
variable{c:Cs}
variable{Fl:List Ev->Prop}(rl:Rules R Fl Dn sig picks)(inj:Inj Z N)
include rl inj
def Cg(I:Inv Z N n0 X lv c F S val [])(Y:val k=AE)(M:Z.void k=AD)(L:k<N)(B:aZ F.aG T)(J:NL S F.loose T)(C:F.hold r=AA T)(E:F.rest=[])(A:Z.perm k=AD->r=place Z k)
  (K:∀{h},Inv Z N n0 X lv (c.dA k) {F with hold:=h} S (fu val k T) []->R is {F with hold:=h}):R ((settle Z k r c).1++is) F:=by
 have D:∀{h:Place->Option Tm},h (place Z k)=AA T->(∀p,p≠place Z k->h p=F.hold p)->Inv Z N n0 X lv (c.dA k) {F with hold:=h} S (fu val k T) []:=λO G=>I.new inj Y L M B (.inr J) (λy=>J) (λn z m=>absurd m<|J n (by rw[z];rfl)) rfl rfl (λy y m=>m) O λp q y=>G p q
 unfold settle;by_cases q:Z.perm k=AB
 .rw[aC q];show rl.getVar E C B<|K (D (aC rfl) λp h=>aB h)
 rw[aB q];show K<|D (A (Bool.eq_false_iff.mpr q)▸C) λy y=>rfl
theorem xv(J:N<=c.nt):((bD Z k c).1=tP c.nt/\(bD Z k c).2=c.bh/\Z.perm k=AB)\/((bD Z k c).1=place Z k/\(bD Z k c).2=c/\(bD Z k c).1=tP k/\Z.perm k=AD):=by
 unfold bD;by_cases q:Z.perm k=AB
 .rw[aC q];show .inl ⟨rfl,rfl,q⟩
 rw[aB q];show .inr ⟨(aB q).symm,rfl,rfl,Bool.eq_false_iff.mpr q⟩
def yJ(I:Inv Z N n0 X lv c F S val [])(E:Eqv Z N n0 P F.b val [])(B:F.rest=[])(J:Z.void k=AD)(M:k∉c.seen)(D:k<N)
  (K:∀{F' val'},Nw val (λj=>k=j) val'->Inv Z N n0 X lv (c9 Z k c).2 F' S val' []->Eqv Z N n0 P F'.b val' []->F'.rest=[]->R is F'):R ((c9 Z k c).1++is) F:=by
 have hn:=I.seen k J M;unfold c9 at K ⊢;rw[aB<|J▸aI] at K ⊢;have fr:=xv rl inj (k:=k) I.nt;have C:(bD Z k c).1.1=116:=fr.elim (λh=>h.1▸rfl) λh=>h.2.2.1▸rfl;have ne:∀{j t},val j=AA t->Z.void j=AD->(bD Z k c).1≠place Z j:=λ{j t} a v=>fr.elim (λh=>h.1▸hW (I.vk j t a).lt (.inr ⟨rfl,I.nt⟩)) λh e=>dN hn<|inj k j D (I.vk j t a).lt J v (h.1.symm.trans e)▸a;have L:Mo F S {F with hold:=pt F.hold (bD Z k c).1<|.v (F.aG+1),rest:=F.rest,aG:=F.aG+1} S:=I.ok.more;have T:=I.mo L (λp z=>aB (z.elim (λ⟨j,t,a,v,z⟩=>z▸(ne a v).symm) λ⟨_,m,_⟩=>nomatch m)) λn t z=>(aB (λe=>absurd ((aF As e).trans C)<|show ¬121=116 by decide):pt F.hold (bD Z k c).1 _ (yP n)=F.hold (yP n))▸z
 have G:=fr.elim (λh=>h.2.1▸T.bh) λh=>h.2.1.symm▸T;show rl.mX B (λe=>absurd (C.symm.trans e) ⋯)<|Cg rl inj G hn J D (.v<|aV _) (I.ok.fresh<|c5 _) (aC rfl) B (λq=>fr.elim (λh=>absurd (h.2.2.symm.trans q) ⋯) λh=>h.1) λJ_=>K (vU hn) J_ (E.zJ I hn) B
end
section
variable{c:Cs}
variable{Fl:List Ev->Prop}(rl:Rules R Fl Dn sig picks)
theorem aEH(J:k<N)(h:N<=m):tP m≠place Z k:=hW J<|.inr ⟨rfl,h⟩
include rl
section
variable(I:Inv Z N n0 X lv c F S val [])(hr:F.rest=[])(hv:Z.void k=AD)(hk:k∈c.seen)(al:lv k)
def Qx(E:r.1=116)(M:∀j t,val j=AA t->Z.void j=AD->place Z j≠r)
  (K:∀{F' T},F'.b=F.b->F'.rest=[]->Inv Z N n0 X lv c F' S val []->F'.hold r=AA T->aZ F'.aG T->NL S F'.loose T->(∀{π σ},fW F.b val π σ->π k=T.app σ)->R is F'):R (s6 Z k r c::is) F:=by
 obtain⟨t,ht⟩:=I.sv k hk;have v:=I.vk k t ht;have y:=v.nv hv;have L:∀{h:Place->Option Tm} {T:Tm} {p},((∃k t,val k=AA t/\Z.void k=AD/\p=place Z k)\/∃e∈([]:List Pe),e.p=AA p)->pt h r T p=h p:=λz=>aB (z.elim (λ⟨j,t,b,v,z⟩=>z▸M j t b v) λ⟨_,m,_⟩=>nomatch m);have D:∀{T:Tm} (n t),pt F.hold r T (yP n)=AA t->F.hold (yP n)=AA t:=λ{T} n t z=>(aB (λe=>absurd ((aF As e).trans E)<|show ¬121=116 by decide):pt F.hold r T (yP n)=F.hold (yP n))▸z
 unfold s6;by_cases hl:k∈c.loc
 .rw[aC hl];obtain⟨u,w⟩:=I.ok.aw.walks t;have B:=I.ok.pop (f:=λn=>decide<|u≠.v n);have J:Mo F S {F with hold:=pt F.hold r u,loose:=F.loose.filter λn=>decide<|u≠.v n} S:=B.trans<|B.ok.same;have G:=(zN I.ok w).mpr<|HP I.ok w y.ni;have C:=w.c7 I.ok.cR v.bB;show rl.lP hr (y.hold al) w I.ok.cR v.bB C<|K rfl hr (I.mo J (λp z=>L z) D) (aC rfl) C G λz=>(z.2 k t ht).trans (w.sat z.1)
 rw[aB hl];have J:Mo F S {F with hold:=pt F.hold r t} S:=I.ok.same;show rl.jI hr (y.hold al) v.bB<|K rfl hr (I.mo J (λp z=>L z) D) (aC rfl) v.bB (y.nl hl) λz=>z.2 k t ht
def Hc
  (K:∀{F' T},F'.b=F.b->F'.rest=[]->Inv Z N n0 X lv (cV Z k c).2.2 F' S val []->F'.hold (cV Z k c).2.1=AA T->aZ F'.aG T->NI S F'.loose T->(∀{π σ},fW F.b val π σ->π k=T.app σ)->R is F'):R ((cV Z k c).1++is) F:=by
 unfold cV at K ⊢;by_cases q:Z.perm k=AB
 .rw[aC q] at K ⊢;show Qx rl I hr hv hk al rfl (λj t a o=>(aEH (I.vk j t a).lt I.nt).symm) λL D I h B J M=>K L D I.bh h B (.inr J) M
 rw[aB q] at K ⊢;obtain⟨t,ht⟩:=I.sv k hk;have v:=I.vk k t ht;have y:=v.nv hv;have C:place Z k=tP k:=aB q;show K rfl hr I (C▸y.hold al) v.bB y.ni λz=>z.2 k t ht
end
end
section
variable{c:Cs}
def Eqv.xf(E:Eqv Z N n0 P b val [])(J:∀{π σ},fW b val π σ->s.app π=T.app σ):Eqv Z N n0 (λπ=>P π/\s.app π=t.app π) b val [⟨t,T,AE,AB⟩]\/cU Z t=AB:=by
 rcases hv:cU Z t with _|_;show .inl ⟨λz=>have z:=mh.mp z;⟨E.snd z.2,(J ⟨z.2.sat,z.2.vc⟩).trans (zU z.1 hv).symm⟩,λB=>B.elim λp h=>(E.cmp p).elim λσ z=>⟨σ,mh.mpr ⟨.inr<|h.symm.trans (J ⟨z.sat,z.vc⟩),z⟩⟩⟩;show .inr rfl
def Inv.ask(I:Inv Z N n0 X lv c F S val [])(B:aZ F.aG T)(J:NI S F.loose T)(vs:∀k,t.has k->k<N):Inv Z N n0 X lv c F S val [⟨t,T,AE,AB⟩]:=⟨I.ok,I.sp,I.fx,I.an,I.seen,I.sv,I.vk,I.nt,I.yh,λe m=>by
 obtain rfl:=JK.mp m;show⟨B,J,(λh=>nomatch h),(λy h=>nomatch h),vs⟩⟩
variable{Fl:List Ev->Prop}(rl:Rules R Fl Dn sig picks)(inj:Inj Z N)(hF:(∀π,¬(P π/\(Tm.v k).app π=t.app π))->Fl X.evs)
include rl inj hF
def Rn(I:Inv Z N n0 X lv c F S val [])(E:Eqv Z N n0 P F.b val [])(L:F.rest=[])(g:Z.void k=AD)(o:k∈c.seen)(p:lv k)(u:t.bO=AD)(d:t.WT)(vs:∀k,t.has k->k<N)(Q:∀k,t.has k->Z.void k=AD->lv k)(G:Fr Z val<|t::ws)
  (K:KF Z N n0 X lv R is ws val (t.has ·) (IA Z k t c).2 [] (λπ=>P π/\(Tm.v k).app π=t.app π) []):R ((IA Z k t c).1++is) F:=by
 have r:cU Z t=AD:=by
  rcases t with _|_;show nomatch u
  all_goals rfl
 have C:aR t=AB->(KF Z N n0 X lv R is ws val (t.has ·) (kO Z t (cV Z k c).2.1 (cV Z k c).2.2).2 [] (λπ=>P π/\(Tm.v k).app π=t.app π) [])->R ((cV Z k c).1++(kO Z t (cV Z k c).2.1 (cV Z k c).2.2).1++is) F:=λi K=>by
  rw[bp];refine Hc rl I L g o p λO Y I h B D j=>?_;have A:=(E.xf (s:=.v k) λz=>j z).resolve_right<|r▸aI;show aCk rl hF inj (I.ask B D vs) (O.symm▸A) i d h Y Q G λw G I E L=>K w G I E L
 rcases t with _|⟨b,z⟩|⟨f,x⟩|⟨f,x,y⟩;show nomatch u
 .change R ((cV Z k c).1++[.kE b z (cV Z k c).2.1]++is) F;rw[bp];refine Hc rl I L g o p λ{F' T} O Y I h B D j=>?_;have A:=(E.xf (s:=.v k) λz=>j z).resolve_right<|r▸aI;have J:∀{π σ:Sb},Sat F'.b σ->(∀k t,val k=AA t->π k=t.app σ)->(((AB=AB/\cU Z (Tm.c b z)=AB)\/(Tm.c b z).app π=T.app σ)↔T.app σ=(Tm.c b z).app σ):=λq q=>⟨λh=>(h.resolve_left λz=>nomatch z.2).symm,λh=>.inr h.symm⟩;have l:=I.ask B D vs;show rl.kE Y h I.ok.aw I.ok.cR B (λM=>K (Nw.id.weak λk=>⟨AM,λh=>h.elim⟩) (G.mono (λk=>bU _ _) λt m=>.tail _ m) (I.meet M B .c<|R3 D λq h=>h.elim) ((O.symm▸A).met M J) Y) λU=>I.fx.1▸hF ((O.symm▸A).pv U J)
 show C rfl K;show C rfl K
end
section
variable{c:Cs}
def Eqv.put(E:Eqv Z N n0 P b val [])(C:val k=AE)(J:∀{π σ},fW b val π σ->t.app π=T.app σ):Eqv Z N n0 (λπ=>P π/\(Tm.v k).app π=t.app π) b (fu val k T) []:=
 ⟨λs=>have o:=λj w h=>s.vc j w<|jL C h;⟨E.snd ⟨s.sat,s.ag,o,s.pd⟩,(s.vc k T kh).trans (J ⟨s.sat,o⟩).symm⟩,λB=>B.elim λp h=>(E.cmp p).elim λσ s=>⟨σ,s.sat,s.ag,λj w q=>(wD q).elim (λq=>q.1▸q.2▸(h).trans (J ⟨s.sat,s.vc⟩)) λq=>s.vc j w q.2,s.pd⟩⟩
variable{Fl:List Ev->Prop}(rl:Rules R Fl Dn sig picks)(inj:Inj Z N)(hF:(∀π,¬P π)->Fl X.evs)
include rl inj hF
def Kf(I:Inv Z N n0 X lv c F S val [])(E:Eqv Z N n0 P F.b val [])(B:F.rest=[])(Q:aR t=AB)(A:Z.void k=AD)(u:val k=AE)(Y:k<N)(O:¬t.has k)(M:t.WT)(vs:∀k,t.has k->k<N)(p:∀k,t.has k->Z.void k=AD->lv k)(y:Fr Z val [t])
  (L:r.1=97\/(r.1=116/\N<=r.2/\r.2<c.nt)\/(r=ρ/\r.1=116/\r.2<N/\∀k t,val k=AA t->Z.void k=AD->place Z k≠r)) (D:∀m,N<=m->tP m≠ρ) (C:∀j,t.has j->Z.void j=AD->place Z j≠ρ) (g:Z.perm k=AD->r=place Z k)
  (K:KN Z N n0 X lv R is val (λj=>k=j\/t.has j) ((dw Z t r c).2.dA k) [] (λπ=>P π/\(Tm.v k).app π=t.app π) []):R ((dw Z t r c).1++((settle Z k r (dw Z t r c).2).1++is)) F:=by
 refine EW rl hF inj D Q ⟨M,vs,λj h v=>⟨p j h v,C j h v⟩⟩ L I E B y λ{F' S' val' T} s h1 o G d I E B=>?_;have J:val' k=AE:=by
  rcases q:val' k with _|w;rfl;show absurd ((s.nw k).mp λz=>dN z q) λz=>z.elim (λz=>z u) O
 refine Cg rl inj I J A Y o G h1 B g λJ_=>K (((show Nw val (t.has ·) val' from s.nw).trans<|lL J).weak λj=>or_comm) J_ (E.put J λa=>d a) B
end
section
variable{c:Cs}
variable{Fl:List Ev->Prop}(rl:Rules R Fl Dn sig picks)(inj:Inj Z N)(hF:(∀π,¬P π)->Fl X.evs)
include rl inj hF
def Rl(I:Inv Z N n0 X lv c F S val [])(E:Eqv Z N n0 P F.b val [])(D:F.rest=[])(C:aR t=AB)(M:val k=AE)(B:k<N)(L:¬t.has k)(G:t.WT)(vs:∀k,t.has k->k<N)(Q:∀k,t.has k->Z.void k=AD->lv k)(Y:Fr Z val [t])
  (K:KN Z N n0 X lv R is val (λj=>k=j\/t.has j) (rK Z k t c).2 [] (λπ=>P π/\(Tm.v k).app π=t.app π) []):R ((rK Z k t c).1++is) F:=by
 have e:rK Z k t c=if Z.void k=AB then dw Z t (tP c.nt) c.bh else((dw Z t (bD Z k c).1 (bD Z k c).2).1++(settle Z k (bD Z k c).1 (dw Z t (bD Z k c).1 (bD Z k c).2).2).1,(settle Z k (bD Z k c).1 (dw Z t (bD Z k c).1 (bD Z k c).2).2).2):=by
  rcases t with _|_
  .show(aI C).elim
  .show(aI C).elim
  all_goals rfl
 have u:∀m,N<=m->tP m≠aP 0:=λm y e=>absurd (aF As e)<|show ¬116=97 by decide
 have r:∀j,t.has j->Z.void j=AD->place Z j≠aP 0:=λj h y e=>hW (vs j h) (.inl rfl) e.symm;rw[e] at K ⊢;by_cases hv:Z.void k=AB
 .rw[aC hv] at K ⊢;refine EW rl hF inj u C ⟨G,vs,λj h v=>⟨Q j h v,r j h v⟩⟩ (.inr<|.inl ⟨rfl,I.nt,c5 _⟩) I.bh E D Y λ{F' S' val' T} s h1 p f d I E D=>?_;have J:val' k=AE:=by
   rcases q:val' k with _|w;rfl;show absurd ((s.nw k).mp λz=>dN z q) λz=>z.elim (λz=>z M) L
  show K (((show Nw val (t.has ·) val' from s.nw).trans<|lL J).weak λj=>or_comm) (I.ghost J p B hv) (E.put J λa=>d a) D
 rw[aB hv] at K ⊢;have hv:=Bool.eq_false_iff.mpr hv;rw[bp];rcases xv rl inj I.nt with ⟨A,O,q⟩|⟨A,O,o,q⟩
 .rw[A,O] at K ⊢;show Kf rl inj hF I.bh E D C hv M B L G vs Q Y (.inr<|.inl ⟨rfl,I.nt,c5 _⟩) u r (λz=>absurd (q.symm.trans z) ⋯) K
 rw[o,O] at K ⊢;have g:=o.symm.trans A;have pn:∀j,j<N->j≠k->Z.void j=AD->place Z j≠tP k:=λj l ne v e=>ne<|inj j k l B v hv (e.trans g);show Kf rl inj hF I E D C hv M B L G vs Q Y (.inr<|.inr ⟨rfl,rfl,B,λj t a v=>pn j (I.vk j t a).lt (λe=>dN M<|e▸a) v⟩) (λm h e=>absurd (aF Prod.snd e)<|iC (b6 B h)) (λj h v=>pn j (vs j h) (λe=>L<|e▸h) v) (λy=>g) K
end
variable{q:Bool}
section
variable{c:Cs}
variable{Fl:List Ev->Prop}(rl:Rules R Fl Dn sig picks)(inj:Inj Z N)
include rl inj
def aHp(I:Inv Z N n0 X lv c F S val [])(E:Eqv Z N n0 P F.b val [])(C:F.rest=[])(J:val k=AE)(D:k<N)
  (K:∀{F' val'},Nw val (λj=>k=j) val'->Inv Z N n0 X lv (rK Z k (.c q z) c).2 F' S val' []->Eqv Z N n0 (λπ=>P π/\(Tm.v k).app π=(Tm.c q z).app π) F'.b val' []->F'.rest=[]->R is F'):R ((rK Z k (.c q z) c).1++is) F:=by
 have B:=E.put (t:=.c q z) (T:=.c q z) J λy=>rfl;change R ((if Z.void k=AB then([],c) else _:Wr).1++is) F
 have K:∀{F' val'},Nw val (λj=>k=j) val'->Inv Z N n0 X lv (if Z.void k=AB then([],c) else(.kU q z (bD Z k c).1::(settle Z k (bD Z k c).1 (bD Z k c).2).1,(settle Z k (bD Z k c).1 (bD Z k c).2).2):Wr).2 F' S val' []->Eqv Z N n0 (λπ=>P π/\(Tm.v k).app π=(Tm.c q z).app π) F'.b val' []->F'.rest=[]->R is F':=K
 by_cases hv:Z.void k=AB
 .rw[aC hv] at K ⊢;show K (lL J) (I.ghost J .c D hv) B C
 rw[aB hv] at K ⊢;have hv:=Bool.eq_false_iff.mpr hv;have fr:=xv rl inj (k:=k) I.nt;have M:(bD Z k c).1.1=116:=fr.elim (λh=>by rw[h.1]) λh=>by rw[h.2.2.1]
 have ne:∀{j t},val j=AA t->Z.void j=AD->(bD Z k c).1≠place Z j:=λ{j t} a v=>fr.elim (λh=>h.1▸hW (I.vk j t a).lt (.inr ⟨rfl,I.nt⟩)) λh e=>dN J<|inj k j D (I.vk j t a).lt hv v (h.1.symm.trans e)▸a;have G:Mo F S {F with hold:=pt F.hold (bD Z k c).1<|.c q z,rest:=F.rest} S:=I.ok.same;have L:=I.mo G (λp z=>aB (z.elim (λ⟨j,t,a,v,z⟩=>z▸(ne a v).symm) λ⟨_,m,_⟩=>nomatch m)) λn t z=>(aB (λe=>absurd ((aF As e).trans M)<|show ¬121=116 by decide):pt F.hold (bD Z k c).1 _ (yP n)=F.hold (yP n))▸z
 have Y:=fr.elim (λh=>h.2.1▸L.bh) λh=>h.2.1.symm▸L;show rl.kU C<|Cg rl inj Y J hv D .c (λy h=>h.elim) (aC rfl) C (λq=>fr.elim (λh=>absurd (h.2.2.symm.trans q) ⋯) λh=>h.1) λJ_=>K (lL J) J_ B C
end
def YY:(Tm.s2 f x y).hasB n=(x.hasB n||y.hasB n):=rfl
def vA:t.hasB n=AB↔t.has n:=by
 induction t with
 |v m=>show lB|c=>show⟨(λh=>(aI h).elim),λh=>h.elim⟩|s1 _ x J=>show J|s2 _ x y C B=>rw[YY,rP,C,B,Ya]
section
variable{c:Cs}
variable{Fl:List Ev->Prop}(rl:Rules R Fl Dn sig picks)(inj:Inj Z N)(hF:(∀π,¬P π)->Fl X.evs)(hF':(∀π,¬(P π/\(Tm.v k).app π=t.app π))->Fl X.evs)
theorem Fr.one(f:Fr Z val<|t::l):Fr Z val [t]:=f.mono (λk=>b7 (bK _) _) λu m=>JK.mp m▸.head _
include rl inj hF hF'
def Rp(I:Inv Z N n0 X lv c F S val [])(E:Eqv Z N n0 P F.b val [])(J:F.rest=[])(O:t.bO=AD)(M:k<N)(Q:Z.void k=AD->lv k)(L:t.WT)(vs:∀k,t.has k->k<N)(Y:∀k,t.has k->Z.void k=AD->lv k)(B:Fr Z val<|.v k::t::ws)
  (K:KF Z N n0 X lv R is ws val (λj=>k=j\/t.has j) (mw Z k t c).2 [] (λπ=>P π/\(Tm.v k).app π=t.app π) []):R ((mw Z k t c).1++is) F:=by
 have A:=λv=>(B k v).2 _ h_ rfl;have D:=B.mono (λk=>bU _ _) λu m=>.tail _ m;unfold mw at K ⊢;by_cases h:k∉c.seen/\t.hasB k=AB
 .rw[aC h] at K ⊢;have G:=vA.mp h.2;have hv:=Bool.eq_false_iff.mpr λv=>lT (B k v).1 (gW rfl)<|jn h_ G;rw[bp];refine yJ rl inj I E J hv h.1 M λC I E J=>?_;have hk:k∈(c9 Z k c).2.seen:=by
   unfold c9;rw[aB<|hv▸aI];show mP.mpr<|.inr rfl
  unfold oK at K ⊢;rw[aC hk] at K ⊢;show Rn rl inj hF' I E J hv hk (Q hv) O L vs Y (Fr.nw B C λj e=>e) λs B I E J=>K (C.trans s) B I E J
 rw[aB h] at K ⊢;unfold oK at K ⊢;by_cases hk:k∈c.seen
 .rw[aC hk] at K ⊢;have r:=I.sv k hk;have hv:=Bool.eq_false_iff.mpr λv=>(I.sv k hk).elim λo q=>dN (A v) q;show Rn rl inj hF' I E J hv hk (Q hv) O L vs Y D λs B I E J=>K (λj=>(s j).trans ⟨λh=>h.imp_right .inr,λh=>h.elim .inl λh=>h.elim (λe=>.inl<|e▸λq=>r.elim λo z=>dN q z) .inr⟩) B I E J
 rw[aB hk] at K ⊢;have hn:val k=AE:=by
  rcases v:Z.void k with _|_;show I.seen k v hk;show A v
 have G:=λq=>h ⟨hk,vA.mpr q⟩;rcases t with _|⟨a,z⟩|⟨f,x⟩|⟨f,x,y⟩;show nomatch O;show aHp rl inj I E J hn M λC I E J=>K (C.weak λj=>(lN λh=>h.elim).symm) ((Fr.nw B C λj e=>e).mono (λk=>bU _ _) λu m=>.tail _ m) I E J;show Rl rl inj hF I E J rfl hn M G L vs Y D.one λC I E J=>K C (λj v=>⟨aA (aA (bU _ _)<|bU _ _) (B j v).1,λu m T=>ij λz=>((C j).mp z).elim (λz=>z<|(B j v).2 u (.tail _<|.tail _ m) T) λz=>z.elim (λz=>lT (B j v).1 (gW<|z)<|jn (.tail _ m) T) λz=>lT (D j v).1 (gW z)<|jn m T⟩) I E J;show Rl rl inj hF I E J rfl hn M G L vs Y D.one λC I E J=>K C (λj v=>⟨aA (aA (bU _ _)<|bU _ _) (B j v).1,λu m T=>ij λz=>((C j).mp z).elim (λz=>z<|(B j v).2 u (.tail _<|.tail _ m) T) λz=>z.elim (λz=>lT (B j v).1 (gW<|z)<|jn (.tail _ m) T) λz=>lT (D j v).1 (gW z)<|jn m T⟩) I E J
end
variable{o:Nat}
section
variable{c:Cs}
variable{Fl:List Ev->Prop}(rl:Rules R Fl Dn sig picks)(inj:Inj Z N)
include rl inj
def EK(I:Inv Z N n0 X lv c F S val [])(E:Eqv Z N n0 P F.b val [])(C:F.rest=[])(J:val k=AE)(T:k<N)(M:o∈c.seen)(Y:Z.void o=AD)(G:lv o)
  (K:KN Z N n0 X lv R is val (λj=>k=j) (jS Z k o c).2 [] (λπ=>P π/\(Tm.v k).app π=(Tm.v o).app π) []):R ((jS Z k o c).1++is) F:=by
 obtain⟨t,ht⟩:=I.sv o M;have v:=I.vk o t ht;have y:=v.nv Y;have x:o≠k:=λe=>dN J<|e▸ht;have B:=E.put (k:=k) (t:=.v o) J λa=>a.2 o t ht;unfold jS at K ⊢;by_cases hv:Z.void k=AB
 .rw[aC hv] at K ⊢;show K (lL J) (I.ghost J v.bB T hv) B C
 rw[aB hv] at K ⊢;have hv:=Bool.eq_false_iff.mpr hv;by_cases D:Z.perm o=AB
 .rw[aC D] at K ⊢;have fr:=xv rl inj (Z:=Z) (k:=k) I.nt;have Q:(bD Z k c).1.1=116:=fr.elim (λh=>by rw[h.1]) λh=>by rw[h.2.2.1]
  have ne:∀j t,val j=AA t->Z.void j=AD->place Z j≠(bD Z k c).1:=λj t a v=>fr.elim (λh=>h.1▸(hW (I.vk j t a).lt<|.inr ⟨rfl,I.nt⟩).symm) λh e=>dN J<|inj j k (I.vk j t a).lt T v hv (e.trans h.1)▸a;have w:=fr.elim (λh=>h.2.1▸I.bh) λh=>h.2.1.symm▸I;have L:=fr.elim (λh=>h.2.1▸M) λh=>h.2.1.symm▸M;show Qx rl w C Y L G Q ne λd A I h g r f=>Cg rl inj I J hv T g r h A (λq=>fr.elim (λh=>absurd (h.2.2.symm.trans q) ⋯) λh=>h.1) λJ_=>K (lL J) J_ (d.symm▸E.put J λa=>f a) A
 rw[aB D] at K ⊢;have D:=Bool.eq_false_iff.mpr D;have J_:Inv Z N n0 X lv (nG k o c) {F with hold:=pt F.hold (place Z k) t,rest:=F.rest} S (fu val k t) []:=I.new inj J T hv v.bB y.ni (λm=>y.nl λu=>m (by unfold nG;rw[aC u];show mP.mpr<|.inr rfl)) (λn e m=>.inl<|(y.lvl n e m).elim id λz=>absurd (D.symm.trans z.1) ⋯) (by unfold nG;split<;>rfl) (by unfold nG;split<;>rfl) (λj i m m'=>m (by unfold nG;split;show mP.mpr<|.inl m';show m')) (aC rfl) λp q i=>aB q
 by_cases O:Z.perm k=AB
 .rw[aC O];show rl.getVar C (y.hold G) v.bB<|K (lL J) J_ B C
 rw[aB O];show rl.jI C (y.hold G) v.bB<|K (lL J) J_ B C
end
variable{Q:Sb->Prop}
section
variable{c:Cs}
def Eqv.to(E:Eqv Z N n0 P b val pd)(h:∀π,P π↔Q π):Eqv Z N n0 Q b val pd:=⟨λs=>(h _).mp<|E.snd s,λq=>E.cmp<|(h _).mpr q⟩
def Fr.vT(f:Fr Z val<|t::u::ws)(s:Nw val A val')(a:∀k,A k->t.has k\/u.has k):Fr Z val' ws:=λj v=>⟨aA (aA (bU _ _)<|bU _ _) (f j v).1,λw m J=>ij λz=>((s j).mp z).elim (λz=>z<|(f j v).2 w (.tail _<|.tail _ m) J) λz=>(a j z).elim (λz=>lT (f j v).1 (gW z)<|jn (.tail _ m) J) λz=>lT (aA (bU _ _) (f j v).1) (gW z)<|jn m J⟩
def Mw(J:Z.void k=AD):k∈(c9 Z k c).2.seen:=by
 unfold c9;rw[aB<|J▸aI];show mP.mpr<|.inr rfl
def aFI(h:j∈c.seen):j∈(cV Z k c).2.2.seen:=by
 unfold cV;split<;>show h
def PN(h:Z.void k=AD):¬cU Z (.v k)=AB:=λq=>aI<|h.symm.trans q
def R0(h:val k≠AE->False):val k=AE:=ij h
variable{Fl:List Ev->Prop}(rl:Rules R Fl Dn sig picks)(inj:Inj Z N)
include rl inj
def aHu(hF:(∀π,¬(P π/\((Z.void j=AB/\Z.void k=AB)\/π j=π k)))->Fl X.evs)(I:Inv Z N n0 X lv c F S val [])(E:Eqv Z N n0 P F.b val [])(B:F.rest=[])(O:j<N)(x:k<N)(aj:Z.void j=AD->lv j)(n:Z.void k=AD->lv k)(Q:Fr Z val<|.v j::.v k::ws)
  (K:KF Z N n0 X lv R is ws val (λi=>(j=i\/k=i)/\¬(Z.void j=AB/\Z.void k=AB/\(j=i\/k=i))) (jo Z j k c).2 [] (λπ=>P π/\((Z.void j=AB/\Z.void k=AB)\/π j=π k)) []):R ((jo Z j k c).1++is) F:=by
 have fj:Z.void j=AB->val j=AE:=λv=>(Q j v).2 _ h_ rfl;have fk:Z.void k=AB->val k=AE:=λv=>(Q k v).2 _ (.tail _ h_) rfl;have sn:∀{i},(Z.void i=AB->val i=AE)->i∈c.seen->Z.void i=AD:=λf h=>Bool.eq_false_iff.mpr λv=>(I.sv _ h).elim λo q=>dN (f v) q;have nn:=λ{i} f h=>(Bool.eq_false_or_eq_true<|Z.void i).elim f λv=>I.seen i v h;have M:Z.void j=AD->¬(Z.void j=AB/\Z.void k=AB):=λv q=>aI<|v.symm.trans q.1;have n2:Z.void k=AD->¬(Z.void j=AB/\Z.void k=AB):=λv q=>aI<|v.symm.trans q.2;have Y:¬(Z.void j=AB/\Z.void k=AB)->∀π:Sb,(P π/\π j=π k↔P π/\((Z.void j=AB/\Z.void k=AB)\/π j=π k)):=λd π=>qO λo=>(vf d).symm;have G:∀{w:Wr},jo Z j k c=w->¬(Z.void j=AB/\Z.void k=AB)->((∀{F' S' val'},Nw val (λi=>j=i\/k=i) val'->Inv Z N n0 X lv w.2 F' S' val' []->Eqv Z N n0 (λπ=>P π/\π j=π k) F'.b val' []->F'.rest=[]->R is F')->R (w.1++is) F)->R ((jo Z j k c).1++is) F:=λe d h=>e▸h λD I E B=>K (D.weak λi=>⟨λh=>⟨h,λq=>d ⟨q.1,q.2.1⟩⟩,rM⟩) (Q.vT D λi h=>h) (e▸I) (E.to<|Y d) B;have zz:jo Z j k c=([],c)->Z.void j=AB->Z.void k=AB->R ((jo Z j k c).1++is) F:=λe J C=>by
  rw[e] at K ⊢;show K (Nw.id.weak λi=>⟨AM,λh=>h.2 ⟨J,C,h.1⟩⟩) (Q.mono (λi=>aA (bU _ _)<|bU _ _) λu m=>.tail _<|.tail _ m) I (E.to λπ=>⟨λp=>⟨p,.inl ⟨J,C⟩⟩,rM⟩) B
 clear K;have g:∀π:Sb,P π/\(Tm.v k).app π=(Tm.v j).app π↔P π/\π j=π k:=λπ=>qO λo=>eq_comm;have l:∀{i},i∈c.seen->val i≠AE:=λh q=>(I.sv _ h).elim λo z=>dN q z;by_cases L:j∈c.seen
 .have J:=sn fj L;by_cases hk:k∈c.seen
  .have C:=sn fk hk;have D:Nw val (λi=>j=i\/k=i) val:=λi=>⟨.inl,λh=>h.elim _root_.id λh=>h.elim (λe=>e▸l L) λe=>e▸l hk⟩;by_cases e:j=k;show G ((aC L).trans<|(aC hk).trans (aC e)) (M J) λK=>K D I (E.to λπ=>⟨λp=>⟨p,aF π e⟩,rM⟩) B;by_cases pj:Z.perm j=AB
   .refine G ((aC L).trans<|(aC hk).trans ((aB e).trans<|aC pj)) (M J) λK=>?_;rw[bp];refine Hc rl I B C hk (n C) λ{F' T} e1 e2 I h ib ni an=>?_;have E2:=(E.xf (s:=.v k) (t:=.v j) (T:=T) λz=>an z).resolve_right<|PN J;show FV rl (λh=>hF λπ q=>h π<|(g π).mpr ((Y (M J) π).mpr q)) (I.ask (t:=.v j) ib ni λi q=>(show j=i from q)▸O) (e1.symm▸E2) h e2 rfl J (aj J) (aFI L) λI E=>K D I (E.to g) e2
   refine G ((aC L).trans<|(aC hk).trans ((aB e).trans<|aB pj)) (M J) λK=>?_;obtain⟨t,ht⟩:=I.sv j L;have v:=I.vk j t ht;have y:=v.nv J;have E2:=(E.xf (s:=.v j) (t:=.v k) (T:=t) λz=>z.2 j t ht).resolve_right<|PN C;show FV rl (λh=>hF λπ q=>h π<|(Y (M J) π).mpr q) (I.ask (t:=.v k) v.bB y.ni λi q=>(show k=i from q)▸x) E2 (y.hold<|aj J) B rfl C (n C) hk λI E=>K D I (E.to λo=>.rfl) B
  show G ((aC L).trans<|aB hk) (M J) λK=>EK rl inj I E B (nn fk hk) x L J (aj J) λD I E B=>K (λi=>(D i).trans ⟨λh=>h.imp_right .inr,λh=>h.elim .inl λh=>h.elim (λe=>.inl<|e▸l L) .inr⟩) I (E.to g) B
 have A:=nn fj L;by_cases hk:k∈c.seen
 .have C:=sn fk hk;show G ((aB L).trans<|aC hk) (n2 C) λK=>EK rl inj I E B A O hk C (n C) λD I E B=>K (λi=>(D i).trans ⟨λh=>h.imp_right .inl,λh=>h.elim .inl λh=>h.elim .inr λe=>.inl<|e▸l hk⟩) I (E.to λo=>.rfl) B
 by_cases e:j=k
 .have J:Z.void j=AD:=Bool.eq_false_iff.mpr λv=>lT (Q j v).1 (gW (t:=.v j) rfl) (jn h_<|show(Tm.v k).has j from e.symm)
  show G ((aB L).trans<|(aB hk).trans (aC e)) (M J) λK=>e▸yJ rl inj I E B J L O λD I E B=>K (D.weak λi=>(or_self_iff).symm.trans<|or_congr_right (by rw[e])) (e▸I) (E.to λπ=>⟨λp=>⟨p,aF π e⟩,rM⟩) B
 have hk0:=nn fk hk;have r:∀{w:Wr},(if k∈(c9 Z k c).2.seen then jS Z j k (c9 Z k c).2 else c9 Z j (c9 Z k c).2)=w->jo Z j k c=((c9 Z k c).1++w.1,w.2):=λh=>((aB L).trans<|(aB hk).trans (aB e)).trans<|h▸rfl
 rcases C:Z.void k with _|_
 .have m:=Mw (Z:=Z) (c:=c) C;refine G (r<|aC m) (n2 C) λK=>?_;rw[bp];show yJ rl inj I E B C hk x λ{F' val'} D I E B=>EK rl inj I E B (R0 λq=>((D j).mp q).elim (λq=>q A) λq=>e q.symm) O m C (n C) λvT I E B=>K ((D.trans vT).weak λi=>or_comm) I (E.to λo=>.rfl) B
 have ei:c9 Z k c=([],c):=aC C;have r:jo Z j k c=c9 Z j c:=(r<|aB (show ¬k∈(c9 Z k c).2.seen by rw[ei];show hk)).trans (by rw[ei];rfl)
 rcases J:Z.void j with _|_
 .refine G r (M J) λK=>yJ rl inj I E B J L O λ{F' val'} D I E B=>?_;obtain⟨t,ht⟩:=I.sv j<|Mw J;have k0:val' k=AE:=R0 λq=>((D k).mp q).elim (λq=>q hk0) e;show K (D.trans<|lL k0) (I.ghost k0 (I.vk j t ht).bB x C) ((E.put k0 (t:=.v j) (T:=t) λa=>a.2 j t ht).to g) B
 show zz (r.trans<|aC J) J C
end
def gH(ps:List<|Tm×Tm):List Tm:=AO [] (λp y J=>p.1::p.2::J) ps
def Lf(l r:Tm):Prop:=l.bO=AD->r.bO=AD->(l=r/\∀n,¬l.has n)\/(l≠r/\∀π:Sb,l.app π≠r.app π)
structure gO(l r:Tm)(ps:List (Tm×Tm)):Prop where
 app:∀π:Sb,l.app π=r.app π↔∀p∈ps,p.1.app π=p.2.app π
 has:∀n,(∃p∈ps,p.1.has n\/p.2.has n)↔l.has n\/r.has n
 cg:∀n,dz n (gH ps)=cg n l+cg n r
 leaf:∀p∈ps,Lf p.1 p.2
 c7:∀Q,iE Q->Q l->Q r->∀p∈ps,Q p.1/\Q p.2
variable{l r:Tm}{ps:List (Tm×Tm)}
section
variable{x' y':Tm}{g:Nat}{ps':List (Tm×Tm)}
def gO.one(h:Lf l r):gO l r [(l,r)]:=⟨λπ=>(S6 (p:=λp:Tm×Tm=>p.1.app π=p.2.app π) (a:=(l,r))).symm,λn=>⟨λB=>B.elim λp J=>J.elim λm h=>(by rw[JK.mp m] at h;show h),λh=>⟨_,.head _,h⟩⟩,λn=>rfl,S6.mpr h,λQ y a b=>S6.mpr ⟨a,b⟩⟩
def Lr:gH (ps++ps')=gH ps++gH ps':=by
 induction ps with
 |nil=>rfl|cons p ps J=>show aF (λl=>p.1::p.2::l) J
def tO:∀{r:Tm},gO l r<|cN l r:=by
 induction l with
 |v j=>intro r;show gO.one λh=>nomatch h
 |c b z=>
  intro r;rcases r with _|⟨b',C⟩;show gO.one λo h=>nomatch h;show gO.one λo o=>(lb<|Tm.c b z=.c b' C).imp (λe=>⟨e,λo h=>h⟩) λe=>⟨e,λo=>e⟩;show gO.one λo o=>.inr ⟨(λe=>nomatch e),λo e=>nomatch e⟩;show gO.one λo o=>.inr ⟨(λe=>nomatch e),λo e=>nomatch e⟩
 |s1 f x D=>
  intro r;rcases r with _|_|⟨g,y⟩;show gO.one λo h=>nomatch h;show gO.one λo o=>.inr ⟨(λe=>nomatch e),λo e=>nomatch e⟩
  .change gO (.s1 f x) (.s1 g y) (if f=g then cN x y else _)
   by_cases e:f=g
   .rw[aC e];have h:=D (r:=y);show⟨λπ=>(⟨λq=>(Tm.s1.inj q).2,λq=>e▸aF (Tm.s1 f) q⟩:_↔x.app π=y.app π).trans<|h.app π,h.has,h.cg,h.leaf,λQ s a b=>h.c7 Q s (s.s1 _ _ a)<|s.s1 _ _ b⟩
   rw[aB e];show gO.one λo o=>.inr ⟨λq=>e (Tm.s1.inj q).1,λo q=>e (Tm.s1.inj q).1⟩
  show gO.one λo o=>.inr ⟨(λe=>nomatch e),λo e=>nomatch e⟩
 |s2 f x x' L T=>
  intro r;rcases r with _|_|_|⟨g,y,y'⟩;show gO.one λo h=>nomatch h;show gO.one λo o=>.inr ⟨(λe=>nomatch e),λo e=>nomatch e⟩;show gO.one λo o=>.inr ⟨(λe=>nomatch e),λo e=>nomatch e⟩;change gO (.s2 f x x') (.s2 g y y')<|if f=g then cN x y++cN x' y' else _
  by_cases e:f=g
  .rw[aC e];have h:=L (r:=y);have k:=T (r:=y');refine⟨λπ=>(⟨λq=>(Tm.s2.inj q).2,λq=>e▸pT q.1 q.2⟩:_↔x.app π=y.app π/\x'.app π=y'.app π).trans<|(and_congr (h.app π)<|k.app π).trans List.forall_mem_append.symm,λn=>?_,λn=>?_,List.forall_mem_append.mpr ⟨h.leaf,k.leaf⟩,λQ s a b=>List.forall_mem_append.mpr ⟨h.c7 Q s (s.s2 _ _ _ a).1 (s.s2 _ _ _ b).1,k.c7 Q s (s.s2 _ _ _ a).2 (s.s2 _ _ _ b).2⟩⟩
   .change _↔(x.has n\/x'.has n)\/y.has n\/y'.has n;rw[or_or_or_comm,<-h.has n,<-k.has n];show⟨λB=>B.elim λp J=>J.elim λm q=>(nA.mp m).imp (λm=>⟨p,m,q⟩) λm=>⟨p,m,q⟩,λq=>q.elim (λB=>B.elim λp J=>J.elim λm q=>⟨p,gF _ m,q⟩) λB=>B.elim λp J=>J.elim λm q=>⟨p,gn _ m,q⟩⟩
   rw[Lr,mV,h.cg,k.cg];show Dx _ _ _ _
  rw[aB e];show gO.one λo o=>.inr ⟨λq=>e (Tm.s2.inj q).1,λo q=>e (Tm.s2.inj q).1⟩
end
structure Sd(Z:Pl)(N:Nat)(lv:Nat->Prop)(t:Tm):Prop where
 wt:t.WT
 vs:∀k,t.has k->k<N
 al:∀k,t.has k->Z.void k=AD->lv k
def aFm:iE<|Sd Z N lv:=⟨λy y h=>⟨h.wt.2,h.vs,h.al⟩,λy y y h=>⟨⟨h.wt.2.1,λk q=>h.vs k<|.inl q,λk q=>h.al k<|.inl q⟩,h.wt.2.2,λk q=>h.vs k<|.inr q,λk q=>h.al k<|.inr q⟩⟩
def Vv(Z:Pl)(p:Tm×Tm):Prop:=cU Z p.1=AB/\cU Z p.2=AB
def mE(Z:Pl)(π:Sb)(p:Tm×Tm):Prop:=Vv Z p\/p.1.app π=p.2.app π
def vV(Z:Pl)(p:Tm×Tm)(n:Nat):Prop:=(p.1.has n\/p.2.has n)/\¬Vv Z p
section
variable{c:Cs}{p:Tm×Tm}
def tf(b:Bool):b=AB\/b=AD:=by rcases b with _|_;show .inr rfl;show .inl rfl
def R2(h:t.bO=AD):¬cU Z t=AB:=λq=>by
 rcases t with _|_;show nomatch h
 all_goals show(aI q).elim
def Fr.swap(f:Fr Z val<|l::r::ws):Fr Z val<|r::l::ws:=f.mono (λk=>bJ<|Dy _ _ _) λu m=>(JJ.mp m).elim (λe=>e▸.tail _ h_) λm=>(JJ.mp m).elim (λe=>e▸.head _) λm=>.tail _<|.tail _ m
def aHq(h:t.bO=AD):jK Z (.v j,t) c=mw Z j t c:=by
 rcases t with _|_;show nomatch h
 all_goals rfl
def aHt(h:t.bO=AD):jK Z (t,.v k) c=mw Z k t c:=by
 rcases t with _|_;show nomatch h
 all_goals rfl
variable{Fl:List Ev->Prop}(rl:Rules R Fl Dn sig picks)(inj:Inj Z N)
include rl inj
def aHs(Y:(∀π,¬(P π/\mE Z π (l,r)))->Fl X.evs)(I:Inv Z N n0 X lv c F S val [])(E:Eqv Z N n0 P F.b val [])(B:F.rest=[])(Q:Lf l r)(D:Sd Z N lv l)(s2:Sd Z N lv r)(C:Fr Z val<|l::r::ws)
  (K:KF Z N n0 X lv R is ws val (vV Z (l,r)) (jK Z (l,r) c).2 [] (λπ=>P π/\mE Z π (l,r)) []):R ((jK Z (l,r) c).1++is) F:=by
 have G:∀{w:Wr} {A},jK Z (l,r) c=w->¬Vv Z (l,r)->(∀n,A n↔l.has n\/r.has n)->(KF Z N n0 X lv R is ws val A w.2 [] (λπ=>P π/\l.app π=r.app π) []->R (w.1++is) F)->R ((jK Z (l,r) c).1++is) F:=λe J z h=>e▸h λT C I E B=>K (T.weak λn=>(z n).trans ⟨λh=>⟨h,J⟩,rM⟩) C (e▸I) (E.to λπ=>qO λy=>(vf J).symm) B;have hP:(∀π,¬P π)->Fl X.evs:=λh=>Y λπ q=>h π q.1;have O:(∀π,¬(P π/\l.app π=r.app π))->¬Vv Z (l,r)->Fl X.evs:=λh J=>Y λπ q=>h π ⟨q.1,q.2.resolve_left J⟩;rcases tf l.bO with hl|hl
 .refine gA hl λj e=>?_;rcases tf r.bO with hv|hv
  .refine gA hv λk g=>?_;subst e g;show aHu rl inj Y I E B (D.vs j rfl) (s2.vs k rfl) (D.al j rfl) (s2.al k rfl) C λT C I E B=>K (T.weak λi=>qO λh=>not_congr ⟨λq=>⟨q.1,q.2.1⟩,λq=>⟨q.1,q.2,h⟩⟩) C I E B
  subst e;have J:¬Vv Z (.v j,r):=λq=>R2 hv q.2;show G (aHq hv) J (λy=>.rfl) λK=>Rp rl inj hP (λh=>O h J) I E B hv (D.vs j rfl) (D.al j rfl) s2.wt s2.vs s2.al C K
 have J:¬Vv Z (l,r):=λq=>R2 hl q.1;have M:=λh=>aI<|hl.symm.trans h;rcases tf r.bO with hv|hv
 .refine gA hv λk e=>?_;subst e;show G (aHt hl) J (λy=>or_comm) λK=>Rp rl inj hP (λh=>O (λπ q=>h π ⟨q.1,q.2.symm⟩) J) I E B hl (s2.vs k rfl) (s2.al k rfl) D.wt D.vs D.al C.swap λT C I E B=>K T C I (E.to λπ=>qO λy=>eq_comm) B
 have L:=λh=>aI<|hv.symm.trans h;rcases Q hl hv with ⟨e,h⟩|⟨e,h⟩;show G ((aB M).trans<|(aB L).trans (aC e)) J (λn=>⟨AM,λq=>h n<|q.elim id λq=>e▸q⟩) λK=>K Nw.id (C.mono (λk=>aA (bU _ _)<|bU _ _) λu m=>.tail _<|.tail _ m) I (E.to λπ=>⟨λp=>⟨p,aF (Tm.app π) e⟩,rM⟩) B;show G ((aB M).trans<|(aB L).trans (aB e)) J (λy=>.rfl) λy=>rl.fail B<|I.fx.1▸O (λπ q=>h π q.2) J
def aHo:∀{P c F S val},(∀p∈ps,Lf p.1 p.2/\Sd Z N lv p.1/\Sd Z N lv p.2)->((∀π,¬(P π/\∀p∈ps,mE Z π p))->Fl X.evs)->Inv Z N n0 X lv c F S val []->Eqv Z N n0 P F.b val []->F.rest=[]->Fr Z val (gH ps++ws)->
  (KN Z N n0 X lv R is val (λn=>∃p∈ps,vV Z p n) (fH Z ps c).2 [] (λπ=>P π/\∀p∈ps,mE Z π p) [])->R ((fH Z ps c).1++is) F:=by
 induction ps with
 |nil=>show λy y I E hr y K=>K (Nw.id.weak λn=>⟨AM,λT=>T.elim λy B=>B.elim λm y=>aW m⟩) I (E.to λπ=>⟨λp=>⟨p,λy m=>aW m⟩,rM⟩) hr|cons p ps M=>
  intro P c F S val C hF I E hr fr K;have J:=C p h_;have D:∀π:Sb,(P π/\mE Z π p)/\(∀p∈ps,mE Z π p)↔P π/\∀q∈p::ps,mE Z π q:=λπ=>and_assoc.trans<|EM JD.symm;change R ((jK Z p c).1++_++is) F;rw[bp];show aHs rl inj (λh=>hF λπ q=>h π ((D π).mpr q).1) I E hr J.1 J.2.1 J.2.2 fr λL fr I E hr=>M (λq m=>C q<|.tail _ m) (λh=>hF λπ q=>h π<|(D π).mpr q) I E hr fr λvT I E hr=>K ((L.trans vT).weak λn=>sR (p:=λp=>vV Z p n)) I (E.to D) hr
def Rk(M:(∀π,¬(P π/\∀p∈cN l r,mE Z π p))->Fl X.evs)(I:Inv Z N n0 X lv c F S val [])(E:Eqv Z N n0 P F.b val [])(L:F.rest=[])(B:Sd Z N lv l)(s2:Sd Z N lv r)(J:Fr Z val [l,r])
  (K:KN Z N n0 X lv R is val (λn=>∃p∈cN l r,vV Z p n) (tj Z l r c).2 [] (λπ=>P π/\∀p∈cN l r,mE Z π p) []):R ((tj Z l r c).1++is) F:=by
 have h:=tO (l:=l) (r:=r);refine aHo rl inj (ws:=[]) (λp m=>⟨h.leaf p m,h.c7 _ aFm B s2 p m⟩) M I E L ?_ K;rw[fJ];intro k v;have m:∀{ps:List<|Tm×Tm} {t},t∈gH ps->∃p∈ps,t=p.1\/t=p.2:=λ{ps}=>by
  induction ps with
  |nil=>show λm=>aW m|cons p ps T=>show λm=>(JJ.mp m).elim (λe=>⟨p,.head _,.inl e⟩) λm=>(JJ.mp m).elim (λe=>⟨p,.head _,.inr e⟩) λm=>(T m).elim λq z=>⟨q,.tail _ z.1,z.2⟩
 refine⟨by rw[h.cg];show(J k v).1,λt C ht=>?_⟩
 obtain⟨p,D,e⟩:=m C;have q:=(h.has k).mp ⟨p,D,e.elim (λe=>.inl<|e▸ht) λe=>.inr<|e▸ht⟩;show q.elim (λq=>(J k v).2 l h_ q) λq=>(J k v).2 r (.tail _ h_) q
end
structure PS where
 b:Bd
 S:Sb
 ks:List Tm
 evs:List Ev
def MN:Gl->Nat
 | .call _ _=>0|_=>1
def MM:Gl->Nat
 | .call f _=>f| .bi f _=>f|_=>0
def gy:Gl->List Tm
 | .call _ as=>as| .bi _ as=>as|_=>[]
section
variable(p:PS)(g:Gl)(picks:List Nat)
def PS.ev:Bd×List Ev:=event p.b p.S (MN g,MM g) (gy g) p.evs picks
def PS.to(S2:Sb):PS:=⟨(p.ev g picks).1,S2,p.ks++gy g,(p.ev g picks).2⟩
end
def wW(picks:List Nat)(p:PS)(J:Prop)(K:PS->Prop):Gl->Prop
 | .fE l r=>(eh p.b l r/\J)\/∃b' S2,Met p.b p.S l r b' S2/\K ⟨b',S2,p.ks,p.evs⟩|g=>fD p.S (gy g)/\∃S2,ay (p.ev g picks).1 S2/\K (p.to g picks S2)
def jN(picks:List Nat)(gs:List Gl):PS->PS->Bool->Prop:=AO (λp q w=>q=p/\w=AB) (λg y J p q w=>wW picks p (q=p/\w=AD) (λp=>J p q w) g) gs
structure GA(Z:Pl)(N:Nat)(hv M dead:Nat->Prop)(living lg L:Int)(as:List Tm):Prop where
 ax:DJ Z N (λk=>¬dead k) lg L M as
 vo:∀k,Z.void k=AB->dz k as<=1/\∀t∈as,t.has k->¬M k
 sl:∀t∈as,∀k,t.has k->Z.void k=AD->Z.perm k=AB->(Z.slot k:Int)<=living
 vs:∀t∈as,∀k,t.has k->k<N/\¬hv k
structure UA(Z:Pl)(N:Nat)(hv W dead:Nat->Prop)(living:Int)(l r:Tm):Prop where
 s1:Sd Z N (λk=>¬dead k) l
 s2:Sd Z N (λk=>¬dead k) r
 vo:∀k,Z.void k=AB->dz k [l,r]<=1/\∀t∈[l,r],t.has k->¬W k
 uv:∀p∈cN l r,∀n,p.1.has n\/p.2.has n->(hv n↔Vv Z p)
 sl:∀t∈[l,r],∀k,t.has k->Z.void k=AD->Z.perm k=AB->(Z.slot k:Int)<=living
def cY:Gl->List Tm
 | .call _ as=>as| .bi _ as=>as| .fE l r=>[l,r]
def e6(k:Nat)(g:Gl):Prop:=∃t∈cY g,t.has k
def p5(Z:Pl)(N:Nat)(B:Nat->Nat)(C W J:Nat->Prop)(living:Int)(i:Nat)(L:Int):Gl->Prop
 | .call f as=>(B f=as.length/\as.length<=100)/\GA Z N C (λk=>W k/\¬C k) J living i L as| .bi f as=>(B f=as.length/\as.length<=100)/\GA Z N C (λk=>W k/\¬C k) J living (-1) living as| .fE l r=>UA Z N C W J living l r
def FS.bs(F:FS)(J:Nat->Option Tm):Bs:=⟨F.evs,F.living,F.kept,fW F.b J⟩
structure Js(Z:Pl)(N n0:Nat)(hv W dead:Nat->Prop)(P:Sb->Prop)(c:Cs)(F:FS)(S:Sb)(val:Nat->Option Tm)(p:PS):Prop where
 I:Inv Z N n0 (F.bs val) (λk=>¬dead k) c F S val []
 E:Eqv Z N n0 P F.b val []
 L:Lk N n0 hv Z P p.b p.S p.ks F.b F.kept val
 ev:F.evs=p.evs
 rest:F.rest=[]
 mv:∀k,val k≠AE↔W k/\¬hv k
 dM:∀k,dead k->W k
 sl:∀k,W k->¬dead k->Z.void k=AD->Z.perm k=AB->(Z.slot k:Int)<=F.living
 fz:BQ (λt=>∀n,t.has n->W n\/N<=n) p.b
variable{lv2 W dead:Nat->Prop}{x y:Nat}{living:Int}{p q:PS}{g:Gl}{es evs:List Ev}
section
variable{c:Cs}{S2:Sb}{l:List Tm}{LL:Int}
def Inv.base(I:Inv Z N n0 X lv c F S val []):Inv Z N n0 (F.bs val) lv c F S val []:=⟨I.ok,I.sp,⟨rfl,rfl,rfl⟩,λy y h=>h,I.seen,I.sv,I.vk,I.nt,I.yh,I.pk⟩
def Js.hF{J:List Ev->Prop}(J_:Js Z N n0 hv W dead P c F S val p):(∀π,¬P π)->J es:=λh=>(Cn J_.I.ok.aw λk t h=>(J_.I.vk k t h).lt).elim λπ s=>absurd (J_.E.snd s)<|h π
def Inv.past{C:Bd}{l:Int}{J:Place->Bool}(I:Inv Z N n0 X lv c F S val [])(m:Mo F S {F with b:=C} S')(h2:∀k t,val k=AA t->Z.void k=AD->lv2 k->lv k/\J (place Z k)=AB):Inv Z N n0 (FS.bs {F with hold:=λp=>if J p=AB then F.hold p else AE,living:=l,kept:=ks,b:=C,evs:=es} val) lv2 c {F with hold:=λp=>if J p=AB then F.hold p else AE,living:=l,kept:=ks,b:=C,evs:=es} S' val []:=
 ⟨⟨m.ok.aw,m.ok.cR,m.ok.low⟩,I.sp,⟨rfl,rfl,rfl⟩,λo o h=>h,I.seen,I.sv,λk t e=>have v:=I.vk k t e
  ⟨v.bB,v.lt,λz=>have y:=v.nv z;⟨λq=>(aC (h2 k t e z q).2).trans<|y.hold (h2 k t e z q).1,m.ni v.bB y.ni,λq=>m.nl v.bB<|y.nl q,λn L D=>(m.vl v.bB L D).elim λT B=>(y.lvl T B.1 B.2.1).imp (λh=>du B.2.2 h) λh=>⟨h.1,du B.2.2 h.2.1,h.2.2⟩⟩⟩,I.nt,λn t z=>I.yh n t (by
   by_cases q:J (yP n)=AB
   .show(aC q:(if J (yP n)=AB then F.hold (yP n) else AE)=_)▸z
   show absurd ((aB q).symm.trans z)<|λe=>dN rfl e),λo m=>aW m⟩
def Vb:t.dep<=(t.app σ).dep:=by
 induction t with
 |s1 f x J=>show bj J|s2 f x y C B=>show bj (Nat.max_le.mpr ⟨aA C<|ly _ _,aA B<|l4 _ _⟩)|_=>show bK _
def k9.fD(V:k9 (as.map<|Tm.app Sp) (us.map<|Tm.app S) τ ω)(h:fD Sp as):fD S us:=λt m=>by
 have q:=V.back▸rY (rY m);obtain⟨u,J,e⟩:=List.mem_map.mp q;show aA Vb<|e▸h u J
def Gu(B:ay b S)(J:ay b S'):S=S':=funext λz=>(J.mg S B.sol z).symm.trans<|xD λn h=>B.id n (J.free h)
def zD(M:ay b S){N:Nat->Prop}(h:BQ (λt=>∀n,t.has n->N n) b)(D:∀t∈as,∀n,t.has n->N n)(J:x∈cM (as.map<|Tm.app S)):N x:=by
 obtain⟨t,ht,hn⟩:=(qj.mp J).resolve_left eL;obtain⟨u,B,rfl⟩:=List.mem_map.mp ht;obtain⟨m,C,J⟩:=dj.mp hn;show Qk M h m (D u B m C) x J
def E6{f:Nat×Nat}(M:ay b S){Q:Tm->Prop}(h:BQ Q b)(B:∀z,Q<|.c AD z)(J:∀x∈cM (as.map<|Tm.app S),Q<|.v x):BQ Q (event b S f as evs picks).1/\∃S2,ay (event b S f as evs picks).1 S2:=by
 unfold event;rcases e:kT (cM<|as.map (Tm.app S)) (evs.length+1) picks with _|x
 .show⟨h,S,M⟩
 have m:x∈cM (as.map<|Tm.app S):=by
  unfold kT at e;split at e
  show eK e;show dN rfl e
 show⟨λp C=>(nA.mp C).elim (h p) λq=>(JK.mp q).symm▸⟨J x m,B _⟩,((Gn M<|zC M m).elim λS2 D=>⟨S2,D.aw⟩)⟩
def Mf(h:BQ (λt=>∀n,t.has n->W n\/N<=n) b)(J:∀n,W n->A n):BQ (λt=>∀n,t.has n->A n\/N<=n) b:=λx m=>⟨λn z=>((h x m).1 n z).imp_left<|J n,λn z=>((h x m).2 n z).imp_left<|J n⟩
variable{Fl:List Ev->Prop}(rl:Rules R Fl Dn sig picks)(inj:Inj Z N)
include rl inj
def EP{fk:Nat×Nat}(J_:Js Z N n0 hv W dead P c F S val p)(a:GA Z N hv (λk=>W k/\¬hv k) dead living lg LL as)(hL:-2<=LL)(l:fD p.S as)
  (K:∀{B D J us S2 Q P'},Inv Z N n0 (F.bs val) (λk=>¬dead k) (jC Z lg as 1 c).2 B D J []->B.rest=[]->as.length=us.length->(∀i t,us[i]?=AA t->B.hold (aP<|i+1)=AA t/\aZ B.aG t)->(∀t m,t∈us->t.app D=.v m->m∈B.loose->B.ls m<=LL)->fD D us->Mo B D {B with b:=(event B.b D fk us B.evs picks).1} S2->Eqv Z N n0 P' (event B.b D fk us B.evs picks).1 J []->Lk N n0 hv Z P' (event p.b p.S fk as p.evs picks).1 Q (p.ks++as) (event B.b D fk us B.evs picks).1 (B.kept++us) J->(event p.b p.S fk as p.evs picks).2=(event B.b D fk us B.evs picks).2->(∀k,J k≠AE↔(W k\/∃t∈as,t.has k)/\¬hv k)->BQ (λt=>∀n,t.has n->(W n\/∃t∈as,t.has n)\/N<=n) (event p.b p.S fk as p.evs picks).1->R is B):R ((jC Z lg as 1 c).1++is) F:=by
 have fr:Fr Z val as:=λk v=>⟨(a.vo k v).1,λt m h=>ij λz=>(a.vo k v).2 t m h<|(J_.mv k).mp z⟩;refine aCA rl J_.hF inj hL a.ax J_.mv fr J_.I J_.E J_.rest λ{B D J us} s hl C an T d O=>?_;have M:=T.fx.1.trans J_.ev;have kk:=T.fx.2.2;have g:Lk N n0 hv Z P p.b p.S p.ks B.b B.kept J:=⟨J_.L.mp,J_.L.pp,λz=>by rw[kk];show have q:=T.an _ _ ⟨z.sat,z.vc⟩;J_.L.ke ⟨q.1,z.ag,q.2,z.pd⟩,J_.L.kv⟩
 have G:=λk t h=>(T.vk k t h).lt;have X:∀{π σ},fY Z N n0 B.b J [] π σ->as.map (Tm.app π)=us.map (Tm.app σ):=λz=>an ⟨z.sat,z.vc⟩;have j:∀t∈as,∀n,t.has n->Good N n0 hv n:=λt m n h=>.inl<|a.vs t m n h;obtain⟨τ,ω,V⟩:=tw d T.ok.aw g G X j;have ib:=λt m=>(List.mem_iff_getElem?.mp m).elim λi A=>(C i t A).2.1;refine WB (f:=fk) (picks:=picks) T.ok d g G X j ib λm o u r=>?_;rw[M] at o u r m;show K T O hl (λi t h=>bQ 1 i▸⟨(C i t h).1,(C i t h).2.1⟩) (λt m e=>(List.mem_iff_getElem?.mp e).elim λi A=>(C i t A).2.2 m) (V.fD l) (by rw[M];show m) (by rw[M];show o) (by rw[M];show u) (by rw[M];show r) (λk=>(s.nw k).trans ⟨λh=>h.elim (λh=>have z:=(J_.mv k).mp h;⟨.inl z.1,z.2⟩) λw=>w.elim λt Y=>Y.elim λm h=>⟨.inr ⟨t,m,h⟩,(a.vs t m k h).2⟩,λh=>h.1.imp (λz=>(J_.mv k).mpr ⟨z,h.2⟩) id⟩) (have z:=Mf J_.fz λy=>.inl;(E6 J_.L.mp z (λy y h=>h.elim) λx m n h=>(h)▸zD J_.L.mp z (λt m n h=>.inl<|.inr ⟨t,m,h⟩) m).1)
end
variable{L:Int}
section
variable{c:Cs}{S2:Sb}{bF:Bd}{LL:Int}
def C9(h:cU Z t=AB)(J:t.has n):t=.v n/\Z.void n=AB:=by
 rcases t with k|_
 .show⟨aF Tm.v J,(J)▸h⟩
 all_goals show(aI h).elim
def aH8(h:cU Z t=AB):∃n,t=.v n:=by
 rcases t with k|_
 .show⟨k,rfl⟩
 all_goals show(aI h).elim
def Lk.pair(U:UA Z N hv W dead living l r)(L:Lk N n0 hv Z P b Sp ks bF kF val)(X:BQ (λt=>∀n,t.has n->W n\/N<=n) b)(π:Sb):(P π/\∀p∈cN l r,mE Z π p)↔∃J,(Sat b J/\l.app J=r.app J)/\∀n,Good N n0 hv n->J n=π n:=by
 have H:=tO (l:=l) (r:=r);have vs:∀{p n},p∈cN l r->p.1.has n\/p.2.has n->n<N:=λm h=>((H.has _).mp ⟨_,m,h⟩).elim (U.s1.vs _)<|U.s2.vs _;have O:∀{p n},p∈cN l r->¬Vv Z p->p.1.has n\/p.2.has n->Good N n0 hv n:=λm T h=>.inl ⟨vs m h,λz=>T<|(U.uv _ m _ h).mp z⟩;have R:∀{p} {σ τ:Sb},p∈cN l r->¬Vv Z p->(∀n,Good N n0 hv n->σ n=τ n)->(p.1.app σ=p.2.app σ↔p.1.app τ=p.2.app τ):=λm T a=>by rw[app_congr λn h=>a n<|O m T (.inl h),app_congr λn h=>a n<|O m T (.inr h)]
 constructor
 .rintro ⟨C,he⟩
  obtain⟨B,I,A⟩:=(L.pp π).mp C;have E:∀n,(∃p∈cN l r,Vv Z p/\(p.1.has n\/p.2.has n))->¬(W n\/N<=n)/\¬Good N n0 hv n:=λn S=>S.elim λp G=>G.elim λm D=>D.elim λv h=>by
   have lt:=vs m h;have Y:=h.elim (λh=>(C9 v.1 h).2) λh=>(C9 v.2 h).2;have K:=((H.has n).mp ⟨p,m,h⟩).elim (λh=>(U.vo n Y).2 l h_ h) λh=>(U.vo n Y).2 r (.tail _ h_) h;show⟨λz=>z.elim K<|Nat.not_le.mpr lt,λg=>g.elim (λg=>g.2<|(U.uv p m n h).mpr v) λg=>Nat.not_le.mpr lt g.1⟩
  classical
  have M:∀n,¬(∃p∈cN l r,Vv Z p/\(p.1.has n\/p.2.has n))->(λn=>if ∃p∈cN l r,Vv Z p/\(p.1.has n\/p.2.has n) then Tm.c AD 0 else B n) n=B n:=λn h=>aB h
  refine⟨λn=>if ∃p∈cN l r,Vv Z p/\(p.1.has n\/p.2.has n) then .c AD 0 else B n,⟨λx t h=>?_,(H.app _).mpr λp m=>?_⟩,λn g=>(M n λz=>(E n z).2 g).trans<|A n g⟩
  .have q:=X _<|nN h;show(M x λz=>(E x z).1<|q.1 x rfl).trans<|(I x t h).trans (app_congr λn hn=>(M n λz=>(E n z).1<|q.2 n hn).symm)
  by_cases v:Vv Z p
  .have ev:∀{t:Tm},cU Z t=AB->(∀n,t.has n->p.1.has n\/p.2.has n)->t.app (λn=>if ∃p∈cN l r,Vv Z p/\(p.1.has n\/p.2.has n) then Tm.c AD 0 else B n)=.c AD 0:=λht Q=>(aH8 ht).elim λn e=>by
    rw[e];show aC ⟨p,m,v,Q n (by rw[e];rfl)⟩
   show(ev v.1 λy=>.inl).trans (ev v.2 λy=>.inr).symm
  show(R m v λn g=>(M n λz=>(E n z).2 g).trans<|A n g).mpr<|(he p m).resolve_left v
 rintro ⟨J,⟨s,e⟩,a⟩
 show⟨(L.pp π).mpr ⟨J,s,a⟩,λp m=>(lb<|Vv Z p).imp id λv=>(R m v a).mp<|(H.app J).mp e p m⟩
def aEI(h:Z.perm k=AB->(Z.slot k:Int)<=living):yV living (place Z k)=AB:=by
 unfold place yV;by_cases q:Z.perm k=AB
 .rw[aC q,rP];show .inr<|a6 ⟨rfl,h q⟩
 rw[aB q];rfl
variable{Fl:List Ev->Prop}(rl:Rules R Fl Dn sig picks)(inj:Inj Z N)
include rl inj
section
variable(J_:Js Z N n0 hv W dead P c F S val p)
def aHw(U:UA Z N hv W dead F.living l r)(P:(eh p.b l r/\Fl p.evs)\/∃b' S2,Met p.b p.S l r b' S2/\∀{F' S' val' P'},Js Z N n0 hv (λk=>W k\/e6 k (.fE l r)) dead P' (tj Z l r c).2 F' S' val' ⟨b',S2,p.ks,p.evs⟩->F'.living=F.living->R is F'):R ((tj Z l r c).1++is) F:=by
 have T:=J_.L.pair U J_.fz;have H:=tO (l:=l) (r:=r);have fr:Fr Z val [l,r]:=λk v=>⟨(U.vo k v).1,λt m h=>ij λz=>(U.vo k v).2 t m h ((J_.mv k).mp z).1⟩;rcases P with ⟨Y,A⟩|⟨b',S2,M,K⟩;show Rk rl inj (λo=>show Fl F.evs from J_.ev.symm▸A) J_.I J_.E J_.rest U.s1 U.s2 fr λG I E hr=>(Cn I.ok.aw λk t h=>(I.vk k t h).lt).elim λπ s=>((T π).mp<|E.snd s).elim λJ z=>absurd z.1.2<|Y J z.1.1
 refine Rk rl inj (λh=>absurd ((T S2).mpr ⟨S2,(M.sat S2).mp M.aw.sol,λo o=>rfl⟩)<|h S2) J_.I J_.E J_.rest U.s1 U.s2 fr λG I E hr=>?_;have D:∀k,e6 k (.fE l r)↔l.has k\/r.has k:=λk=>⟨λ⟨t,m,h⟩=>(JJ.mp m).elim (λe=>.inl<|e▸h) λm=>.inr<|JK.mp m▸h,λh=>h.elim (λh=>⟨l,.head _,h⟩) λh=>⟨r,.tail _ h_,h⟩⟩;have O:∀k,(∃p∈cN l r,vV Z p k)↔e6 k (.fE l r)/\¬hv k:=λk=>⟨λC=>C.elim λp B=>B.elim λm h=>⟨(D k).mpr<|(H.has k).mp ⟨p,m,h.1⟩,λz=>h.2<|(U.uv p m k h.1).mp z⟩,λC=>C.elim λh z=>((H.has k).mpr<|(D k).mp h).elim λp y=>⟨p,y.1,y.2,λv=>z<|(U.uv p y.1 k y.2).mpr v⟩⟩;refine K ⟨I.base,E,⟨M.aw,λπ=>(T π).trans ⟨λC=>C.elim λJ B=>B.elim λs a=>⟨J,(M.sat J).mpr s,a⟩,λC=>C.elim λJ B=>B.elim λs a=>⟨J,(M.sat J).mp s,a⟩⟩,λz=>?_,J_.L.kv⟩,I.fx.1.trans J_.ev,hr,λk=>(G k).trans<|(or_congr (J_.mv k)<|O k).trans or_and_right.symm,λk d=>.inl<|J_.dM k d,λk h d v q=>?_,M.c7 _ ⟨λo o h=>h,λo o o h=>⟨λn z=>h n<|.inl z,λn z=>h n<|.inr z⟩⟩ (Mf J_.fz λo=>.inl) (λn h=>.inl<|.inr ((D n).mpr<|.inl h)) λn h=>.inl<|.inr ((D n).mpr<|.inr h)⟩ I.fx.2.1
 .have q:=I.an _ _ ⟨z.sat,z.vc⟩;rw[I.fx.2.2];show J_.L.ke ⟨q.1,z.ag,q.2,z.pd⟩
 rw[I.fx.2.1];show h.elim (λh=>J_.sl k h d v q) λC=>C.elim λt B=>B.elim λm h=>U.sl t m k h v q
def Up(B:p5 Z N sig hv W dead F.living i L<|.bi f as)(Q:-2<=F.living)(I:fD p.S as)(r:ay (p.ev (.bi f as) picks).1 S2)
  (K:∀{F' S' val' P'},Js Z N n0 hv (λk=>W k\/e6 k (.bi f as)) dead P' (hG Z (.bi f as) i c).2 F' S' val' (p.to (.bi f as) picks S2)->F'.living=F.living->R is F'):R ((hG Z (.bi f as) i c).1++is) F:=by
 change R ((jC Z (-1) as 1 c).1++[.mC f]++is) F;rw[bp];refine EP rl inj (fk:=(1,f)) J_ B.2 Q I λT C D Y o E m u P j A X=>?_;obtain rfl:=Gu P.mp r;have el:=T.fx.2.1;refine rl.mC C ⟨B.1.1.trans D,D▸B.1.2⟩ Y T.ok.aw T.ok.cR E<|K ⟨T.past m λk t e z O=>⟨O,aEI λq=>?_⟩,u,P,j.symm,C,A,λk d=>.inl<|J_.dM k d,λk h d v q=>?_,X⟩ el
 .rw[el];show((A k).mp λy=>dN y e).1.elim (λh=>J_.sl k h O z q) λM=>M.elim λt J=>J.elim λG h=>B.2.sl t G k h z q
 rw[el];show h.elim (λh=>J_.sl k h d v q) λM=>M.elim λt J=>J.elim λG h=>B.2.sl t G k h v q
end
end
def isCall:Gl->Bool
 | .call _ _=>AB|_=>AD
def DX(Z:Pl)(N:Nat)(J:Nat->Nat)(C:Nat->Prop)(B:Nat->Nat)(e:Bool)(gs:List Gl):Nat->(Nat->Prop)->(Nat->Prop)->Int->Prop:=
 AO (λy y y y=>True) (λg gs D i W dead living=>
  (gs=[]->p5 Z N J C W dead living i (-1) g/\(e=AD->living=-1))/\
  (gs≠[]->p5 Z N J C W dead living i (B i) g/\(isCall g=AB->(B i)<=living)/\
   D (i+1) (λk=>W k\/e6 k g) (λk=>if isCall g=AB then dead k\/((W k\/e6 k g)/\¬(Z.perm k=AB/\Z.slot k<=B i)) else dead k) (if isCall g=AB then(B i) else living))) gs
variable{l:List Tm}{gs:List Gl}{la:Nat->Nat}{e w:Bool}
section
variable{c:Cs}{S2:Sb}{LL:Int}{Fl:List Ev->Prop}
def Js.tw(J_:Js Z N n0 hv W dead P c F S val p):∃τ ω,k9 (p.ks.map<|Tm.app p.S) (F.kept.map<|Tm.app S) τ ω:=Mine.U.tw J_.E J_.I.ok.aw J_.L (λk t h=>(J_.I.vk k t h).lt) J_.L.ke J_.L.kv
def M5(h:isCall g=AB):∃f as,g=.call f as:=by
 rcases g with ⟨f,as⟩|_
 .show⟨f,as,rfl⟩
 all_goals show(aI h).elim
def Lc(h:isCall g=AD):qW g=.proceed/\uj n g=[]:=by
 rcases g with ⟨f,as⟩|_;show nomatch h
 all_goals show⟨rfl,rfl⟩
variable(rl:Rules R Fl Dn sig picks)(inj:Inj Z N)
include rl inj
def O4{J:Prop}{Y:PS->Prop}(X:isCall g=AD)(J_:Js Z N n0 hv W dead P c F S val p)(G:p5 Z N sig hv W dead F.living i L g)(Q:-2<=F.living)(O:wW picks p J Y g)(I:J->Fl p.evs)
  (K:∀{F' S' val' P' E},Y E->Js Z N n0 hv (λk=>W k\/e6 k g) dead P' (hG Z g i c).2 F' S' val' E->F'.living=F.living->R is F'):R ((hG Z g i c).1++is) F:=by
 rcases g with ⟨f,as⟩|⟨f,as⟩|⟨l,r⟩;show nomatch X;show O.elim λA D=>D.elim λS2 B=>B.elim λj T=>Up rl inj J_ G Q A j<|K T;show aHw rl inj J_ G<|O.imp (λz=>⟨z.1,I z.2⟩) λD=>D.elim λb' B=>B.elim λS2 C=>C.elim λM T=>⟨b',S2,M,K T⟩
def aBi(J_:Js Z N n0 hv W dead P c F S val p)(u:F.living=living)(A:-2<=living)(M:p5 Z N sig hv W dead living i (-1) g)(j:e=AD->living=-1)(O:jN picks [g] p q w)(v:w=AD->Fl q.evs)(K:∀{G S2 τ ω},w=AB->G.evs=q.evs->ay G.b S2->k9 (q.ks.map<|Tm.app q.S) (G.kept.map<|Tm.app S2) τ ω->Dn G):R (iy Z la e [g] i c) F:=by
 subst u;change R ((hG Z g i c).1++((if e=AB then[bN.jW] else[])++[qW g])) F
 rcases hc:isCall g with _|_
 .rw[(Lc (n:=0) hc).1];have O:wW picks p (q=p/\w=AD) (λp=>q=p/\w=AB) g:=O;refine O4 rl inj hc J_ M A O (λz=>z.1▸v z.2) λz J_ el=>?_;obtain⟨rfl,E⟩:=z;obtain⟨τ,ω,V⟩:=J_.tw;rcases e with _|_;show rl.proceed J_.rest (el.trans<|j rfl)<|K E J_.ev J_.I.ok.aw V;show rl.jW J_.rest<|rl.proceed J_.rest rfl (K E J_.ev J_.I.ok.aw V)
 obtain⟨f,as,rfl⟩:=M5 hc;obtain⟨r,S2,a,rfl,E⟩:=O;refine EP rl inj (fk:=(0,f)) J_ M.2 ⋯ r λ{s l Q us x d P'} B J L D T C m E2 Y o mv y=>?_
 obtain rfl:=Gu Y.mp a;have el:=B.fx.2.1;obtain⟨τ,ω,V⟩:=Mine.U.tw E2 m.ok.aw Y (λk t h=>(B.vk k t h).lt) Y.ke Y.kv;have D_:Dn<|mK s l us (0,f) (iV<|-1) (-1) picks:=K E o.symm m.ok.aw V;have X:=And.intro (M.1.1.trans L)<|L▸M.1.2;rcases e with _|_;show rl.exec J X D (el.trans<|j rfl) B.ok.aw B.ok.cR C T D_;show rl.jW J<|rl.exec J X D rfl B.ok.aw B.ok.cR C T D_
def YS:∀{i W dead living c F S val p P},DX Z N sig hv la e gs i W dead living->gs≠[]->Js Z N n0 hv W dead P c F S val p->F.living=living->-2<=living->jN picks gs p q w->(w=AD->Fl q.evs)->(∀{G S2 τ ω},w=AB->G.evs=q.evs->ay G.b S2->k9 (q.ks.map<|Tm.app q.S) (G.kept.map<|Tm.app S2) τ ω->Dn G)->R (iy Z la e gs i c) F:=by
 induction gs with
 |nil=>show λo h=>absurd rfl h|cons g gs x=>
  intro i W dead living c F S val p P J _ J_ hl C C_ Y X;rcases gs with _|⟨l,gs⟩
  .have J:=J.1 rfl;show aBi rl inj J_ hl C J.1 J.2 C_ Y X
  obtain⟨J,ol,B⟩:=J.2<|jv _ _;subst hl;change R ((hG Z g i c).1++(uj (la i) g++iy Z la e (l::gs) (i+1) (hG Z g i c).2)) F;rcases hc:isCall g with _|_
  .rw[hc] at B;rw[(Lc hc).2];have C_:wW picks p (q=p/\w=AD) (λp=>jN picks (l::gs) p q w) g:=C_;show O4 rl inj hc J_ J C C_ (λz=>z.1▸Y z.2) λz J_ el=>x B (jv _ _) J_ el C z Y X
  have I:=ol hc;rw[hc] at B;obtain⟨f,as,rfl⟩:=M5 hc;obtain⟨s,S2,Mq,C_⟩:=C_;have D:-2<=((la i):Int):=du ⋯<|eI _
  refine EP rl inj (fk:=(0,f)) J_ J.2 D s λ{F1 S1 r us S2' Sp' P'} T L M K Q A m E2 n ev v fz=>?_;cases Gu n.mp Mq;have el:=T.fx.2.1;refine rl.call L ⟨J.1.1.trans M,M▸J.1.2⟩ K (el▸I) T.ok.aw T.ok.cR A (λt m ht e z=>ht.elim (λht=>Q t m ht e z) λa=>a.elim λj O=>O.elim λhj hy=>?_)<|x (p:=p.to (.call f as) picks S2) B (jv _ _) ⟨T.past m λk t ek z u=>?_,E2,n,ev.symm,L,v,λk d=>d.elim (λd=>.inl<|J_.dM k d) λd=>d.1,λk h d o o=>?_,fz⟩ rfl D C_ Y X
  .obtain⟨k,e1,e2,e3,e4⟩:=T.yh j t hy;show(((T.vk k t e1).nv e2).lvl m e z).elim (λh=>du h D) λh=>du h.2.1<|e4▸Int.ofNat_le.mpr hj
  .have mk:=((v k).mp λy=>dN y ek).1;have E:=ij λy=>u<|.inr ⟨mk,y⟩;refine⟨λd=>u<|.inl d,?_⟩;unfold place iV;rw[aC E.1];show a6 ⟨rfl,Int.ofNat_le.mpr E.2⟩
  have E:=ij λy=>d<|.inr ⟨h,y⟩;show Int.ofNat_le.mpr E.2
end
structure Start(N n0:Nat)(call:List Tm)(F:FS):Prop where
 b:F.b=[]
 rest:F.rest=[]
 kept:F.kept=call
 evs:F.evs=[]
 sp:F.aG=n0
 args:∀j T,call[j]?=AA T->F.hold (aP (1+j))=AA T
 ys:∀n,F.hold (yP n)=AE
 bB:∀T∈call,aZ n0 T/\∀k,T.has k->N<=k
 loose:∀x∈F.loose,(x<=n0/\F.ls x=-2)/\∀T∈call,aR T=AB->¬T.has x
def Fd(Z:Pl)(O:List Tm)(goals:List Gl)(k:Nat):Prop:=Z.void k=AB/\((∃t∈O,t.has k)\/∃l r,.fE l r∈goals/\∃p∈cN l r,Vv Z p/\(p.1.has k\/p.2.has k))
structure Plan(Z:Pl)(N:Nat)(sig:Nat->Nat)(la:Nat->Nat)(e:Bool)(es:Nat)(O:List Tm)(goals:List Gl):Prop where
 inj:Inj Z N
 hs:∀t∈O,aR t=AD
 va:∀t∈O,∀k,t.has k->k<N
 once:∀k,Z.void k=AB->dz k O<=1
 sl:∀t∈O,∀k,t.has k->Z.void k=AD->Z.perm k=AB->(Z.slot k:Int)<=if e=AB then(es:Int) else -1
 gk:DX Z N sig (Fd Z O goals) la e goals 0 (λk=>∃t∈O,t.has k) (λy=>False) (if e=AB then(es:Int) else -1)
 ne:goals≠[]
section
variable{es:Nat}{c:Cs}{S2:Sb}{O call:List Tm}{goals:List Gl}{Fl:List Ev->Prop}
def SH:∀{Ts:List Tm} {i:Nat} {e:Pe},e∈rL D Ts i->∃j,D[j]?=AA e.t/\Ts[j]?=AA e.T/\e.p=AA (aP<|i+j)/\e.h=AB:=by
 induction D with
 |nil=>show λm=>aW m|cons t D L=>
  intro Ts i e m
  induction Ts using List.casesOn with
  |nil=>show aW m|cons T Ts=>show(JJ.mp m).elim (λq=>q▸⟨0,rfl,rfl,rfl,rfl⟩) λm=>((L m).elim λj C=>C.elim λa B=>B.elim λb J=>J.elim λc d=>⟨j+1,a,b,by rw[c,dX,bH],d⟩)
def DY(N B:Nat)(C:Nat->Prop)(O J:List Tm)(π:Sb):Prop:=∃ρ:Sb,O.map (Tm.app ρ)=J.map (Tm.app ρ)/\∀n,Good N B C n->ρ n=π n
def Ol{J:Sb}(h:∀t∈as,∀n,t.has n->J n=σ n):as.map (Tm.app J)=as.map (Tm.app σ):=jO λt m=>app_congr<|h t m
def Yf:∀{Ts:List Tm} {i:Nat},D.length=Ts.length->(∀t∈D,aR t=AD)->(∀k,Z.void k=AB->dz k D<=1)->(∀e∈rL D Ts i,(e.h=AB/\cU Z e.t=AB)\/e.t.app π=e.T.app σ)->∃ρ:Sb,(∀k,¬(Z.void k=AB/\∃t∈D,t.has k)->ρ k=π k)/\D.map (Tm.app ρ)=Ts.map (Tm.app σ):=by
 induction D with
 |nil=>show λhl y y y=>⟨π,λy y=>rfl,by obtain rfl:=TG.mp hl.symm;rfl⟩|cons t D E=>
  intro Ts i hl L o h
  induction Ts using List.casesOn with
  |nil=>show nomatch hl
  |cons T Ts=>
   obtain⟨ρ,J,M⟩:=E (oW hl) (λt m=>L t<|.tail _ m) (λk q=>aA (bU _ _)<|o k q) λe m=>h e<|.tail _ m;have h1:=h _ h_;have C:∀{k},¬(Z.void k=AB/\∃u∈t::D,u.has k)->¬(Z.void k=AB/\∃u∈D,u.has k):=λh q=>h ⟨q.1,q.2.elim λu B=>B.elim λm z=>⟨u,.tail _ m,z⟩⟩
   induction t using U.Tm.casesOn with
   |c b z=>show⟨ρ,λk q=>J k<|C q,List.cons_eq_cons.mpr ⟨h1.resolve_left (λq=>nomatch q.2),M⟩⟩
   |v k=>
    by_cases v:Z.void k=AB
    .have no:∀u∈D,¬u.has k:=λu m q=>lT (o k v) (gW<|rfl)<|jn m q;refine⟨λn=>if n=k then T.app σ else ρ n,λj q=>(aB λe:j=k=>q ⟨e▸v,_,.head _,e.symm⟩).trans<|J j (C q),List.cons_eq_cons.mpr ⟨aC rfl,?_⟩⟩
     rw[<-M];show Ol λu m n q=>aB λe:n=k=>no u m<|e▸q
    show⟨ρ,λk q=>J k<|C q,List.cons_eq_cons.mpr ⟨(J k λq=>v q.1).trans<|h1.resolve_left λq=>v q.2,M⟩⟩
   |s1=>show nomatch L _ h_
   |s2=>show nomatch L _ h_
def Le(L:∀k,Z.void k=AB->(∃t∈O,t.has k)->hv k)(T:∀k,hv k->Z.void k=AB)(R:O.length=call.length)(M:∀t∈O,aR t=AD)(B:∀k,Z.void k=AB->dz k O<=1)(D:∀t∈O,∀n,t.has n->n<N)(Y:∀t∈call,∀n,t.has n->N<=n/\n<=n0):Eqv Z N n0 (DY N n0 hv O call) [] (λy=>AE)<|rL O call 1:=by
 refine⟨λs=>?_,λG=>G.elim λρ J=>J.elim λh1 C=>⟨ρ,⟨(λy y e=>dN rfl e),λn a b=>C n<|.inr ⟨a,b⟩,(λy y e=>dN rfl e),λe m=>?_⟩⟩⟩
 .obtain⟨ρ,h1,C⟩:=Yf R M B s.pd;refine⟨ρ,?_,λn g=>h1 n λq=>g.elim (λg=>g.2<|L n q.1 q.2) λg=>q.2.elim λt J=>J.elim λm h=>Nat.not_lt.mpr g.1<|D t m n h⟩;rw[C];show(Ol λt m n h=>have z:=Y t m n h;(h1 n λq=>q.2.elim λt J=>J.elim λm h=>Nat.not_lt.mpr z.1<|D t m n h).trans (s.ag n z.1 z.2).symm).symm
 obtain⟨j,a,b,_,A⟩:=SH m;have E:(O.map<|Tm.app ρ)[j]?=(call.map<|Tm.app ρ)[j]?:=by rw[h1]
 rw[f3,f3,a,b] at E
 cases v:cU Z e.t with
 |true=>show .inl ⟨A,rfl⟩|false=>
  refine .inr<|(app_congr λk hk=>(C k<|.inl ⟨D _ (eK a) k hk,λq=>?_⟩).symm).trans (ai E);have z:=M _<|eK a
  cases ht:e.t with
  |v j=>
   rw[ht] at hk v;show aI<|v.symm.trans ((hk)▸T k q)
  |c=>rw[ht] at hk;show hk|s1=>rw[ht] at z;show nomatch z
  |s2=>rw[ht] at z;show nomatch z
def M3(I:Start N n0 call F)(B:∀t∈O,∀k,t.has k->k<N):Inv Z N n0 (F.bs λy=>AE) lv ⟨[],[],N⟩ F .v (λy=>AE)<|rL O call 1:=
 ⟨⟨I.b▸ay.nil,λp m=>(by rw[I.b] at m;show aW m),λx m=>⟨I.sp▸(I.loose x m).1.1,m7 (I.loose x m).1.2.symm⟩⟩,bJ I.sp.symm,⟨rfl,rfl,rfl⟩,λy y h=>h,λy y y=>rfl,λy m=>(aW m),λy y e=>(dN rfl e),aV _,λn t h=>dN (I.ys n) h,λe m=>by
  obtain⟨j,a,b,d,h⟩:=SH m;have m':=eK b;have q:=I.bB _ m';refine⟨I.sp▸q.1,?_,(λz=>nomatch h.symm.trans z),(λp z=>ai (d.symm.trans z)▸⟨I.args j _ b,.inl rfl⟩),B _<|eK a⟩
  cases hv:e.T.bO with
  |true=>show .inl (by rw[qP];show hv)|false=>
   refine .inr λx J C=>(I.loose x C).2 _ m' ?_ (by rw[qP] at J;show J)
   rw[qP] at J
   cases ht:e.T with
   |v=>rw[ht] at hv;show nomatch hv
   |c=>rw[ht] at J;show J.elim|s1=>rfl|s2=>rfl⟩
variable(rl:Rules R Fl Dn sig picks)
include rl
section
variable(I:Start N n0 call F)(hl:O.length=call.length)(pn:Plan Z N sig la e es O goals)
def Yi(J:∀σ,O.map (Tm.app σ)≠call.map (Tm.app σ))(B:Fl []):R ((hH Z O 1 ⟨[],[],N⟩).1++is) F:=
 Md rl (P:=DY N n0 (Fd Z O goals) O call) (λy=>show Fl F.evs from I.evs▸B) pn.inj (λy=>trivial) pn.hs hl (λx m=>(I.loose x m).1.2) (M3 I pn.va) (I.b▸Le (λy v h=>⟨v,.inl h⟩) (λy h=>h.1) hl pn.hs pn.once pn.va λt m n h=>⟨(I.bB t m).2 n h,(I.bB t m).1.lo n h⟩) I.rest λC I E y y=>by
  obtain⟨π,s⟩:=Cn I.ok.aw λk t h=>(I.vk k t h).lt;obtain⟨ρ,h,_⟩:=E.snd s;show absurd h<|J ρ
def K3(D:F.living=if e=AB then(es:Int) else -1){T:Bd}{C:Sb}(M:ay T C)(B:∀σ,Sat T σ↔O.map (Tm.app σ)=call.map (Tm.app σ))(X:BQ (λt=>∀n,t.has n->(∃t∈O,t.has n)\/N<=n) T)(u:jN picks goals ⟨T,C,call,[]⟩ q w)(j:w=AD->Fl q.evs)(r:∀{G S2 τ ω},w=AB->G.evs=q.evs->ay G.b S2->k9 (q.ks.map<|Tm.app q.S) (G.kept.map<|Tm.app S2) τ ω->Dn G):R ((hH Z O 1 ⟨[],[],N⟩).1++iy Z la e goals 0 (hH Z O 1 ⟨[],[],N⟩).2) F:=by
 have L:∀t∈call,∀n,t.has n->N<=n/\n<=n0:=λt m n h=>⟨(I.bB t m).2 n h,(I.bB t m).1.lo n h⟩;refine Md rl (P:=DY N n0 (Fd Z O goals) O call) (lv:=λy=>¬False) (λh=>absurd ⟨C,(B C).mp M.sol,λy y=>rfl⟩<|h C) pn.inj (λy=>id) pn.hs hl (λx m=>(I.loose x m).1.2) (M3 I pn.va) (I.b▸Le (λy v h=>⟨v,.inl h⟩) (λy h=>h.1) hl pn.hs pn.once pn.va L) I.rest λ{F' S' val'} g Y E hr K=>?_;have Q:=Y.fx.2.2.trans I.kept;have el:F'.living=F.living:=Y.fx.2.1;refine YS rl pn.inj (p:=⟨T,C,call,[]⟩) pn.gk pn.ne ⟨Y.base,E,⟨M,λπ=>⟨λA=>A.elim λρ J=>J.elim λa b=>⟨ρ,(B ρ).mpr a,b⟩,λA=>A.elim λρ J=>J.elim λa b=>⟨ρ,(B ρ).mp a,b⟩⟩,λs=>?_,λt m n h=>.inr<|L t m n h⟩,Y.fx.1.trans I.evs,hr,λk=>(K k).trans<|(vf λh=>h rfl).trans ⟨λh=>⟨h.2,λz=>aI<|h.1.symm.trans z.1⟩,λh=>⟨Bool.eq_false_iff.mpr λz=>h.2 ⟨z,.inl h.1⟩,h.1⟩⟩,λk d=>d.elim,λk h y v q=>?_,X⟩ (el.trans D) ?_ u j r
 .rw[Q];show jO λt m=>app_congr λn h=>(s.ag n (L t m n h).1 (L t m n h).2).symm
 .rw[el,D];show h.elim λt z=>pn.sl t z.1 k z.2 v q
 split
 show du ⋯<|eI _
 decide
end
end
section
variable{d:Nat}{L:List Nat}{f:Nat×Nat}
def Ew(h:t.has m):(σ m).dep<=(t.app σ).dep:=by
 induction t with
 |v k=>show bJ (aF (λk=>(σ k).dep) (h).symm)|c=>show h.elim|s1 f x J=>show eM (J h)|s2 f x y C B=>show eM<|h.elim (λh=>aA (C h)<|ly _ _) λh=>aA (B h) (l4 _ _)
def Vc(h:t.has m)(J:t.bO=AD):(σ m).dep<(t.app σ).dep:=by
 rcases t with _|_|⟨f,x⟩|⟨f,x,y⟩;show nomatch J;show h.elim;show ip<|Ew h;show ip<|h.elim (λh=>aA (Ew h)<|ly _ _) λh=>aA (Ew h) (l4 _ _)
def LJ{M:Nat}(h:∀m,t.has m->(σ m).dep<=M):(t.app σ).dep<=t.dep+M:=by
 induction t with
 |v k=>show aA (h k rfl) (bU _ _)|c=>show bK _|s1 f x J=>show aA (bj<|J h) (bJ (w5 _ _).symm)|s2 f x y C B=>
  refine aA (bj<|Nat.max_le.mpr ⟨aA (C λm q=>h m<|.inl q)<|bX (ly x.dep y.dep) M,aA (B λm q=>h m<|.inr q)<|bX (l4 x.dep y.dep) M⟩)<|bJ (w5 _ _).symm
def LB{p q:α->Bool}(B:∀x,p x=AB->q x=AB){l:List α}{x:α}(m:x∈l)(T:q x=AB)(C:p x=AD):l.countP p+1<=l.countP q:=by
 induction l with
 |nil=>show aW m|cons y l D=>
  rw[Sq,Sq];have J:l.countP p<=l.countP q:=Sr λx z h=>B x h;rcases JJ.mp m with rfl|m
  .rw[T,C,aB aI,aC rfl];show bj J
  rw[dX];refine bW (D m) ?_;rcases e:p y with _|_;show bK _;rw[B y e];show aV _
def cnt(b:Bd)(S:Sb)(k:Nat):Nat:=b.countP λp=>decide<|(S p.1).dep<=k
def Va(M:ay b S)(L:BQ (λt=>t.dep<=d) b):∀k n,(S n).dep<=k->(S n).dep<=d*cnt b S k:=by
 intro k
 induction k with
 |zero=>show λn h=>aA h (bK _)|succ k C=>
  refine M.ind (λn e h=>M.id n e▸bK _) λn t e D h=>?_;have B:=M.sol n t e;have J:cnt b S k<=cnt b S (k+1):=Sr λx y h=>a6<|eM (dK h);by_cases hk:(S n).dep<=k;show aA (C n hk)<|dY d J;rcases hv:t.bO with _|_
  .have c1:=LB (p:=λp:Nat×Tm=>decide<|(S p.1).dep<=k) (λx h=>a6<|eM (dK h)) (nN e) (a6 h)<|bE hk;have a:=LJ λm T=>C m<|kr (b6 (Vc T hv)<|B▸h);rw[B];show aA a<|aA (aA (bX (L _<|nN e).2 _)<|bJ ((bQ _ _).trans (uR _ _).symm)) (dY d c1)
  refine gA hv λm E=>?_;subst E;rw[B] at h ⊢;show D m rfl h
def pM{l:List Nat}:∀{r:List Nat},l.Nodup->(∀x∈l,x∈r)->l.length<=r.length:=by
 induction l with
 |nil=>show λz z=>bK _|cons x l C=>
  intro r h B;have h:=List.nodup_cons.mp h;have J:=B x h_
  have:=C (r:=r.erase x) h.2 λy m=>(TM λe=>h.1 (by rw[<-e];show m)).mpr<|B y (.tail _ m)
  rw[JH J] at this;show aA (bj this)<|bJ (D8<|TL J)
def Lt(L:List Nat)(d:Nat)(t:Tm):Prop:=(∀n,t.has n->n∈L)/\t.dep<=d
def yr(L:List Nat)(d:Nat):iE<|Lt L d:=⟨λf x h=>⟨h.1,eT h.2⟩,λf x y h=>
 have e:=eT h.2
 ⟨⟨λn q=>h.1 n<|.inl q,aA (ly _ _) e⟩,⟨λn q=>h.1 n<|.inr q,aA (l4 _ _) e⟩⟩⟩
def Gf(M:ay b S)(h:BQ (Lt L d) b)(t:Tm):(t.app S).dep<=t.dep+d*L.length:=LJ λm y=>aA (Va M (λp C=>⟨(h p C).1.2,(h p C).2.2⟩) _ m<|aV _) (dY d (aA List.countP_le_length (by
 have:=pM M.nd λx J=>by
  obtain⟨p,C,rfl⟩:=List.mem_map.mp J;show(h p C).1.1 p.1 rfl
 rw[aO] at this;show this)))
def WA(B:d+d*L.length<=150)(M:ay p.b p.S)(h:BQ (Lt L d) p.b)(J:∀t∈gy g,Lt L d t):fD p.S (gy g)/\BQ (Lt L d) (p.ev g picks).1/\∃S2,ay (p.ev g picks).1 S2:=
 ⟨λt m=>aA (Gf M h t)<|aA (bX (J t m).2 _) B,E6 M h (λy=>⟨λy q=>q.elim,bK _⟩) λx m=>⟨λn q=>(q)▸zD M (λp C=>⟨(h p C).1.1,(h p C).2.1⟩) (λt m=>(J t m).1) m,bK _⟩⟩
end
def zq(B:Nat->Bool)(J:List Nat)(dt:Nat->Bool)(last:Nat->Int):Pl:=⟨B,λk=>decide<|k∈J,λk=>J.idxOf k+1,dt,last⟩
section
variable{void dt:Nat->Bool}{last:Nat->Int}{order:List Nat}
def Yr(h:k∈order):order.idxOf k+1<=order.length:=List.idxOf_lt_length_iff.mpr h
def HN:(place (zq void order dt last) k=yP (order.idxOf k+1)/\k∈order)\/place (zq void order dt last) k=tP k:=by
 by_cases h:k∈order;show .inl ⟨aC<|a6 h,h⟩;show .inr<|aB λq=>h (dK q)
def Yx:Inj (zq void order dt last) N:=λj k y y y y e=>by
 rcases HN with ⟨J,C⟩|J
 .rcases HN with ⟨hk,B⟩|hk
  .rw[J,hk] at e;have e:=oW (l6 e).2;show((p9<|List.idxOf_lt_length_iff.mpr C).symm.trans<|by congr 1).trans<|p9 (List.idxOf_lt_length_iff.mpr B)
  rw[J,hk] at e;show absurd (l6 e).1 ⋯
 rcases HN with ⟨hk,B⟩|hk
 .rw[J,hk] at e;show absurd (l6 e).1 ⋯
 rw[J,hk] at e;show(l6 e).2
end
def PQ:¬t.has k->cg k t=0:=by
 induction t with
 |v m=>show λh=>aB h|c=>show λz=>rfl|s1 f x J=>show J|s2 f x y C B=>show λh=>(congr (aF _<|C λq=>h (.inl q)) (B λq=>h<|.inr q):cg k x+cg k y=0+0)
end Mine.U
section
open PySem PySem.W PySem.Calls PyProof.Rows PySem.SeqAt
namespace Mine
open U
abbrev Aaa:List Nat:=[99,97,108,108]
abbrev Aab:List Nat:=[103,111,97,108]
abbrev Aac:List Nat:=[102,97,105,108,101,100]
abbrev Aad:List Nat:=[98,117,105,108,116,105,110]
abbrev Aae:List Nat:=[116,101,109,112]
abbrev Aaf:List Nat:=[103,111,97,108,95,97,114,103]
abbrev Aag:List Nat:=[100,111,110,101]
abbrev Aah:List Nat:=[95,115,116,114,117,99,116]
abbrev Aai:List Nat:=[112,101,114,109]
abbrev Aaj:List Nat:=[117,110,105,102,121,95,118,97,108,117,101]
abbrev Aak:List Nat:=[115,101,116,95,118,97,108,117,101]
abbrev Aal:List Nat:=[118,111,105,100]
abbrev Aam:List Nat:=[103,101,116,95,115,116,114,117,99,116,117,114,101]
abbrev Aan:List Nat:=[103,101,116,95,108,105,115,116]
abbrev Aao:List Nat:=[117,110,105,102,121,95,108,111,99,97,108,95,118,97,108,117,101]
abbrev Aap:List Nat:=[115,101,116,95,108,111,99,97,108,95,118,97,108,117,101]
abbrev Aaq:List Nat:=[103,101,116,95,118,97,114,105,97,98,108,101]
abbrev Aar:List Nat:=[103,101,116,95,99,111,110,115,116,97,110,116]
abbrev Aas:List Nat:=[112,117,116,95,117,110,115,97,102,101,95,118,97,108,117,101]
abbrev Aat:List Nat:=[112,117,116,95,115,116,114,117,99,116,117,114,101]
abbrev Aau:List Nat:=[117,110,105,102,121,95,118,97,114,105,97,98,108,101]
abbrev Aav:List Nat:=[115,101,116,95,118,97,114,105,97,98,108,101]
abbrev Aaw:List Nat:=[117,110,105,102,121,95,99,111,110,115,116,97,110,116]
abbrev Aax:List Nat:=[115,101,116,95,99,111,110,115,116,97,110,116]
variable{W:Wd}{n a:Nat}{F:ae}{H H':AH}{u v x y:V}
section
variable{Q:V->AH->Prop}
def bV.var(h:F a=AA v)(q:Q v H):bV W n (.var a) F H Q:=⟨h,q⟩
end
variable{ss:aL}
section
variable{Q:Fl->ae->AH->Prop}{e:IE}
end
variable{i:Nat}{op:Bc}{vs:List V}{b:Bool}{P':Prop}{Q':V->AH->Prop}
section
variable{Q:V->AH->Prop}
def aFZ{c:Nat}{J:List<|Nat×V}(B:H[i]?=AA (.inst c J))(h:iS c a=AD)(g:aa J a=AA v)(q:Q v H):Seq (Prim W (.attr a) [.obj i] H) Q:=⟨(⟨⟨B,h,g⟩⟩),q⟩
def q9(p:ee W u x H v)(q:Q v H):Seq (Prim W .sub [u,x] H) Q:=⟨(⟨p⟩),q⟩
def gD{J:AZ}(p:P2 W u v x H H'<|AY J)(q:Q v H'):Seq (Prim W (.bin J) [u,x] H) Q:=⟨(p),q⟩
def n9(p:P2 W u v x H H'<|AI op)(q:Q v H'):Seq (Prim W (.cmp op) [u,x] H) Q:=⟨(p),q⟩
def gY{f:F1}(p:P1 W u v H H'<|λa=>call f.fv [a])(q:Q v H'):Seq (Prim W (.f1 f) [u] H) Q:=⟨(p),q⟩
def aFh(z:vs.length<=aM)(q:Q (.tup vs) H):Seq (Prim W .tup vs H) Q:=⟨(⟨z⟩),q⟩
def kY(z:vs.length<=aM)(q:Q (.lst vs) H):Seq (Prim W .lst vs H) Q:=⟨(⟨z,.val⟩),q⟩
def aFe(q:Q (.bool<|yL u) H):Seq (Prim W .n4 [u] H) Q:=⟨.mk,q⟩
def aFc{l:List V}(h:IsL H l u)(q:Q (.bool<|!l.isEmpty) H):Seq (Prim W .hO [u] H) Q:=⟨(.mk h),q⟩
def aFb{l:List<|List Nat}{s:List Nat}(q:Q (.bool<|l.contains s) H):Seq (Prim W (.fm l) [.str s] H) Q:=⟨.mk,q⟩
def pU(p:dv W oM u x v H H')(q:Q v H'):Seq (Prim W .lV [u,x] H) Q:=⟨(p),q⟩
def tR(p:dv W jd u x v H H')(q:Q v H'):Seq (Prim W .je [u,x] H) Q:=⟨(p),q⟩
def Qf(p:rt W u x y v H H')(q:Q v H'):Seq (Prim W .cut [u,x,y] H) Q:=⟨(p),q⟩
def aFg(p:uW W u v H H')(q:Q v H'):Seq (Prim W .listRev [u] H) Q:=⟨(p),q⟩
def Cz{P:Bool->Prop}(p:P b):Tq (.bool b) H P:=⟨.bool rfl,p⟩
def if1{P:Prop}(h:b=AB)(p:P):(if b=AB then P else P'):=by rw[aC h];show p
def Fe{P:Prop}(h:b=AD)(p:P'):(if b=AB then P else P'):=by rw[h,aB aI];show p
def Fn.mono{f:Nat}(h:Fn W n f vs H Q)(k:∀{v H'},Q v H'->Q' v H'):Fn W n f vs H Q':=λha y y y y y K r c=>h ha K r λq=>c<|k q
end
section
variable{Q:Fl->ae->AH->Prop}
end
variable{α β:Type}
section
abbrev Fa:=List<|Option V
abbrev K1:=V->AH->Prop
abbrev K2:=Fl->Fa->AH->Prop
abbrev il:=List V->AH->Prop
abbrev ET:=Fa->AH->K1->Prop
abbrev wc:=Fa->AH->il->Prop
abbrev BT:=Fa->AH->K2->Prop
universe u
def Yk:Nat:=0
def Yl:Nat:=Yk
def yE:Nat:=Yl
def Ym:Nat:=yE
def cG:Nat:=Ym
@[reducible] def ob{J:Sort u}(o:Option α)(d:J)(f:α->J):J:=CB d f o
def aD(l:List α):Nat->Option α:=AO (λy=>AE) (λx y J k=>BV (AA x) (λk y=>J k) k) l
def a7(l:List α)(v:α):Nat->List α:=AO (λy=>[]) (λx r J k=>BV (v::r) (λk y=>x::J k) k) l
def app(l r:List α):List α:=AO r (λx y J=>x::J) l
section
variable(l:List (Nat×α))(a:Nat)
def fh:Option α:=AO AE (λp y J=>Aa J (AA p.2)<|Ao p.1 a) l
def Fc:Bool:=AO AD (λp y J=>Aa J AB<|Ao p.1 a) l
def Gh(v:α):List<|Nat×α:=AO [] (λp y J=>Aa p (p.1,v) (Ao p.1 a)::J) l
def u3(v:α):List<|Nat×α:=Aa (app l [(a,v)]) (Gh l a v)<|Fc l a
end
def lG(l:List α):Option α:=AO AE (λx y J=>ob J (AA x) AA) l
def gV(l:List α):Bool:=AO AB (λy y y=>AD) l
section
variable(d:β)
def lC(v:V)(f:List V->β):β:=V.casesOn v d (λy=>d) (λy=>d) (λy=>d) f (λy=>d)<|λy=>d
def cInt(v:V)(f:Int->β):β:=V.casesOn v d (λy=>d) f (λy=>d) (λy=>d) (λy=>d)<|λy=>d
def cStr(v:V)(f:List Nat->β):β:=V.casesOn v d (λy=>d) (λy=>d) f (λy=>d) (λy=>d)<|λy=>d
def cBool(v:V)(f:Bool->β):β:=V.casesOn v d f (λy=>d) (λy=>d) (λy=>d) (λy=>d)<|λy=>d
def xO(v:V)(f:Nat->β):β:=V.casesOn v d (λy=>d) (λy=>d) (λy=>d) (λy=>d) (λy=>d) f
def ui(v:V)(f:Nat->β):β:=cInt d v λi=>Int.rec f (λy=>d) i
end
section
variable(d:β)
def oj(v:V)(f:Atom->β):β:=V.casesOn v d (λy=>d) (λi=>f<|.int i) (λs=>f<|.str s) (λy=>d) (λy=>d)<|λy=>d
def Ed(v:V)(f:List V->β):β:=V.casesOn v d (λy=>d) (λy=>d) (λy=>d) f f<|λy=>d
def lM(vs:List V)(f:V->β):β:=AO d (λx r y=>AO (f x) (λy y y=>d) r) vs
def wC(vs:List V)(f:V->V->β):β:=AO d (λx r y=>lM d r<|f x) vs
def at_(H:AH)(v:V)(f:Nat->Cell->β):β:=xO d v λi=>ob (aD H i) d<|f i
def jh(c:Cell)(f:List V->β):β:=Cell.casesOn c f (λy y=>d) (λy y=>d) (λy=>d)<|λy y=>d
def Fp(c:Cell)(f:List (Atom×V)->Nat->β):β:=Cell.casesOn c (λy=>d) f (λy y=>d) (λy=>d)<|λy y=>d
def isSet(c:Cell)(f:List Int->β):β:=Cell.casesOn c (λy=>d) (λy y=>d) (λy y=>d) f<|λy y=>d
def vC(c:Cell)(f:Nat->List (Nat×V)->β):β:=Cell.casesOn c (λy=>d) (λy y=>d) (λy y=>d) (λy=>d) f
end
def atoms(l:List V):Option<|List Atom:=AO (AA []) (λx y J=>oj AE x λa=>ob J AE λr=>AA<|a::r) l
def eO(a:List Nat):List Nat->Bool:=AO (λb=>gV b) (λx z J b=>AO AD (λy r z=>Aa AD (J r)<|Ao x y) b) a
def Gm(s:List Nat)(l:List<|List Nat):Bool:=AO AD (λx y J=>Aa J AB<|eO s x) l
def aK(l:List α):Nat:=AO 0 (λy y J=>BB J) l
def nq(k:Nat):List V:=BV [] (λk J=>app J [.int k]) k
def xB(p:List Int)(k:Int):List Int:=if p.contains k then p else p++[k]
def Q9(J:Bc)(a b:List Nat):Option Bool:=match J with
 | .Eq=>AA (eO a b)| .NotEq=>AA (!eO a b)|_=>AE
def Mv(J:Bc)(a b:Int):Option Bool:=match J with
 | .Eq=>AA (decide<|a=b)| .NotEq=>AA (!decide (a=b))| .Lt=>AA (decide<|a<b)| .LtE=>AA (decide<|a<=b)| .Gt=>AA (decide<|b<a)| .GtE=>AA (decide<|b<=a)|_=>AE
def Ff(H:AH)(u x:V):Option Bool:=at_ AE H x λy c=>Cell.casesOn c (λy=>AE) (λaJ y=>oj AE u λa=>AA (aa aJ a).isSome) (λaJ y=>lC AE u λl=>ob (atoms l) AE λk=>AA (aa aJ k).isSome) (λp=>cInt AE u λk=>AA<|p.contains k)<|λy y=>AE
def Yu(J:Bc)(H:AH)(u x:V):Option Bool:=match J with
 | .In=>Ff H u x| .NotIn=>ob (Ff H u x) AE λb=>AA (!b)|_=>AE
def xV(J:Bc)(H:AH)(u x:V):Option Bool:=xO (cStr (cInt AE u λa=>cInt AE x λb=>Mv J a b) u λa=>cStr AE x λb=>Q9 J a b) x λy=>Yu J H u x
def ug(J:AZ)(u x:V):Option V:=cInt AE u λa=>cInt AE x λb=>match J with
 | .Add=>AA (.int<|a+b)| .Sub=>AA (.int<|a-b)|_=>AE
def rB(H:AH)(v:V):Option<|List V:=V.casesOn v AE (λy=>AE) (λy=>AE) (λy=>AE) AA AA<|λi=>ob (aD H i) AE λc=>jh AE c AA
def atC(H:AH)(a:Nat)(u:V):Option V:=at_ AE H u λy c=>vC AE c λk fl=>Aa (fh fl a) AE<|iS k a
def Sel(t:Bool)(P P':Prop):Prop:=Aa P' P t
def iQ(o:Option V)(H:AH)(Q:K1):Prop:=ob o False λv=>Q v H
def k8(v:V)(H:AH)(P:Bool->Prop):Prop:=V.casesOn v (P AD) P (λy=>Tq v H P) (λy=>Tq v H P) (λy=>Tq v H P) (λy=>Tq v H P)<|λi=>ob (aD H i) (Tq v H P) λc=>jh (Tq v H P) c λl=>P (!gV l)
section
variable(W:Wd)
def ir(u x:V)(H:AH)(Q:K1):Prop:=let J:=Seq (Prim W .sub [u,x] H) Q;V.casesOn u J (λy=>J) (λy=>J) (λy=>J) (λl=>cInt J x λj=>Int.rec (λk=>iQ (aD l k) H Q) (λk=>BV (iQ (lG l) H Q) (λy y=>J) k) j) (λl=>ui J x λk=>iQ (aD l k) H Q)
 λi=>ob (aD H i) J λc=>Cell.casesOn c (λl=>cInt J x λj=>Int.rec (λk=>iQ (aD l k) H Q) (λk=>BV (iQ (lG l) H Q) (λy y=>J) k) j)
  (λaJ y=>oj J x λa=>iQ (aa aJ a) H Q) (λaJ y=>lC J x λl=>ob (atoms l) J λk=>iQ (aa aJ k) H Q) (λy=>J) (λy y=>J)
def iO(J:Bc)(u x:V)(H:AH)(Q:K1):Prop:=ob (xV J H u x) (Seq (Prim W (.cmp J) [u,x] H) Q) λv=>Q (.bool v) H
def IU(J:AZ)(u x:V)(H:AH)(Q:K1):Prop:=ob (ug J u x) (Seq (Prim W (.bin J) [u,x] H) Q) λv=>Q v H
def uC(f:F1)(u:V)(H:AH)(Q:K1):Prop:=let J:=Seq (Prim W (.f1 f) [u] H) Q;F1.casesOn f (ob (rB H u) J λl=>Q (.int l.length) H) J (lC (ob (rB H u) J λl=>Q (.tup l) H) u λy=>J) J J
def wI(a:Nat)(u:V)(H:AH)(Q:K1):Prop:=ob (atC H a u) (Seq (Prim W (.attr a) [u] H) Q) λv=>Q v H
def Io(l:List<|List Nat)(u:V)(H:AH)(Q:K1):Prop:=cStr (Seq (Prim W (.fm l) [u] H) Q) u λs=>Q (.bool<|Gm s l) H
def w6(u:V)(H:AH)(Q:K1):Prop:=lC (ob (rB H u) (Seq (Prim W .hO [u] H) Q) λl=>Q (.bool<|!gV l) H) u λy=>Seq (Prim W .hO [u] H) Q
def Jl(o:Op)(vs:List V)(H:AH)(Q:K1):Prop:=let J:=cG;match o with
 | .tup=>Sel (Bm (aK vs) aM) (Q (.tup vs) H) False| .q4=>Q (.obj<|aK H) (app H [.set []])| .sub=>wC False vs λu x=>ir W u x H Q| .cmp op=>wC False vs λu x=>iO W op u x H Q| .bin op=>wC False vs λu x=>IU W op u x H Q| .f1 f=>lM False vs λu=>uC W f u H Q| .attr a=>lM False vs λu=>wI W a u H Q| .fm l=>lM False vs λu=>Io W l u H Q| .hO=>lM False vs λu=>w6 W u H Q| .n4=>lM False vs λu=>Q (.bool<|yL u) H|o=>Seq (Prim W o vs H) Q
end
def Oy:List<|Nat×List (Nat×Nat):=[(0,[('?',4),('a',6),('+',7),('6',9)]),(5,[(5996636532,19),('k',20),('u',21),('j',22),('b',23),('Z',24),('[',25),('U',26),('V',27),('5',28),('3',29),('X',30),('2',31),('%',32),('G',33),('T',34),('N',35),('/',36),('y',37),('#',38),('O',39),('0',40),('F',41),('Y',42),('D',43),('I',44),('}',45)]),(8,[('u',54)]),(9,[('^',59),('W',60)])]
def Mn:List<|Nat×Nat:=[(0,3),(5,18),(6,47),(7,50),(8,51),(9,58)]
def y9(c m:Nat):Option Nat:=ob (fh Oy c) AE λl=>fh l m
def Dw(W:Wd)(m:Nat)(u:V)(H:AH)(P:Nat->Prop):Prop:=let J:=qD W m u H P;at_ J H u λy c=>vC J c λk fl=>ob (fh fl m) (ob (y9 k m) J P) λy=>J
def n7(m:Mt)(c:Cell):Bool:=Mt.casesOn m (jh AD c λy=>AB) (jh AD c λy=>AB) (jh AD c λy=>AB) (isSet AD c λy=>AB) (isSet AD c λy=>AB) (Cell.casesOn c (λy=>AD) (λy y=>AB) (λy y=>AB) (λy=>AD)<|λy y=>AD)<|Fp AD c λy y=>AB
def k6(W:Wd)(m:Mt)(u:V)(Q:K1)(vs:List V)(H:AH):Prop:=let J:=Seq (c6 W m (u::vs) H) Q;at_ J H u λi c=>Mt.casesOn m
 (lM J vs λv=>jh J c λl=>bP (l.length<aM)<|Q .none (a7 H (.lst<|l++[v]) i))
 (Sel (gV vs) (jh J c λl=>iQ (lG l) (a7 H (.lst l.dropLast) i) Q) J)
 J
 (lM J vs λv=>cInt J v λk=>isSet J c λp=>bP (p.length<4000)<|Q .none (a7 H (.set<|xB p k) i))
 (lM J vs λv=>cInt J v λk=>isSet J c λp=>Q .none (a7 H (.set (p.filter (· != k))) i))
 (wC J vs λx d=>Cell.casesOn c (λy=>J) (λaJ y=>oj J x λa=>Q ((aa aJ a).getD d) H) (λaJ y=>lC J x λl=>ob (atoms l) J λk=>Q ((aa aJ k).getD d) H) (λy=>J)<|λy y=>J)
 (lM J vs λx=>Fp J c λaJ st=>oj J x λa=>bP (aJ.length<=aM)<|iQ (aa aJ a) (a7 H (.dict (qe aJ a)<|st+1) i) Q)
def wR(W:Wd)(u x:V)(H:AH)(Q:K1):Prop:=let J:=Ex λH'=>bP (oY W u x H H')<|Q .none H';at_ J H u λi c=>jh J c λl=>lC J x λr=>bP (l.length+r.length<=aM)<|Q .none (a7 H (.lst<|l++r.reverse) i)
def qd(P P':Prop)(t:Bool):Prop:=let J:=cG;Sel t P P'
def kOp(W:Wd)(o:Op)(Q:K1)(vs:List V)(H:AH):Prop:=let J:=cG;Jl W o vs H Q
@[irreducible] def Fi(W:Wd)(n:Nat)(f:Nat)(vs:List V)(H:AH)(Q:K1):Prop:=Fn W n f vs H Q
section
variable(W:Wd)
def kFn(n f:Nat)(Q:K1)(vs:List V)(H:AH):Prop:=let J:=cG;Fi W n f vs H Q
def aAb(n f:Nat)(u:V)(Q:K1)(vs:List V)(H:AH):Prop:=let J:=cG;Fi W n f (u::vs) H Q
def kMf(n:Nat)(u:V)(l:wc)(F:Fa)(H:AH)(Q:K1)(f:Nat):Prop:=let J:=cG;l F H<|aAb W n f u Q
def kM(n m:Nat)(l:wc)(F:Fa)(Q:K1)(u:V)(H:AH):Prop:=let J:=cG;Dw W m u H<|kMf W n u l F H Q
def N2(m:Mt)(u:V)(Q:K1)(vs:List V)(H:AH):Prop:=let J:=cG;k6 W m u Q vs H
def kBm(m:Mt)(l:wc)(F:Fa)(Q:K1)(u:V)(H:AH):Prop:=let J:=cG;Sel (at_ AD H u λy c=>n7 m c) (l F H<|N2 W m u Q)<|bP (Recv W m u H) (l F H<|N2 W m u Q)
def N3(u:V)(Q:K1)(x:V)(H:AH):Prop:=let J:=cG;wR W u x H Q
def kXr(a:ET)(F:Fa)(Q:K1)(u:V)(H:AH):Prop:=let J:=cG;Sel (at_ AD H u λy c=>jh AD c λy=>AB) (a F H<|N3 W u Q)<|bP (ry W u H) (a F H<|N3 W u Q)
end
def aAh(i:Nat)(Q:K1)(r:V)(H:AH):Prop:=bP (r=.none)<|Q (.obj i) H
def N1(W:Wd)(n c:Nat)(Q:K1)(vs:List V)(H:AH):Prop:=let J:=cG;ob (fh Mn c) (rp W n c vs H Q) λf=>Fi W n f (.obj (aK H)::vs) (app H [.inst c []])<|aAh (aK H) Q
section
variable(b:ET)(F:Fa)(Q:K1)(v:V)(H:AH)
def aAV:Prop:=let J:=cG;k8 v H<|qd (b F H Q) (cBool (Q v H) v λy=>Q (.bool AD) H)
def kOr:Prop:=let J:=cG;k8 v H<|qd (cBool (Q v H) v λy=>Q (.bool AB) H) (b F H Q)
end
def aAj(H:AH)(Q:K1)(t:Bool):Prop:=let J:=cG;Q (.bool<|!t) H
def aAi(Q:K1)(v:V)(H:AH):Prop:=let J:=cG;k8 v H<|aAj H Q
def aAe(a b:ET)(F:Fa)(Q:K1)(v:V)(H:AH):Prop:=let J:=cG;k8 v H<|qd (a F H Q) (b F H Q)
def Ny(w:V)(Q:il)(ws:List V)(H:AH):Prop:=let J:=cG;Q (w::ws) H
def kC(m:AH->il->Prop)(Q:il)(w:V)(H:AH):Prop:=let J:=cG;m H<|Ny w Q
def ed(F:Fa)(x:Nat)(v:V):Fa:=a7 F (AA v) x
def rQ(el:ET)(x:Nat)(F:Fa)(l:List V):AH->il->Prop:=AO (λH Q=>Q [] H) (λv y J H Q=>el (ed F x v) H<|kC J Q) l
def uB(J:AH->Prop)(el:ET)(x:Nat)(F:Fa)(l:List V):AH->il->Prop:=AO (λH Q=>bP (J H)<|Q [] H) (λv y B H Q=>bP (J H)<|el (ed F x v) H (kC B Q)) l
def yS(Q:K1)(ws:List V)(H:AH):Prop:=let J:=cG;qE ws H Q
section
variable(el:ET)(x:Nat)(F:Fa)
def aAY(H:AH)(Q:K1)(J:AH->Prop)(l:List V):Prop:=let B:=cG;bP (l.length<=aM)<|uB J el x F l H (yS Q)
def GG(Q:K1)(J:V)(H:AH):Prop:=let B:=cG;Ed (uI J H<|aAY el x F H Q) J λl=>bP (l.length<=aM)<|rQ el x F l H (yS Q)
def aAZ(Q:K1)(v:V)(H:AH):Prop:=let J:=cG;ui False v λk=>bP (k<=aM)<|rQ el x F (nq k) H (yS Q)
end
def kL(m:wc)(F:Fa)(Q:il)(u:V)(H:AH):Prop:=let J:=cG;m F H<|Ny u Q
mutual
noncomputable def bT(W:Wd)(n:Nat):IE->Fa->AH->K1->Prop
 | .const v,_,H,Q=>Q v H| .var x,F,H,Q=>iQ (ob (aD F x) AE id) H Q| .op o es,F,H,Q=>p4 W n es F H (kOp W o Q)| .call f es,F,H,Q=>p4 W n es F H (kFn W n f Q)| .gK e m es,F,H,Q=>bT W n e F H (kM W n m (p4 W n es) F Q)| .bm m e es,F,H,Q=>bT W n e F H (kBm W m (p4 W n es) F Q)| .jb e a,F,H,Q=>bT W n e F H (kXr W (bT W n a) F Q)| .new c es,F,H,Q=>p4 W n es F H (N1 W n c Q)| .and a b,F,H,Q=>bT W n a F H (aAV (bT W n b) F Q)| .or a b,F,H,Q=>bT W n a F H (kOr (bT W n b) F Q)| .not a,F,H,Q=>bT W n a F H (aAi Q)| .ite c a b,F,H,Q=>bT W n c F H (aAe (bT W n a) (bT W n b) F Q)| .comp e x J,F,H,Q=>bT W n J F H (GG (bT W n e) x F Q)| .gS e x m,F,H,Q=>bT W n m F H<|aAZ (bT W n e) x F Q
noncomputable def p4(W:Wd)(n:Nat):fI->Fa->AH->il->Prop
 | .nil,_,H,Q=>Q [] H| .cons e es,F,H,Q=>bT W n e F H<|kL (p4 W n es) F Q
end
def mN(b:BT)(Q:K2)(J:Fl)(F:Fa)(H:AH):Prop:=let B:=cG;Fl.casesOn J (b F H Q) (Q .brk F H) (Q .cnt F H)<|λv=>Q (.ret v) F H
def i6(w:BT)(Q:K2)(J:Fl)(F:Fa)(H:AH):Prop:=let B:=cG;Fl.casesOn J (w F H Q) (Q .aQ F H) (w F H Q)<|λv=>Q (.ret v) F H
def gJ(P:K1)(J:Fl)(F:Fa)(H:AH):Prop:=let B:=cG;Fl.casesOn J (P .none H) False False<|λv=>P v H
def yT(b w:BT)(F:Fa)(Q:K2)(v:V)(H:AH):Prop:=let J:=cG;k8 v H<|qd (b F H<|i6 w Q) (Q .aQ F H)
def gG(c:ET)(b:BT)(k:Nat):BT:=BV (λy y y=>False) (λy J F H Q=>c F H<|yT b J F Q) k
def d5(x:Nat)(b:BT)(l:List V):BT:=AO (λF H Q=>Q .aQ F H) (λv y J F H Q=>b (ed F x v) H<|i6 J Q) l
def gj(J:AH->Prop)(x:Nat)(b:BT)(l:List V):BT:=AO (λF H Q=>bP (J H)<|Q .aQ F H) (λv y B F H Q=>bP (J H)<|b (ed F x v) H (i6 B Q)) l
def Nv(x:Nat)(F:Fa)(Q:K2)(v:V)(H:AH):Prop:=let J:=cG;Q .aQ (ed F x v) H
def Qn(F:Fa)(xs:List Nat):List V->Option Fa:=AO (λF vs=>AO (AA F) (λy y y=>AE) vs) (λx y J F vs=>AO AE (λv vs y=>J (ed F x v) vs) vs) xs F
def aAv(xs:List Nat)(F:Fa)(Q:K2)(v:V)(H:AH):Prop:=let J:=cG;lC False v λl=>ob (Qn F xs l) False λF=>Q .aQ F H
def aAu(x y:Nat)(u:V)(F:Fa)(Q:K2)(w:V)(H:AH):Prop:=let J:=cG;Q .aQ (ed (ed F y w) x u) H
def kSw(x y:Nat)(b:ET)(F:Fa)(Q:K2)(u:V)(H:AH):Prop:=let J:=cG;b F H<|aAu x y u F Q
def oZ(W:Wd)(u x v:V)(F:Fa)(H:AH)(Q:K2):Prop:=let J:=Ex λH'=>bP (iq W u x v H H')<|Q .aQ F H';at_ J H u λi c=>Cell.casesOn c (λl=>ui J x λk=>bP (k<l.length)<|Q .aQ F (a7 H (.lst<|l.set k v) i))
 (λaJ st=>oj J x λa=>bP (aJ.length<=aM)<|Q .aQ F (a7 H (.dict (cB aJ a v)<|st+1) i)) (λaJ st=>lC J x λl=>ob (atoms l) J λk=>bP (aJ.length<=aM)<|Q .aQ F (a7 H (.az (cB aJ k v)<|st+1) i)) (λy=>J) (λy y=>J)
def aAs(W:Wd)(v u:V)(F:Fa)(Q:K2)(x:V)(H:AH):Prop:=let J:=cG;oZ W u x v F H Q
def aAr(W:Wd)(v:V)(i:ET)(F:Fa)(Q:K2)(u:V)(H:AH):Prop:=let J:=cG;i F H<|aAs W v u F Q
def kSs(W:Wd)(a i:ET)(F:Fa)(Q:K2)(v:V)(H:AH):Prop:=let J:=cG;a F H<|aAr W v i F Q
def r0(a:Nat)(u v:V)(F:Fa)(H:AH)(Q:K2):Prop:=let J:=Ex λH'=>bP (l7 a H v u H')<|Q .aQ F H';at_ J H u λi c=>vC J c λk fl=>Sel (iS k a) J<|Sel (Bm (aK fl) 800) (Q .aQ F<|a7 H (.inst k<|u3 fl a v) i) J
def aAo(a:Nat)(v:V)(F:Fa)(Q:K2)(u:V)(H:AH):Prop:=let J:=cG;r0 a u v F H Q
def kSa(o:ET)(a:Nat)(F:Fa)(Q:K2)(v:V)(H:AH):Prop:=let J:=cG;o F H<|aAo a v F Q
section
variable(op:AZ)
def isAdd:Bool:=Operator.casesOn op AB AD AD AD AD AD AD AD AD AD AD AD AD
def t7(u:V)(H:AH)(w:V)(Q:K1):Prop:=let J:=lZ op u H w Q;xO (ob (ug op u w) J λv=>Q v H) u λi=>ob (aD H i) J λc=>jh J c λl=>lC (Sel (isAdd op) (ob (rB H w) J λr=>bP (l.length+r.length<=aM)<|Q u (a7 H (.lst<|l++r) i)) J) w λy=>J
def kAu(x:Nat)(u:V)(F:Fa)(Q:K2)(w:V)(H:AH):Prop:=let J:=cG;t7 op u H w<|Nv x F Q
end
def Nu(a:Nat)(J:AZ)(u v:V)(F:Fa)(Q:K2)(w:V)(H:AH):Prop:=let B:=cG;ob (ug J v w) False λr=>r0 a u r F H Q
def GF(a:Nat)(J:AZ)(e:ET)(F:Fa)(Q:K2)(u:V)(H:AH):Prop:=let B:=cG;ob (atC H a u) False λv=>e F H<|Nu a J u v F Q
def kEx(F:Fa)(Q:K2)(v:V)(H:AH):Prop:=let J:=cG;Q .aQ F H
def kRt(F:Fa)(Q:K2)(v:V)(H:AH):Prop:=let J:=cG;Q (.ret v) F H
def N0(a b:BT)(F:Fa)(Q:K2)(v:V)(H:AH):Prop:=let J:=cG;k8 v H<|qd (a F H Q) (b F H Q)
section
variable(x:Nat)(b:BT)(F:Fa)
def Nz(H:AH)(Q:K2)(J:AH->Prop)(l:List V):Prop:=let B:=cG;gj J x b l F H Q
def kFo(Q:K2)(v:V)(H:AH):Prop:=let J:=cG;Ed (uI v H<|Nz x b F H Q) v λl=>d5 x b l F H Q
def kFr(Q:K2)(v:V)(H:AH):Prop:=let J:=cG;ui False v λk=>bP (k<=aM)<|d5 x b (nq k) F H Q
end
mutual
noncomputable def DO(W:Wd)(n:Nat):IS->Fa->AH->K2->Prop
 | .asg x e,F,H,Q=>bT W n e F H (Nv x F Q)| .gR xs e,F,H,Q=>bT W n e F H (aAv xs F Q)| .swap x y a b,F,H,Q=>bT W n a F H (kSw x y (bT W n b) F Q)| .cW a i e,F,H,Q=>bT W n e F H (kSs W (bT W n a) (bT W n i) F Q)| .setAttr o a e,F,H,Q=>bT W n e F H (kSa (bT W n o) a F Q)| .aug x op e,F,H,Q=>ob (ob (aD F x) AE id) False λu=>bT W n e F H (kAu op x u F Q)| .mB t a op e,F,H,Q=>bT W n t F H (GF a op (bT W n e) F Q)| .expr e,F,H,Q=>bT W n e F H (kEx F Q)| .ite c a b,F,H,Q=>bT W n c F H (N0 (aU W n a) (aU W n b) F Q)| .eG c b,F,H,Q=>Ex λk=>gG (bT W n c) (aU W n b) k F H Q| .forIn x e b,F,H,Q=>bT W n e F H (kFo x (aU W n b) F Q)| .forR x m b,F,H,Q=>bT W n m F H (kFr x (aU W n b) F Q)| .ret e,F,H,Q=>bT W n e F H (kRt F Q)| .cont,F,H,Q=>Q .cnt F H| .pass,F,H,Q=>Q .aQ F H
noncomputable def aU(W:Wd)(n:Nat):aL->Fa->AH->K2->Prop
 | .nil,F,H,Q=>Q .aQ F H| .cons s ss,F,H,Q=>DO W n s F H<|mN (aU W n ss) Q
end
end
def a9{l:List α}:∀{k:Nat},aD l k=l[k]?:=by
 induction l with
 |nil=>show rfl|cons x l J=>
  intro k;rcases k with _|k;rfl;show J
def dm{l:List α}{v:α}:∀{k:Nat},a7 l v k=l.set k v:=by
 induction l with
 |nil=>show rfl|cons x l J=>
  intro k;rcases k with _|k;rfl;show aF _ J
def dC{l r:List α}:app l r=l++r:=by
 induction l with
 |nil=>rfl|cons x l J=>show aF _ J
def tD{l:List α}:gV l=l.isEmpty:=by rcases l with _|_<;>rfl
def dJ{l:List α}:aK l=l.length:=by
 induction l with
 |nil=>rfl|cons x l J=>show aF BB J
def Lo{l:List<|Nat×α}:fh l a=aa l a:=by
 induction l with
 |nil=>rfl|cons p l J=>
  change Aa (motive:=λy=>Option α) (fh l a) (AA p.2) (Ao p.1 a)=_;unfold aa;rw[wh];rcases e:Ao p.1 a with _|_
  .rw[bE λq=>(D6 e) q];show J
  rw[a6<|wx e];rfl
def YZ{l:List<|Nat×α}:Fc l a=l.any λp=>decide<|p.1=a:=by
 induction l with
 |nil=>rfl|cons p l J=>
  change Aa (motive:=λy=>Bool) (Fc l a) AB (Ao p.1 a)=_;rw[rV,<-J];rcases e:Ao p.1 a with _|_
  .rw[bE<|D6 e,DK]
  rw[a6<|wx e,IZ]
def aCc{l:List<|Nat×α}{v:α}:Gh l a v=l.map λp=>if p.1=a then(p.1,v) else p:=by
 induction l with
 |nil=>rfl|cons p l J=>
  change Aa p (p.1,v) (Ao p.1 a)::Gh l a v=_;rw[da,<-J];rcases e:Ao p.1 a with _|_
  .rw[aB<|D6 e]
  rw[aC<|wx e]
def Ws{l:List<|Nat×α}{v:α}:u3 l a v=cB l a v:=by
 unfold u3 cB;rw[YZ,aCc,dC];cases l.any _<;>rfl
def E9{l:List<|Nat×α}{v:α}(h:fh l a=AA v):(a,v)∈l:=by
 induction l with
 |nil=>cases h|cons p l J=>
  have h:Aa (fh l a) (AA p.2) (Ao p.1 a)=AA v:=h;rcases e:Ao p.1 a with _|_
  .rw[e] at h;show .tail _<|J h
  rw[e] at h;obtain rfl:=ai h;rw[<-wx e];show .head _
theorem E4:∀{a b:List Nat},eO a b=decide (a=b)
 | [],[]=>rfl| [],_::_=>rfl|_::_,[]=>rfl|x::a,y::b=>by
  change Aa (motive:=λz=>Bool) AD (eO a b) (Ao x y)=_;rcases e:Ao x y with _|_
  .show(bE λq=>D6 e (p8 q).1).symm
  rw[wx e];show(E4).trans<|decide_eq_decide.mpr ⟨λq=>q▸rfl,λq=>(p8 q).2⟩
def aCq{s:List Nat}{l:List<|List Nat}:Gm s l=l.contains s:=by
 induction l with
 |nil=>rfl|cons x l J=>
  change Aa (motive:=λy=>Bool) (Gm s l) AB (eO s x)=_;rw[I6,E4,<-J];rw[show decide (s=x)=(s == x) from IW.mpr<|by rw[Eu,lB]]
  rcases s == x with _|_<;>rfl
def Gw{k:Nat}:nq k=jm k:=by
 induction k with
 |zero=>rfl|succ k J=>
  change app (nq k) [.int k]=_;rw[dC,J];unfold jm;rw[List.range_succ,bw];rfl
def aFn(h:1<=n):CJ (-1) n=AA (n-1):=by
 unfold CJ;have e:(if (-1)<0 then -1+(n:Int) else -1)=-1+n:=rfl
 rw[e];rw[aC (by rw[eQ,kA,kA,Ir];show⟨Int.sub_nonneg_of_le<|Int.ofNat_le.mpr h,Int.sub_lt_self _<|show 0<1 by decide⟩),O6 h]
section
open PySem.Calls PyProof.Rows in
def ee.aG6{l:List V}(e:l.getLast?=AA v):ee W (.tup l) (.int<|-1) H v:=λ{y A s y y y R} K C hx c=>
 hx.cP (P:=λT=>dI W A s _ (AP _ T) R) λy=>C.gf (P:=λB=>dI W A s B (AP B _) R) λy y L x z r=>
  let ⟨⟨J,hv⟩⟩:=r.get<|TF.symm.trans e
  have D:=Jf<|bZ (bK _) (qm J)
  ⟨H8 x,PySem.F.slot_tuple_getitem.lookup,MR x.is ⋯ ⋯ (aFn<|bu▸D) (bu▸lx▸r.length▸J)<|c.here K.N hv⟩
end
def yj{l:List α}:lG l=l.getLast?:=by
 induction l with
 |nil=>rfl|cons x l J=>
  change ob (lG l) (AA x) AA=_;rw[J,List.getLast?_cons];rcases l.getLast? with _|_<;>rfl
variable{c:Cell}{R:Prop}
section
variable{d:β}(P:β->Prop)
theorem eF{J:Sort _}{d:J}(P:J->Prop){o:Option α}{f:α->J}(q:P<|ob o d f)(k:∀a,o=AA a->P (f a)->R)(B:P d->R):R:=by
 induction o using Option.casesOn with
 |none=>show B q|some a=>show k a rfl q
def td{f:List V->β}(q:P<|lC d v f)(k:∀l,v=.tup l->P (f l)->R)(J:P d->R):R:=by rcases v with _|_<;>first|show k _ rfl q|show J q
def mM{f:Int->β}(q:P<|cInt d v f)(k:∀l,v=.int l->P (f l)->R)(J:P d->R):R:=by rcases v with _|_<;>first|show k _ rfl q|show J q
def Hu{f:List Nat->β}(q:P<|cStr d v f)(k:∀l,v=.str l->P (f l)->R)(J:P d->R):R:=by rcases v with _|_<;>first|show k _ rfl q|show J q
def HC{f:Nat->β}(q:P<|xO d v f)(k:∀l,v=.obj l->P (f l)->R)(J:P d->R):R:=by rcases v with _|_<;>first|show k _ rfl q|show J q
def zE{f:Nat->β}(q:P<|ui d v f)(k:∀l:Nat,v=.int l->P (f l)->R)(J:P d->R):R:=mM P q (λi e q=>by rcases i with _|_<;>first|show k _ e q|show J q) J
def sA{f:Atom->β}(q:P<|oj d v f)(k:∀a,v=dG a->P (f a)->R)(J:P d->R):R:=by
 induction v using V.casesOn with
 |int i=>show k (.int i) rfl q|str i=>show k (.str i) rfl q|_=>show J q
def mW{f:V->β}(q:P<|lM d vs f)(k:∀u,vs=[u]->P (f u)->R)(J:P d->R):R:=by
 rcases vs with _|⟨u,l⟩;show J q;rcases l with _|_;show k u rfl q;show J q
def C6{f:V->V->β}(q:P<|wC d vs f)(k:∀u x,vs=[u,x]->P (f u x)->R)(J:P d->R):R:=by
 rcases vs with _|⟨u,l⟩;show J q;show mW P q (λx e q=>k u x (e▸rfl) q) J
def ql{f:List V->β}(q:P<|jh d c f)(k:∀l,c=.lst l->P (f l)->R)(J:P d->R):R:=by rcases c with _|_<;>first|show k _ rfl q|show J q
def VY{f:List (Atom×V)->Nat->β}(q:P<|Fp d c f)(k:∀l s,c=.dict l s->P (f l s)->R)(J:P d->R):R:=by rcases c with _|_<;>first|show k _ _ rfl q|show J q
def Qp{f:List Int->β}(q:P<|isSet d c f)(k:∀l,c=.set l->P (f l)->R)(J:P d->R):R:=by rcases c with _|_<;>first|show k _ rfl q|show J q
def Fj{f:Nat->List (Nat×V)->β}(q:P<|vC d c f)(k:∀l s,c=.inst l s->P (f l s)->R)(J:P d->R):R:=by rcases c with _|_<;>first|show k _ _ rfl q|show J q
def Ve{f:List (Atom×V)->Nat->β}{g:List (List Atom×V)->Nat->β}(q:P<|Cell.casesOn (motive:=λy=>β) c (λy=>d) f g (λy=>d) (λy y=>d))(k:∀l s,c=.dict l s->P (f l s)->R)(k2:∀l s,c=.az l s->P (g l s)->R)(k':P d->R):R:=by rcases c with _|_<;>first|show k _ _ rfl q|show k2 _ _ rfl q|show k' q
def nO{f:Nat->Cell->β}(q:P<|at_ d H v f)(k:∀i c,v=.obj i->H[i]?=AA c->P (f i c)->R)(J:P d->R):R:=HC P q (λi e q=>eF P q (λc h q=>k i c e (a9▸h) q) J) J
end
theorem ue:∀{l:List V} {r:List Atom},atoms l=AA r->l=r.map dG
 | [],r=>λh=>by obtain rfl:=ai h;rfl|x::l,r=>λh=>by
  have h:oj AE x (λa=>ob (atoms l) AE λr=>AA<|a::r)=AA r:=h;show sA (·=AA r) h (λa e h=>eF (·=AA r) h (λq hq h=>by obtain rfl:=ai h;rw[e,ue hq];rfl) λh=>au h) λh=>au h
variable{o:Option V}{t:Bool}{R':Prop}{m st:Nat}{l ws:List V}{aJ:List (Atom×V)}
section
variable{Q:V->AH->Prop}
def Seq.to{P:V->AH->Prop}(s:Seq P Q)(k:∀v H,Q v H->Q' v H):Seq P Q':=s.casesOn λp q=>⟨p,k _ _ q⟩
def mz(q:iQ o H Q)(k:∀v,o=AA v->Q v H->R):R:=by
 rcases o with _|v;show q.elim;show k v rfl q
def aGT(q:ir W u x H Q)(k:∀v H,Q v H->Q' v H):Seq (Prim W .sub [u,x] H) Q':=by
 have J:Seq (Prim W .sub [u,x] H) Q->Seq (Prim W .sub [u,x] H) Q':=λq=>Seq.to q k;rcases u with _|_|_|_|l|l|i;show J q;show J q;show J q;show J q
 .show mM id q (λj e q=>by
    rcases j with j|j;show mz q λv h q=>e▸q9 (ee.tup<|a9▸h) (k _ _ q);rcases j with _|_;show mz q λv h q=>e▸q9 (ee.aG6<|yj▸h) (k _ _ q);show J q) J
 show zE id q (λj e q=>mz q λv h q=>e▸q9 (ee.lst<|a9▸h) (k _ _ q)) J;refine eF id q (λc hc q=>?_) J;rw[a9] at hc;rcases c with l|⟨aJ,st⟩|⟨aJ,st⟩
 .show mM id q (λj e q=>by
   rcases j with j|j;show mz q λv h q=>e▸q9 (ee.cell hc<|a9▸h) (k _ _ q);rcases j with _|_;show mz q λv h q=>e▸q9 (ee.last hc<|yj▸h) (k _ _ q);show J q) J
 show sA id q (λa e q=>mz q λv h q=>e▸q9 (ee.dict hc h) (k _ _ q)) J;show td id q (λl e q=>eF id q (λa h q=>mz q λv B q=>e▸ue h▸q9 (ee.az hc B) (k _ _ q)) J) J
 all_goals show J q
def aGL{a b:List Nat}(h:Q9 op a b=AA t):P2 W (.str a) (.bool t) (.str b) H H<|AI op:=by
 rcases op with _|_<;>first|show au h|(rw[<-ai h,E4];first|show oX.str|show k5.str)
def Y9{a b:Int}(h:Mv op a b=AA t):P2 W (.int a) (.bool t) (.int b) H H<|AI op:=by
 rcases op with _|_<;>first|show au h|(rw[<-ai h];first|show oX.int|show k5.int|show Tp.int|show To.int|show Tn.int|show Tj.int)
def Mm(h:Ff H u x=AA t):P2 W u (.bool t) x H H (AI .In)/\P2 W u (.bool<|!t) x H H (AI .NotIn):=by
 refine nO (·=AA t) h (λi c e hc h=>?_) λh=>au h;subst e;rcases c with _|⟨aJ,st⟩|⟨aJ,st⟩|p;show au h;show sA (·=AA t) h (λa e h=>e▸ai h▸⟨qI.dict hc,qJ.dict hc⟩) λh=>au h;show td (·=AA t) h (λl e h=>eF (·=AA t) h (λa ha h=>e▸ai h▸ue ha▸⟨qI.az hc,qJ.az hc⟩) λh=>au h) λh=>au h;show mM (·=AA t) h (λa e h=>e▸ai h▸⟨qI.set hc,qJ.set hc⟩) λh=>au h;show au h
def VL(h:xV op H u x=AA t):P2 W u (.bool t) x H H<|AI op:=by
 refine HC (·=AA t) h (λi e h=>?_) λh=>?_
 .cases op with
  |In=>show(Mm h).1|NotIn=>show eF (·=AA t) h (λb hb h=>ai h▸(Mm hb).2) λh=>au h|_=>show au h
 show Hu (·=AA t) h (λa e h=>Hu (·=AA t) h (λb J h=>e▸J▸aGL h) λh=>au h) λh=>mM (·=AA t) h (λa e h=>mM (·=AA t) h (λb J h=>e▸J▸Y9 h) λh=>au h) λh=>au h
def VN(q:iO W op u x H Q)(k:∀v H,Q v H->Q' v H):Seq (Prim W (.cmp op) [u,x] H) Q':=
 eF id q (λy h q=>n9 (VL h)<|k _ _ q) λq=>Seq.to q k
def EU{J:AZ}(h:ug J u x=AA v):∃a b,u=.int a/\x=.int b/\((J=.Add/\v=.int (a+b))\/(J=.Sub/\v=.int (a-b))):=
 mM (·=AA v) h (λa e h=>mM (·=AA v) h (λb B h=>⟨a,b,e,B,by rcases J with _|_<;>first|show au h|show .inl ⟨rfl,(ai h).symm⟩|show .inr ⟨rfl,(ai h).symm⟩⟩) λh=>au h) λh=>au h
def Ur{J:AZ}(q:IU W J u x H Q)(k:∀v H,Q v H->Q' v H):Seq (Prim W (.bin J) [u,x] H) Q':=
 eF id q (λv h q=>by
  obtain⟨a,b,rfl,rfl,⟨rfl,rfl⟩|⟨rfl,rfl⟩⟩:=EU h;show gD nD.int<|k _ _ q;show gD Tr.int<|k _ _ q) λq=>Seq.to q k
def z8{l:List V}(h:rB H u=AA l):u=.tup l\/IsL H l u:=by
 rcases u with _|_|_|_|l'|l'|i;show au h;show au h;show au h;show au h
 .obtain rfl:=ai h;show .inl rfl
 .obtain rfl:=ai h;show .inr .val
 show eF (·=AA l) h (λc hc h=>ql (·=AA l) h (λl' e h=>by obtain rfl:=ai h;show .inr<|.cell (e▸a9▸hc)) λh=>au h) λh=>au h
def WK{f:F1}(q:uC W f u H Q)(k:∀v H,Q v H->Q' v H):Seq (Prim W (.f1 f) [u] H) Q':=by
 induction f using F1.casesOn with
 |len=>show eF id q (λl h q=>(z8 h).elim (λe=>e▸gY rq.tup (k _ _ q)) λe=>gY (rq.lst e)<|k _ _ q) λq=>Seq.to q k|tuple=>
  have g:ob (rB H u) (Seq (Prim W (.f1 .tuple) [u] H) Q) (λl=>Q (.tup l) H)->(∀l,u≠.tup l)->Seq (Prim W (.f1 .tuple) [u] H) Q':=λq n=>eF id q (λl h q=>(z8 h).elim (λe=>absurd e<|n l) λe=>gY (Tv.lst e)<|k _ _ q) λq=>Seq.to q k;rcases u with _|_|_|_|l;show g q nofun;show g q nofun;show g q nofun;show g q nofun;show Seq.to q k
  all_goals show g q nofun
 |_=>show Seq.to q k
def VH{P:Option V->Prop}(q:P<|Aa (motive:=λy=>Option V) o AE b)(k:b=AD->P o->R)(k':P AE->R):R:=by
 rcases b with _|_;show k rfl q;show k' q
def KP(h:atC H a u=AA v):∃i c fl,u=.obj i/\H[i]?=AA (.inst c fl)/\iS c a=AD/\aa fl a=AA v:=
 nO (·=AA v) h (λi c e hc h=>Fj (·=AA v) h (λk fl J h=>VH (P:=(·=AA v)) h (λe2 h=>⟨i,k,fl,e,J▸hc,e2,Lo▸h⟩) λh=>au h) λh=>au h) λh=>au h
def Ud(q:wI W a u H Q)(k:∀v H,Q v H->Q' v H):Seq (Prim W (.attr a) [u] H) Q':=
 eF id q (λv h J=>by obtain⟨i,c,fl,e1,hc,e,g⟩:=KP h;show e1▸aFZ hc e g (k _ _ J)) λq=>Seq.to q k
def Y3{l:List<|List Nat}(q:Io W l u H Q)(k:∀v H,Q v H->Q' v H):Seq (Prim W (.fm l) [u] H) Q':=
 Hu id q (λs e q=>e▸aFb (k _ _<|aCq▸q)) λq=>Seq.to q k
def aDE(q:w6 W u H Q)(k:∀v H,Q v H->Q' v H):Seq (Prim W .hO [u] H) Q':=by
 have g:ob (rB H u) (Seq (Prim W .hO [u] H) Q) (λl=>Q (.bool<|!gV l) H)->(∀l,u≠.tup l)->Seq (Prim W .hO [u] H) Q':=λq n=>eF id q (λl h q=>(z8 h).elim (λe=>absurd e<|n l) λe=>aFc e<|k _ _ (tD▸q)) λq=>Seq.to q k;rcases u with _|_|_|_|l;show g q nofun;show g q nofun;show g q nofun;show g q nofun;show Seq.to q k
 all_goals show g q nofun
def aEc{o:Op}(q:Jl W o vs H Q)(k:∀v H,Q v H->Q' v H):Seq (Prim W o vs H) Q':=by
 induction o using Op.casesOn with
 |tup=>
  have q:Sel (Bm (aK vs) aM) (Q (.tup vs) H) False:=q;rw[dJ] at q;rcases e:Bm vs.length aM with _|_
  .rw[e] at q;show q.elim
  rw[e] at q;show aFh (JZ e)<|k _ _ q
 |q4=>
  have J:Q (.obj<|aK H)<|app H [.set []]:=q;rw[dJ,dC] at J;show⟨(Tt.new),k _ _ J⟩
 |sub=>show C6 id q (λu x e q=>e▸aGT q k) AM|cmp op=>show C6 id q (λu x e q=>e▸VN q k) AM|bin op=>show C6 id q (λu x e q=>e▸Ur q k) AM|f1 f=>show mW id q (λu e q=>e▸WK q k) AM|attr a=>show mW id q (λu e q=>e▸Ud q k) AM|fm l=>show mW id q (λu e q=>e▸Y3 q k) AM|hO=>show mW id q (λu e q=>e▸aDE q k) AM|n4=>show mW id q (λu e q=>e▸aFe (k _ _ q)) AM|_=>show Seq.to q k
def pY{P P':Bool->Prop}(q:k8 v H P)(k:∀t,P t->P' t):Tq v H P':=by
 have J:Tq v H P->Tq v H P':=λq=>q.casesOn λh p=>⟨h,k _ p⟩;rcases v with _|b|_|_|_|_|i
 .show⟨.none rfl,k _ q⟩
 .show⟨.bool rfl,k _ q⟩
 show J q;show J q;show J q;show J q;show eF id q (λc hc q=>ql id q (λl e q=>⟨.lst (e▸a9▸hc) rfl,k _<|tD▸q⟩) J) J
def rA{P:Prop}(q:Sel t P P')(k:P->R)(J:P'->R'):(if t=AB then R else R'):=by
 rcases t with _|_;show Fe rfl<|J q;show if1 rfl<|k q
def vv{P:Prop}(q:Sel t P P')(k:t=AB->P->R)(J:P'->R):R:=by
 rcases t with _|_;show J q;show k rfl q
def aC2:Oy.all (λe=>e.2.all λx=>decide<|tT.qo e.1 x.1=AA x.2)=AB:=k_
def Yw:Mn.all (λe=>decide<|tT.init e.1=AA e.2)=AB:=k_
def aC3{c f:Nat}(h:y9 c m=AA f):tT.qo c m=AA f:=
 eF (·=AA f) h (λl hl h=>dK<|Sl.mp (Sl.mp aC2 _<|E9 hl) _ (E9 h)) λh=>au h
def aCs(J:bG W){P P':Nat->Prop}(q:Dw W m u H P)(k:∀f,P f->P' f):qD W m u H P':=by
 have B:qD W m u H P->qD W m u H P':=λq=>q.casesOn λa b c d p=>⟨a,b,c,d,k _ p⟩;refine nO id q (λi c e hc q=>Fj id q (λl fl C q=>?_) B) B;have q:ob (fh fl m) (ob (y9 l m) (qD W m u H P) P)<|λy=>qD W m u H P:=q;rcases g:fh fl m with _|_
 .rw[g] at q;show eF id q (λf hf q=>⟨e,C▸hc,J.T▸aC3 hf,Lo▸g,k _ q⟩) B
 rw[g] at q;show B q
def aFF{m:Mt}(h:at_ AD H u (λy c=>n7 m c)=AB):Recv W m u H:=by
 refine nO (·=AB) h (λi c e hc h=>?_) nofun;subst e;rcases m with _|_<;>rcases c with _|_<;>first|show(aI h).elim|show Recv.append hc|show Recv.pop hc|show Recv.insert hc|show Recv.add hc|show Recv.discard hc|show Recv.get hc|show Recv.Hz hc|show Recv.gv hc
section
variable{k:Int}{p:List Int}{a:Atom}{ks:List Atom}{kv2:List (List Atom×V)}(e:u=.obj i)(hc:H[i]?=AA c)
include e hc
def aER(B:vs=[v])(J:c=.lst l)(z:l.length<aM):c6 W .append (u::vs) H .none<|H.set i (.lst<|l++[v]):=e.symm▸B.symm▸c6.append (J▸hc) (by rw[a5];show z)
def aEV(B:gV vs=AB)(J:c=.lst l)(h:lG l=AA v):c6 W .pop (u::vs) H v<|H.set i (.lst l.dropLast):=by
 rw[e,show vs=[] by cases vs with|nil=>rfl|cons=>show(aI B).elim]
 show c6.pop (J▸hc)<|yj▸h
section
variable(e1:vs=[v])(ev:v=.int k)(e2:c=.set p)
def aEQ(z:p.length<4000):c6 W .add (u::vs) H .none<|H.set i (.set<|xB p k):=e▸e1▸ev▸c6.add (e2▸hc) z
def aES:c6 W .discard (u::vs) H .none (H.set i (.set (p.filter (· != k)))):=e▸e1▸ev▸c6.discard (e2▸hc)
end
def aEU(C:vs=[v,x])(J:v=dG a)(B:c=.dict aJ st):c6 W .f7 (u::vs) H ((aa aJ a).getD x) H:=e▸C▸J▸c6.get (B▸hc)
def aEW{r:List V}(C:vs=[v,x])(J:v=.tup r)(h:atoms r=AA ks)(B:c=.az kv2 st):c6 W .f7 (u::vs) H ((aa kv2 ks).getD x) H:=by rw[e,C,J,ue h];show c6.Hz<|B▸hc
def aET(C:vs=[x])(J:x=dG a)(B:c=.dict aJ st)(h:aa aJ a=AA v)(z:aJ.length<=aM):c6 W .gv (u::vs) H v<|H.set i (.dict (qe aJ a)<|st+1):=e▸C▸J▸c6.gv (B▸hc) h z
end
def vO(q:Q v<|a7 H c i):Q v<|H.set i c:=Eq.mp (aF (Q v) dm) q
def Pu{m:Mt}(q:k6 W m u Q vs H)(k:∀v H,Q v H->Q' v H):Seq (c6 W m (u::vs) H) Q':=by
 have J:Seq (c6 W m (u::vs) H) Q->Seq (c6 W m (u::vs) H) Q':=λq=>Seq.to q k;refine nO id q (λi c e hc q=>?_) J
 induction m using Mt.casesOn with
 |append=>show mW id q (λv e1 q=>ql id q (λl e2 q=>q.casesOn λz q=>⟨aER e hc e1 e2 z,k _ _<|vO q⟩) J) J|pop=>show vv q (λe1 q=>ql id q (λl e2 q=>mz q λv h q=>⟨aEV e hc e1 e2 h,k _ _<|vO q⟩) J) J|insert=>show J q|add=>show mW id q (λv e1 q=>mM id q (λj ev q=>Qp id q (λp e2 q=>q.casesOn λz q=>⟨aEQ e hc e1 ev e2 z,k _ _<|vO q⟩) J) J) J|discard=>show mW id q (λv e1 q=>mM id q (λj ev q=>Qp id q (λp e2 q=>⟨aES e hc e1 ev e2,k _ _<|vO q⟩) J) J) J|f7=>show C6 id q (λx d e1 q=>Ve id q (λaJ st e2 q=>sA id q (λa ev q=>⟨aEU e hc e1 ev e2,k _ _ q⟩) J) (λaJ st e2 q=>td id q (λl ev q=>eF id q (λa h q=>⟨aEW e hc e1 ev h e2,k _ _ q⟩) J) J) J) J|gv=>show mW id q (λx e1 q=>VY id q (λaJ st e2 q=>sA id q (λa ev q=>q.casesOn λz q=>mz q λv h q=>⟨aET e hc e1 ev e2 h z,k _ _<|vO q⟩) J) J) J
def Lj(q:wR W u x H Q)(k:∀v H,Q v H->Q' v H):Ex λH'=>bP (oY W u x H H')<|Q' .none H':=by
 have J:(Ex λH'=>bP (oY W u x H H')<|Q .none H')->Ex λH'=>bP (oY W u x H H')<|Q' .none H':=λq=>let ⟨p,q⟩:=q;⟨p,k _ _ q⟩;refine nO id q (λi c e hc q=>ql id q (λl B q=>td id q (λr e2 q=>?_) J) J) J;subst e B e2;obtain⟨z,q⟩:=q;rw[dm] at q;show⟨oY.tup hc z,k _ _ q⟩
def aFG(h:at_ AD H u (λy c=>jh AD c λy=>AB)=AB):ry W u H:=
 nO (·=AB) h (λi c e hc h=>ql (·=AB) h (λl J y=>by subst e J;show ry.lst hc) nofun) nofun
def sS{f:Nat}:Fi W n f vs H Q=Fn W n f vs H Q:=by unfold Fi;rfl
def FA{f:Nat}(q:Fi W n f vs H Q)(k:∀v H,Q v H->Q' v H):Fn W n f vs H Q':=by
 rw[sS] at q;show Fn.mono q λq=>k _ _ q
def aDJ{c:Nat}(q:rp W n c vs H Q)(k:∀v H,Q v H->Q' v H):rp W n c vs H Q':=q.casesOn λh x=>⟨h,Fn.mono x λy=>y.casesOn λa b=>⟨a,k _ _ b⟩⟩
def aDI(J:bG W){c:Nat}(q:N1 W n c Q vs H)(k:∀v H,Q v H->Q' v H):rp W n c vs H Q':=
 eF id q (λf h q=>by
  have q:=q;rw[dJ,dC,sS] at q;show⟨J.T▸dK (Sl.mp Yw _<|E9 h),Fn.mono q λy=>y.casesOn λa b=>⟨a,k _ _ b⟩⟩) λq=>aDJ q k
def y5(q:qE ws H Q)(k:∀v H,Q v H->Q' v H):qE ws H Q':=q.casesOn λr x=>⟨r,k _ _ x⟩
end
mutual
noncomputable def dE(f:Nat->Nat):IE->IE
 | .const v=>.const v| .var x=>.var (f x)| .op o es=>.op o (qz f es)| .call g es=>.call g (qz f es)| .gK e m es=>.gK (dE f e) m (qz f es)| .bm m e es=>.bm m (dE f e) (qz f es)| .jb e a=>.jb (dE f e) (dE f a)| .new c es=>.new c (qz f es)| .and a b=>.and (dE f a) (dE f b)| .or a b=>.or (dE f a) (dE f b)| .not a=>.not (dE f a)| .ite c a b=>.ite (dE f c) (dE f a) (dE f b)| .comp e x J=>.comp (dE f e) (f x) (dE f J)| .gS e x m=>.gS (dE f e) (f x)<|dE f m
noncomputable def qz(f:Nat->Nat):fI->fI
 | .nil=>.nil| .cons e es=>.cons (dE f e)<|qz f es
end
mutual
noncomputable def PC(f:Nat->Nat):IS->IS
 | .asg x e=>.asg (f x) (dE f e)| .gR xs e=>.gR (xs.map f) (dE f e)| .swap x y a b=>.swap (f x) (f y) (dE f a) (dE f b)| .cW a i e=>.cW (dE f a) (dE f i) (dE f e)| .setAttr o a e=>.setAttr (dE f o) a (dE f e)| .aug x op e=>.aug (f x) op (dE f e)| .mB t a op e=>.mB (dE f t) a op (dE f e)| .expr e=>.expr (dE f e)| .ite c a b=>.ite (dE f c) (mR f a) (mR f b)| .eG c b=>.eG (dE f c) (mR f b)| .forIn x e b=>.forIn (f x) (dE f e) (mR f b)| .forR x m b=>.forR (f x) (dE f m) (mR f b)| .ret e=>.ret (dE f e)| .cont=>.cont| .pass=>.pass
noncomputable def mR(f:Nat->Nat):aL->aL
 | .nil=>.nil| .cons s ss=>.cons (PC f s)<|mR f ss
end
def Rel(f:Nat->Nat)(F:Fa)(G:ae):Prop:=∀i v,ob (aD F i) AE id=AA v->G (f i)=AA v
variable{F:Fa}{G:ae}
section
variable{f:Nat->Nat}
def Rel.set(J:∀i j,f i=f j->i=j){x:Nat}(r:Rel f F G):Rel f (ed F x v)<|upd G (f x) v:=λi w h=>by
 unfold upd;unfold ed at h;rw[dm,a9,wm] at h;by_cases e:x=i
 .subst e;rw[aC rfl] at h ⊢;split at h
  show h;show au h
 rw[aB e] at h;rw[aB λq=>e (J _ _ q).symm];show r i w<|a9▸h
end
variable{C_:AH->Prop}{el:ET}{el':ae->AH->K1->Prop}{b:Nat}{Q:K1}
section
variable{f:Nat->Nat}(J:bG W)(inj:∀i j,f i=f j->i=j)
theorem VV(J:∀{v H} {Q Q':V->AH->Prop},el (ed F a v) H Q->(∀v H,Q v H->Q' v H)->el' (upd G b v) H Q'):∀{l:List V} {H:AH} {Q Q':List V->AH->Prop},uB C_ el a F l H Q->(∀v H,Q v H->Q' v H)->kn C_ el' b G l H Q':=by
 intro l
 induction l with
 |nil=>show λq k=>q.casesOn λc q=>⟨c,k _ _ q⟩|cons v l B=>show λq k=>q.casesOn λc q=>⟨c,J q λw H q=>B q λws H q=>k _ _ q⟩
theorem Eo(J:∀H,C_ H)(B:∀{v H} {Q Q':V->AH->Prop},el (ed F a v) H Q->(∀v H,Q v H->Q' v H)->el' (upd G b v) H Q'):∀{l:List V} {H:AH} {Q Q':List V->AH->Prop},rQ el a F l H Q->(∀v H,Q v H->Q' v H)->kn C_ el' b G l H Q':=by
 intro l
 induction l with
 |nil=>show λq k=>⟨J _,k _ _ q⟩|cons v l C=>show λq k=>⟨J _,B q λw H q=>C q λws H q=>k _ _ q⟩
theorem Qm{P:Prop->Prop}{d:Prop}{g:List V->Prop}(q:Ed d v g)(k:∀l,v=.tup l\/v=.lst l->g l->R)(J:d->R):R:=by
 rcases v with _|_|_|_|l|l;show J q;show J q;show J q;show J q;show k l (.inl rfl) q;show k l (.inr rfl) q;show J q
theorem aHA{P:Prop}(q:k8 v H<|qd P (cBool (Q v H) v λy=>Q (.bool AD) H))(k:P->R)(J:Q v H->R'):Tq v H λt=>if t=AB then R else R':=by
 rcases v with _|b;show pY q λt q=>rA q k J
 .rcases b with _|_;show Cz<|Fe rfl (J q);show Cz<|if1 rfl (k q)
 all_goals show pY q λt q=>rA q k J
theorem aHB{P:Prop}(q:k8 v H<|qd (cBool (Q v H) v λy=>Q (.bool AB) H) P)(k:P->R)(J:Q v H->R'):Tq v H λt=>if t=AB then R' else R:=by
 rcases v with _|b;show pY q λt q=>rA q J k
 .rcases b with _|_;show Cz<|Fe rfl (k q);show Cz<|if1 rfl (J q)
 all_goals show pY q λt q=>rA q J k
include J inj
mutual
theorem cX:∀(e:IE) {F:Fa} {G:ae} {H:AH} {Q Q':V->AH->Prop},bT W n e F H Q->Rel f F G->(∀v H,Q v H->Q' v H)->bV W n (dE f e) G H Q'
 | .const v,_,_,_,_,_=>λq r k=>k _ _ q| .var x,F,G,H,Q,Q'=>λq r k=>mz q λv h q=>bV.var (r _ _ h) (k _ _ q)| .op o es,_,_,_,_,_=>λq r k=>qT es q r λy y q=>aEc q k| .call g es,_,_,_,_,_=>λq r k=>qT es q r λy y q=>FA q k| .gK e m es,_,_,_,_,_=>λq r k=>cX e q r λy y q=>aCs J q λy q=>qT es q r λy y q=>FA q k| .bm m e es,_,_,_,_,_=>λq r k=>cX e q r λy y q=>vv q (λh q=>⟨aFF h,qT es q r λy y q=>Pu q k⟩) λq=>let ⟨a,q⟩:=q;⟨a,qT es q r λy y q=>Pu q k⟩| .jb e a,_,_,_,_,_=>λq r k=>cX e q r λy y q=>vv q (λh q=>⟨aFG h,cX a q r λy y q=>Lj q k⟩) λq=>let ⟨b,q⟩:=q;⟨b,cX a q r λy y q=>Lj q k⟩| .new c es,_,_,_,_,_=>λq r k=>qT es q r λy y q=>aDI J q k| .and a b,_,_,_,_,_=>λq r k=>cX a q r λy y q=>aHA q (λq=>cX b q r k) (k _ _)| .or a b,_,_,_,_,_=>λq r k=>cX a q r λy y q=>aHB q (λq=>cX b q r k) (k _ _)| .not a,_,_,_,_,_=>λq r k=>cX a q r λy y q=>pY q λy q=>k _ _ q| .ite c a b,_,_,_,_,_=>λq r k=>cX c q r λy y q=>pY q λy q=>rA q (λq=>cX a q r k) (λq=>cX b q r k)| .comp e x C,F,G,_,Q,Q'=>λq r k=>cX C q r λsrc H q=>Qm (P:=id) q (λl B q=>let ⟨z,q⟩:=q;B.elim (λB=>B▸⟨.tup,z,Eo (λy=>.tup) (λq k=>cX e q (r.set inj) k) q λy y q=>y5 q k⟩) λB=>B▸⟨.lst .val,z,Eo (λy=>.lst .val) (λq k=>cX e q (r.set inj) k) q λy y q=>y5 q k⟩) λq=>let ⟨a,b,q⟩:=q;⟨a,b,VV (λq k=>cX e q (r.set inj) k) q λy y q=>y5 q k⟩| .gS e x m,_,_,_,_,_=>λq r k=>cX m q r λv H q=>zE id q (λj B q=>let ⟨z,q⟩:=q;⟨B,z,Eo (λy=>trivial) (λq k=>cX e q (r.set inj) k) (Gw▸q) λy y q=>y5 q k⟩) AM
theorem qT:∀(es:fI) {F:Fa} {G:ae} {H:AH} {Q Q':List V->AH->Prop},p4 W n es F H Q->Rel f F G->(∀v H,Q v H->Q' v H)->m5 W n (qz f es) G H Q'
 | .nil=>λq r k=>k _ _ q| .cons e es=>λq r k=>cX e q r λy y q=>qT es q r λy y q=>k _ _ q
end
end
abbrev Bq:=ae->AH->(Fl->ae->AH->Prop)->Prop
def rN(f:Nat->Nat)(b:BT)(b':Bq):Prop:=∀{F:Fa} {G:ae} {H:AH} {Q:K2} {Q':Fl->ae->AH->Prop},b F H Q->Rel f F G->(∀fl F G H,Rel f F G->Q fl F H->Q' fl G H)->b' G H Q'
variable{op:AZ}{Q:V->AH->Prop}
section
variable{f:Nat->Nat}{b:BT}{b':Bq}{Q:K2}{Q':Fl->ae->AH->Prop}{w:V}
theorem H6{w:BT}{J:ae->AH->Prop}(B:∀{F G H},Rel f F G->w F H Q->J G H)(k:∀fl F G H,Rel f F G->Q fl F H->Q' fl G H):∀fl F G H,Rel f F G->i6 w Q fl F H->H4 J Q' fl G H
 | .aQ=>λy y y r q=>B r q| .cnt=>λy y y r q=>B r q| .brk=>λy y y r q=>k _ _ _ _ r q| .ret _=>λy y y r q=>k _ _ _ _ r q
theorem aDc{w:BT}{J:Bq}(o:rN f w J)(k:∀fl F G H,Rel f F G->Q fl F H->Q' fl G H):∀fl F G H,Rel f F G->mN w Q fl F H->PA (λF H=>J F H Q') Q' fl G H
 | .aQ=>λy y y r q=>o q r k| .cnt=>λy y y r q=>k _ _ _ _ r q| .brk=>λy y y r q=>k _ _ _ _ r q| .ret _=>λy y y r q=>k _ _ _ _ r q
def aII{c:ET}{c':ae->AH->K1->Prop}(B:∀{F G H} {Q Q':V->AH->Prop},c F H Q->Rel f F G->(∀v H,Q v H->Q' v H)->c' G H Q')(J:rN f b b')(k:∀fl F G H,Rel f F G->Q fl F H->Q' fl G H):∀{m:Nat} {F:Fa} {G:ae} {H:AH},Rel f F G->gG c b m F H Q->w9 c' b' m G H Q':=by
 intro m
 induction m with
 |zero=>show λy q=>q|succ m C=>show λr q=>B q r λy y q=>pY q λy q=>rA q (λq=>J q r<|H6 C k)<|k _ _ _ _ r
section
variable(inj:∀i j,f i=f j->i=j)
include inj
def Wn(J:rN f b b')(k:∀fl F G H,Rel f F G->Q fl F H->Q' fl G H):∀{l:List V} {F:Fa} {G:ae} {H:AH},Rel f F G->gj C_ a b l F H Q->lr C_ (f a) b' l G H Q':=by
 intro l
 induction l with
 |nil=>show λr q=>q.casesOn λc q=>⟨c,k _ _ _ _ r q⟩|cons v l B=>show λr q=>q.casesOn λc q=>⟨c,J q (r.set inj)<|H6 B k⟩
def FL(J:∀H,C_ H)(B:rN f b b')(k:∀fl F G H,Rel f F G->Q fl F H->Q' fl G H):∀{l:List V} {F:Fa} {G:ae} {H:AH},Rel f F G->d5 a b l F H Q->lr C_ (f a) b' l G H Q':=by
 intro l
 induction l with
 |nil=>show λr q=>⟨J _,k _ _ _ _ r q⟩|cons v l C=>show λr q=>⟨J _,B q (r.set inj)<|H6 C k⟩
theorem Qo:∀{xs:List Nat} {l:List V} {F J:Fa} {G:ae},Qn F xs l=AA J->Rel f F G->l.length=xs.length/\Rel f J (jr G (xs.map f) l)
 | [],[],_,_,_=>λh r=>by obtain rfl:=ai h;show⟨rfl,r⟩| [],_::_,_,_,_=>λh y=>au h|_::_,[],_,_,_=>λh y=>au h|x::xs,v::l,F,J,G=>λh r=>(Qo (xs:=xs) h<|r.set inj).elim λa b=>⟨aF BB a,b⟩
end
def aEo(q:oZ W u x v F H Q)(k:∀H,Q .aQ F H->Q' .aQ G H):Ex λH'=>bP (iq W u x v H H')<|Q' .aQ G H':=by
 have B:(Ex λH'=>bP (iq W u x v H H')<|Q .aQ F H')->Ex λH'=>bP (iq W u x v H H')<|Q' .aQ G H':=λq=>let ⟨p,q⟩:=q;⟨p,k _ q⟩;refine nO id q (λi c e hc q=>?_) B;subst e;rcases c with l|⟨aJ,st⟩|⟨aJ,st⟩;show zE id q (λj e q=>by obtain⟨z,J⟩:=q;rw[dm] at J;show e▸⟨iq.lst hc z,k _ J⟩) B
 show sA id q (λj e q=>by obtain⟨z,J⟩:=q;rw[dm] at J;show e▸⟨iq.dict hc z,k _ J⟩) B
 show td id q (λl e q=>eF id q (λj h q=>by obtain⟨z,J⟩:=q;rw[dm] at J;rw[e,ue h];show⟨iq.az hc z,k _ J⟩) B) B
 all_goals show B q
def Hg(q:r0 a u v F H Q)(k:∀H,Q .aQ F H->Q' .aQ G H):Ex λH'=>bP (l7 a H v u H')<|Q' .aQ G H':=by
 have B:(Ex λH'=>bP (l7 a H v u H')<|Q .aQ F H')->Ex λH'=>bP (l7 a H v u H')<|Q' .aQ G H':=λq=>let ⟨p,q⟩:=q;⟨p,k _ q⟩;refine nO id q (λi c e hc q=>Fj id q (λc' fl D q=>?_) B) B;have J:=q;rcases hcl:iS c' a with _|_
 .rw[hcl] at J;show vv (show Sel (Bm (aK fl) 800) _ _ from J) (λz C=>by
   rw[dm,Ws] at C;rw[dJ] at z;show e▸⟨l7.mk (D▸hc) hcl<|bZ (JZ z) ⋯,k _ C⟩) B
 rw[hcl] at J;show B J
def ZE(h:isAdd op=AB):op=.Add:=by rcases op with _|_<;>first|rfl|show(aI h).elim
def aDZ(P:β->Prop){d:β}{f:List V->β}(q:P<|lC d v f)(k:(∀l,v≠.tup l)->P d->R)(J:∀l,P (f l)->R):R:=by rcases v with _|_<;>first|show k nofun q|show J _ q
def Uk{Q T:V->AH->Prop}(q:t7 op u H w Q)(k:∀v H,Q v H->T v H):lZ op u H w T:=by
 have J:lZ op u H w Q->lZ op u H w T:=λq=>by
  induction q using lZ.casesOn with
  |add o e B q=>show .add o e B (k _ _ q)|sub o e B q=>show .sub o e B (k _ _ q)|lst o e hc hl z q=>show .lst o e hc hl z<|k _ _ q
 refine HC id q (λi e q=>eF id q (λc hc q=>ql id q (λl B q=>?_) J) J) λq=>eF id q (λv h q=>?_) J;show aDZ id q (λn q=>vv q (λL q=>eF id q (λr h q=>(z8 h).elim (λe=>absurd e<|n r) λhr=>q.casesOn λz q=>.lst (ZE L) e (B▸a9▸hc) hr z<|e▸k _ _ (Eq.mp (aF (Q u) dm) q)) J) J) λy=>J;obtain⟨a,b,e1,e2,⟨D,C⟩|⟨D,C⟩⟩:=EU h;show .add D e1 e2<|C▸k _ _ q;show .sub D e1 e2<|C▸k _ _ q
def Ul(q:ob (ug op v w) False λr=>r0 a u r F H Q)(k:∀H,Q .aQ F H->Q' .aQ G H):lZ op v H w λr H=>bP (∀i,v≠.obj i)<|Ex λH'=>bP (l7 a H r u H') (Q' .aQ G H'):=
 eF id q (λr h q=>by
  obtain⟨a,b,e1,e2,⟨B,J⟩|⟨B,J⟩⟩:=EU h;show .add B e1 e2 ⟨λi z=>(by rw[e1] at z;rcases z with _|_),J▸Hg q k⟩
  show .sub B e1 e2 ⟨λi z=>(by rw[e1] at z;rcases z with _|_),J▸Hg q k⟩) AM
end
section
variable{f:Nat->Nat}(J:bG W)(inj:∀i j,f i=f j->i=j)
include J inj
mutual
theorem V6:∀s:IS,rN f (DO W n s) (λF H Q=>DP W n (PC f s) F H Q)
 | .asg x e=>λq r k=>cX J inj e q r λw w q=>k _ _ _ _ (r.set inj) q| .gR xs e=>λq r k=>cX J inj e q r λv H q=>td id q (λl D q=>eF id q (λG h q=>(Qo inj h r).elim λz E=>⟨D,(z.trans (aO f).symm),k _ _ _ _ E q⟩) AM) AM| .swap x y a b=>λq r k=>cX J inj a q r λw w q=>cX J inj b q r λw w q=>k _ _ _ _ ((r.set inj).set inj) q| .cW a i e=>λq r k=>cX J inj e q r λw w q=>cX J inj a q r λw w q=>cX J inj i q r λw w q=>aEo q λw q=>k _ _ _ _ r q| .setAttr o a e=>λq r k=>cX J inj e q r λw w q=>cX J inj o q r λw w q=>Hg q λw q=>k _ _ _ _ r q| .aug x op e=>λq r k=>eF id q (λu h q=>⟨r _ _ h,cX J inj e q r λw w q=>Uk q λw w q=>k _ _ _ _ (r.set inj) q⟩) AM| .mB t a op e=>λq r k=>cX J inj t q r λu H q=>eF id q (λv h q=>(KP h).elim λw M=>M.elim λw L=>L.elim λw T=>T.elim λe1 C=>C.elim λhc B=>B.elim λe2 g=>⟨(e1▸⟨hc,e2,g⟩),cX J inj e q r λw w q=>Ul q λw q=>k _ _ _ _ r q⟩) AM| .expr e=>λq r k=>cX J inj e q r λw w q=>k _ _ _ _ r q| .ite c a b=>λq r k=>cX J inj c q r λw w q=>pY q λw q=>rA q (λq=>nP a q r k) (λq=>nP b q r k)| .eG c b=>λq r k=>q.casesOn λq=>⟨aII (c:=bT W n c) (b:=aU W n b) (λq r k=>cX J inj c q r k) (nP b) k r q⟩| .forIn x e b=>λq r k=>cX J inj e q r λv H q=>Qm (P:=id) q (λl D q=>D.elim (λD=>D▸⟨.tup,FL (b:=aU W n b) inj (λw=>.tup) (nP b) k r q⟩) λD=>D▸⟨.lst .val,FL (b:=aU W n b) inj (λw=>.lst .val) (nP b) k r q⟩) λq=>q.casesOn λa q=>⟨a,Wn (b:=aU W n b) inj (nP b) k r q⟩| .forR x m b=>λq r k=>cX J inj m q r λv H q=>zE id q (λj D q=>q.casesOn λz q=>⟨D,z,FL (b:=aU W n b) inj (λw=>trivial) (nP b) k r<|Gw▸(q)⟩) AM| .ret e=>λq r k=>cX J inj e q r λw w q=>k _ _ _ _ r q| .cont=>λq r k=>k _ _ _ _ r q| .pass=>λq r k=>k _ _ _ _ r q
theorem nP:∀ss:aL,rN f (aU W n ss) (λF H Q=>ig W n (mR f ss) F H Q)
 | .nil=>λq r k=>k _ _ _ _ r q| .cons s ss=>λq r k=>V6 s q r<|aDc (nP ss) k
end
end
def big:Nat:=10 ^ 80
def pL(xs:List Nat)(i:Nat):Nat:=(xs[i]?).getD<|big+i
def distinct:List Nat->Bool
 | []=>AB|x::xs=>Nat.blt x big&&xs.all (λy=>!Ao x y)&&distinct xs
theorem Ey:∀{xs:List Nat},distinct xs=AB->xs.Nodup/\∀x∈xs,x<big
 | []=>λz=>⟨d7,λz m=>aW m⟩|x::xs=>λh=>by
  have h:(Nat.blt x big&&xs.all (λy=>!Ao x y)&&distinct xs)=AB:=h;rw[eQ,eQ] at h;obtain⟨⟨C,B⟩,J⟩:=h;obtain⟨a,b⟩:=Ey J;refine⟨List.nodup_cons.mpr ⟨λm=>?_,a⟩,λy m=>(JJ.mp m).elim (λe=>e▸Nat.blt_eq.mp C)<|b y⟩
  have:=Sl.mp B x m
  rw[Nat.beq_refl] at this;cases this
def aDO{xs:List Nat}(h:distinct xs=AB):∀i j,pL xs i=pL xs j->i=j:=λi j e=>by
 obtain⟨nd,J⟩:=Ey h;unfold pL at e;rcases hi:xs[i]? with _|x
 .rcases hj:xs[j]? with _|y
  .rw[hi,hj] at e;show TX e
  rw[hi,hj] at e;have e:big+i=y:=e;show absurd (J y<|eK hj)<|Nat.not_lt.mpr (e▸aY _ _)
 rcases hj:xs[j]? with _|y
 .rw[hi,hj] at e;have e:x=big+j:=e;show absurd (J x<|eK hi)<|Nat.not_lt.mpr (e▸aY _ _)
 rw[hi,hj] at e;have e:=e;subst e;have l:=(List.getElem?_eq_some_iff.mp hi).1;show(JF l nd).mp<|hi.trans hj.symm
def G6(m:Nat):Fa:=BV [] (λy J=>AE::J) m
def xx(vs:List V)(m:Nat):Fa:=AO (G6 m) (λv y J=>AA v::J) vs
theorem Rv{x:Nat}:∀{xs:List Nat} {vs:List V} {F:ae},x∉xs->jr F xs vs x=F x
 | [],_,_=>λz=>rfl|y::xs,[],_=>λz=>rfl|y::xs,v::vs,F=>λh=>(Rv λm=>h<|.tail _ m).trans<|aB λe:x=y=>h (e▸.head _)
def aDS:ob (aD (G6 m) i) AE id=(AE:Option V):=by
 induction m generalizing i with
 |zero=>rfl|succ m J=>cases i with
  |zero=>rfl|succ i=>show J
theorem MG:∀{vs:List V} {m i:Nat} {v:V},ob (aD (xx vs m) i) AE id=AA v->vs[i]?=AA v
 | [],m,i,v=>λh=>by rw[show xx [] m=G6 m from rfl,aDS] at h;cases h|w::vs,m,0,v=>λh=>h|w::vs,m,i+1,v=>λh=>by
  have h:ob (aD (xx vs m) i) AE id=AA v:=h
  have:=MG h
  show this
theorem Ru:∀{xs:List Nat} {vs:List V} {F:ae} {i x:Nat} {v:V},xs.Nodup->xs[i]?=AA x->vs[i]?=AA v->jr F xs vs x=AA v
 | [],_,_,_,_,_=>λz h z=>au h|_::_,[],_,_,_,_=>λz z h=>au h|y::xs,w::vs,F,0,x,v=>λnd h J=>by
  rw[List.nodup_cons] at nd;have h:=h;have J:=J;obtain rfl:=ai h;obtain rfl:=ai J;show(Rv nd.1).trans<|aC rfl
 |y::xs,w::vs,F,i+1,x,v=>λnd h J=>Ru (xs:=xs) (List.nodup_cons.mp nd).2 h J
def LF(f k m:Nat)(b:aL):Prop:=∃xs:List Nat,xs.length=k+m/\distinct xs=AB/\(fT f).map (·.params)=AA (xs.take k)/\(fT f).map (·.body)=AA (mR (pL xs) b)
variable{b:aL}
def lf{f k:Nat}(xs:List Nat)(h:(xs.length,distinct xs,(fT f).map (·.params),(fT f).map (·.body))=(k+m,AB,AA<|xs.take k,AA<|mR (pL xs) b):=by kernel_rfl):LF f k m b:=⟨xs,aF (·.1) h,aF (·.2.1) h,aF (·.2.2.1) h,aF (·.2.2.2) h⟩
def bG.fe(J:bG W){f k:Nat}(g:LF f k m b)(T:vs.length=k)(q:aU W n b (xx vs m) H<|gJ Q):Fi W (n+1) f vs H Q:=by
 rw[sS];obtain⟨xs,E,M,B,C⟩:=g;rcases hf:fT f with _|D
 .rw[hf] at B;show au B
 rw[hf] at B C;have B:D.params=xs.take k:=ai B;have C:D.body=mR (pL xs) b:=ai C;have Y:=Ds▸E▸uQ (aY _ _);refine @bG.fn W J f n D vs H Q hf (B.symm▸Y.symm▸T.symm▸rfl) ?_;rw[B,C]
 refine nP J (aDO M) b q (λi v h=>?_) λfl F G H y q=>match fl,q with
  | .aQ,q=>q| .ret _,q=>q
 have hv:=MG h;have L:=T▸(List.getElem?_eq_some_iff.mp hv).1;have hx:(xs.take k)[i]?=AA (pL xs i):=by
  have:=E▸b6 L (aY _ _)
  unfold pL;rw[List.getElem?_take_of_lt L,cK this];rfl
 show Ru ((JR _ _).nodup (Ey M).1) hx hv
@[irreducible] def Stop(b:BT):BT:=b
section
variable{Q:K2}{s s':IS}{b:BT}
def bL(q:b F H Q):Stop b F H Q:=by unfold Stop;show q
def aGH:Stop b=b:=by unfold Stop;rfl
def tk:Nat->aL->aL
 |k+1,.cons s ss=>.cons s (tk k ss)|_,_=>.nil
def dp:Nat->aL->aL
 |k+1,.cons _ ss=>dp k ss|_,ss=>ss
theorem LG:∀(k:Nat) {ss:aL} {F:Fa} {H:AH} {Q:K2},aU W n (tk k ss) F H (mN (aU W n<|dp k ss) Q)=aU W n ss F H Q
 |0,ss,F,H,Q=>rfl|k+1,.nil,F,H,Q=>rfl|k+1,.cons s ss,F,H,Q=>aF (DO W n s F H) (funext λfl=>funext λF=>funext λH=>match fl with
   | .aQ=>LG k| .brk=>rfl| .cnt=>rfl| .ret _=>rfl)
def cC(k:Nat)(q:aU W n (tk k ss) F H<|mN (Stop<|aU W n (dp k ss)) Q):aU W n ss F H Q:=by rw[aGH] at q;show LG k▸q
end
def ba(h:o=AA v)(q:Q v H):iQ o H Q:=h▸q
def aS{P:Prop}(h:t=AB)(p:P):Sel t P P':=h▸p
def aN{P:Prop}(h:t=AD)(p:P'):Sel t P P':=h▸p
def dP{P:Prop}(J:t=AB->P)(B:t=AD->P'):Sel t P P':=by
 rcases t with _|_;show B rfl;show J rfl
def eA(z:vs.length<=aM)(q:Q (.obj<|aK H)<|app H [.lst vs]):Seq (Prim W .lst vs H) Q:=by rw[dJ,dC] at q;show⟨(⟨z,.cell⟩),q⟩
def mO(q:Q (.obj<|aK H)<|app H [.dict [] 0]):Seq (Prim W .hN [] H) Q:=by rw[dJ,dC] at q;show⟨.dict,q⟩
def vN(q:Q (.obj<|aK H)<|app H [.az [] 0]):Seq (Prim W .hN [] H) Q:=by rw[dJ,dC] at q;show⟨.az,q⟩
abbrev i1:Int:=-1
abbrev i2:Int:=-2
abbrev i3:Int:=-3
abbrev i4:Int:=-'$'
section
abbrev aGR(a b:IE):IE:=.op .sub<|.cons a (.cons b .nil)
abbrev V4(a b:IE):IE:=.op (.cmp .Eq)<|.cons a (.cons b .nil)
abbrev T6(a b:IE):IE:=.op (.bin .Add)<|.cons a (.cons b .nil)
abbrev Uj(n:Nat)(a:IE):IE:=.op (.attr n)<|.cons a .nil
abbrev bM(o:Bc)(a b:IE):IE:=.op (.cmp o)<|.cons a (.cons b .nil)
abbrev mD(a b:IE):IE:=.op (.bin .Sub)<|.cons a (.cons b .nil)
abbrev cQ(a:IE):IE:=.op (.f1 .len)<|.cons a .nil
abbrev av(m:Nat)(l:fI):IE:=.gK (.var 0) m l
abbrev cH(a:IE):IS:=.expr<|av 5996636532 (.cons a .nil)
abbrev d8(x a:IE):IS:=.expr<|.bm .append x (.cons a .nil)
abbrev str0(l:List Nat):IE:=.const<|.str l
abbrev Y8(n:Int):IE:=.const<|.int n
abbrev aHa(l:fI):IE:=.op .tup l
meta def yy (n:Lean.Name) (a b:Lean.Term):Lean.MacroM Lean.Syntax:=Ae<|Lean.Syntax.mkApp (Lean.mkIdent n) #[a,b]
meta def yz (n:Lean.Name) (a:Lean.Term):Lean.MacroM Lean.Syntax:=Ae<|Lean.Syntax.mkApp (Lean.mkIdent n) #[a]
meta def Ov (n:Lean.Name):Lean.Term:=⟨.node .none ``Lean.Parser.Term.dotIdent #[.atom .none ".",Lean.mkIdent n]⟩
local macro_rules
 |`(↑$a)=>yz `IE.var a
local macro_rules
 |`(⇑$a)=>yz `Y8 a
local macro_rules
 |`($a % $b)=>yy `aGR a b
local macro_rules
 |`($a == $b)=>yy `V4 a b
local macro_rules
 |`($a+$b)=>yy `T6 a b
local macro_rules
 |`(($a,$as,*))=>do yz `aHa (<-`(#[$a,$as,*]))
local macro_rules
 |`($a*$s:str)=>yy `Uj (Lean.quote (s.getString.toList.foldl (λn c=>Nat.add (Nat.mul n 256) c.toNat) 1)) a
local macro_rules
 |`(#[$as,*])=>Ae (as.getElems.foldr (λa (s:Lean.Term)=>Lean.Syntax.mkApp (Ov `cons) #[a,s]) (Ov `nil)).raw
local macro_rules
 |`($s:str)=>yz `str0 (Lean.quote (s.getString.toList.map Char.toNat))
abbrev j1:aL:=#[.ret ("[]",".",.const<|.str [123,125],"-","+","*","/",",","|",";","->",.const<|.str [92,43],":-","?-","-->","!","true","fail","false","call","=","^","error",.const<|.str [],"end_of_file","system","$VAR","catch","throw")]
def g1:LF 1 0 0 j1:=lf []
abbrev j2:aL:=#[.ret ((".",⇑2),(",",⇑2),(";",⇑2),("->",⇑2),(.const<|.str [92,43],⇑1),(":-",⇑2),(":-",⇑1),("?-",⇑1),("-->",⇑2),(.const<|.str [123,125],⇑1),("=",⇑2),("^",⇑2),("-",⇑1),("-",⇑2),("+",⇑2),("/",⇑2),("error",⇑2),("$VAR",⇑1),("catch",⇑3),("throw",⇑1),("!",⇑0),("true",⇑0),("fail",⇑0),("false",⇑0),("call",⇑1),("call",⇑2),("call",⇑3),("call",⇑4),("call",⇑5),("call",⇑6),("call",⇑7),("call",⇑8))]
def g2:LF 2 0 0 j2:=lf []
abbrev NF:aL:=#[.expr<|av '?' #[↑1]]
abbrev NG:aL:=#[.expr<|av '+' #[↑2%⇑0,↑2%⇑1]]
abbrev j3:aL:=#[.setAttr ↑0 '4' (.op .lst #[]),.setAttr ↑0 'q' (.op .hN #[]),.setAttr ↑0 'H' (.op .lst #[]),.setAttr ↑0 'o' (.op .hN #[]),.forIn 1 (.call 1 #[]) NF,.forIn 2 (.call 2 #[]) NG]
def g3:LF 3 1 2 j3:=lf ['c',6247774324,24276855]
abbrev j4:aL:=#[.asg 2<|.bm .f7 (↑0*"atom_numbers") #[↑1,⇑i1],.ite (bM .GtE ↑2 ⇑0) #[.ret ↑2] #[],.asg 3<|cQ (↑0*"texts"),d8 (↑0*"texts") ↑1,.cW (↑0*"atom_numbers") ↑1 ↑3,.ret ↑3]
def g4:LF 4 2 2 j4:=lf ['c',6247774324,']','J']
abbrev j6:aL:=#[.asg 3 (↑1,↑2),.asg 4<|.bm .f7 (↑0*"functor_numbers") #[↑3,⇑i1],.ite (bM .GtE ↑4 ⇑0) #[.ret ↑4] #[],.asg 5<|cQ (↑0*"functors"),d8 (↑0*"functors") ↑3,.cW (↑0*"functor_numbers") ↑3 ↑5,.ret ↑5]
def g6:LF 6 3 3 j6:=lf ['c','?','6',23815545,']','J']
abbrev j7:aL:=#[.ret<|av 'a' #[av '?' #[↑1],↑2]]
def g7:LF 7 3 0 j7:=lf ['c',6247774324,'6']
abbrev j9:aL:=#[.ret<|(↑0*"functors"%↑1)%⇑1]
def g9:LF 9 2 0 j9:=lf ['c','a']
abbrev ZK:aL:=#[.ret<|.call 15 #[.op .lst #[↑0]]]
def W8:LF 14 1 0 ZK:=lf ['z']
abbrev aAH:IE:=↑3
abbrev ZM:aL:=#[.asg 4<|.bm .pop ↑3 #[],.ite ((↑4%⇑0)=="v") #[.ite (bM .NotIn (↑4%⇑1) ↑1) #[.cW ↑1 (↑4%⇑1) (.const<|.bool AB),d8 ↑2 (↑4%⇑1)] #[]] #[.ite ((↑4%⇑0)=="s") #[.expr<|.jb ↑3 (↑4%⇑2)] #[]]]
abbrev ZL:aL:=#[.asg 1<|.op .hN #[],.asg 2<|.op .lst #[],.asg 3<|.op .listRev #[↑0],.eG aAH ZM,.ret ↑2]
def W9:LF 15 1 4 ZL:=lf ['W','7',407255031049332,'~','z']
abbrev aAI:IE:=↑2
abbrev ZO:aL:=#[.asg 3<|.bm .pop ↑2 #[],.ite ((↑3%⇑0)=="v") #[.cW ↑1 (↑3%⇑1) ((.bm .f7 ↑1 #[↑3%⇑1,⇑0])+⇑1)] #[.ite ((↑3%⇑0)=="s") #[.expr<|.jb ↑2 (↑3%⇑2)] #[]]]
abbrev ZN:aL:=#[.asg 1<|.op .hN #[],.asg 2<|.op .lst #[↑0],.eG aAI ZO,.ret ↑1]
def XA:LF 16 1 3 ZN:=lf ['z',390805339403379,'~','*']
abbrev ZP:aL:=#[.ite ((↑0%⇑0)=="a") #[.ret (⇑4,↑0%⇑1)] #[],.ret (⇑5,↑0%⇑1)]
def XB:LF 17 1 0 ZP:=lf ['z']
abbrev ZQ:aL:=#[.setAttr ↑0 'C' ↑1,.setAttr ↑0 '8' ↑2,.setAttr ↑0 '>' (.op .lst #[]),.setAttr ↑0 '7' (.op .q4 #[]),.setAttr ↑0 '-' (.op .q4 #[]),.setAttr ↑0 'p' (↑1*"count")]
def XC:LF 18 3 0 ZQ:=lf ['c','C','8']
abbrev ZR:aL:=#[d8 (↑0*"code") ↑1]
def XD:LF 19 2 0 ZR:=lf ['c',436943810960463395400806254]
abbrev ZS:aL:=#[.asg 1<|↑0*"next_temporary",.setAttr ↑0 'p' (↑1+⇑1),.ret ("t",↑1)]
def XE:LF 20 1 1 ZS:=lf ['c','J']
abbrev ZT:aL:=#[.ret<|(↑0*"plan"*"infos"%↑1*"kind")=="void"]
def XF:LF 21 2 0 ZT:=lf ['c',363]
abbrev ZU:aL:=#[.ret<|(↑0*"plan"*"infos"%↑1*"kind")=="perm"]
def XG:LF 22 2 0 ZU:=lf ['c',363]
abbrev ZV:aL:=#[.asg 2<|↑0*"plan"*"infos"%↑1,.ite ((↑2*"kind")=="perm") #[.ret ("y",↑2*"slot")] #[],.ret ("t",↑1)]
def XH:LF 23 2 1 ZV:=lf ['c',363,'=']
abbrev ZW:aL:=#[.ite ((↑1%⇑0)=="v") #[.asg 3<|↑1%⇑1,.ite (av 'u' #[↑3]) #[.ret<|.const .none] #[],.ite (bM .In ↑3 (↑0*"seen")) #[cH ("get_value",av 'b' #[↑3],↑2)] #[.expr<|.bm .add (↑0*"seen") #[↑3],.expr<|.bm .add (↑0*"local") #[↑3],cH ("get_variable",av 'b' #[↑3],↑2)]] #[.ite ((↑1%⇑0)=="s") #[.expr<|av '[' #[↑1,↑2]] #[cH ("get_constant",.call 17 #[↑1],↑2)]]]
def XI:LF 24 3 1 ZW:=lf ['c','z',408397525705573,363]
abbrev GC:IE:=bM .Lt ↑4 (cQ ↑3)
abbrev yN:aL:=#[.gR [5,6]<|↑3%↑4,.aug 4 .Add ⇑1,.ite ((↑5%⇑1)==⇑0) #[cH ("get_list",↑6)] #[cH ("get_structure",↑5%⇑1,↑6)],.expr<|av 'U' #[↑5%⇑2,↑3]]
abbrev ZX:aL:=#[.asg 3<|.op .lst #[(↑1,↑2)],.asg 4 ⇑0,.eG GC yN]
def XJ:LF 25 3 4 ZX:=lf ['c','z',408397525705573,105660221819022951,90484,6147761253,'A']
abbrev sX:aL:=#[.ite (.and ((↑4%⇑0)=="v")<|av 'u' #[↑4%⇑1]) #[.aug 3 .Add ⇑1,.cont] #[],.ite (bM .Gt ↑3 ⇑0) #[cH ("unify_void",↑3),.asg 3 ⇑0] #[],.ite ((↑4%⇑0)=="v") #[.expr<|av 'V' #[↑4%⇑1]] #[.ite ((↑4%⇑0)=="s") #[.asg 5<|av 'k' #[],cH ("unify_variable",↑5),d8 ↑2 (↑4,↑5)] #[cH ("unify_constant",.call 17 #[↑4])]]]
abbrev ZY:aL:=#[.asg 3 ⇑0,.forIn 4 ↑1 sX,.ite (bM .Gt ↑3 ⇑0) #[cH ("unify_void",↑3)] #[]]
def XM:LF 26 3 3 ZY:=lf ['c','w',105660221819022951,1608186946675,23163495,6869497416814208053881]
abbrev ZZ:aL:=#[.ite (bM .NotIn ↑1 (↑0*"seen")) #[.expr<|.bm .add (↑0*"seen") #[↑1],cH ("unify_variable",av 'b' #[↑1])] #[.ite (bM .In ↑1 (↑0*"local")) #[cH ("unify_local_value",av 'b' #[↑1])] #[cH ("unify_value",av 'b' #[↑1])]]]
def XN:LF 27 2 0 ZZ:=lf ['c',363]
abbrev Ng:IE:=((((↑3%⇑i1)%⇑2)%⇑i1)%⇑0)=="s"
abbrev NB:aL:=#[d8 ↑3 (((↑3%⇑i1)%⇑2)%⇑i1)]
abbrev aAJ:IE:=bM .GtE ↑5 ⇑0
abbrev yO:aL:=#[.asg 6<|↑3%↑5,.asg 7<|av '3' #[↑6%⇑2,↑4],.ite (↑5==⇑0) #[.asg 8 ↑2] #[.asg 8<|av 'k' #[]],.ite ((↑6%⇑1)==⇑0) #[cH ("put_list",↑8)] #[cH ("put_structure",↑6%⇑1,↑8)],.expr<|av 'X' #[↑7],.asg 4 ↑8,.aug 5 .Sub ⇑1]
abbrev Za:aL:=#[.asg 3<|.op .lst #[↑1],.eG Ng NB,.asg 4<|.const .none,.asg 5<|mD (cQ ↑3) ⇑1,.eG aAJ yO]
def XO:LF 28 3 6 Za:=lf ['c','z','{',1526464604526,1522120028023,90484,6147761253,'|','A']
abbrev Nh:IE:=bM .LtE ↑5 ↑4
abbrev Fv:aL:=#[.asg 6<|↑1%↑5,.ite (.and (↑5==↑4)<|.op .n4 #[↑2]) #[d8 ↑3 ↑2] #[.ite ((↑6%⇑0)=="s") #[.asg 7<|av 'k' #[],.expr<|av '5' #[↑6,↑7],d8 ↑3 ↑7] #[d8 ↑3 ↑6]],.aug 5 .Add ⇑1]
abbrev Zb:aL:=#[.asg 3<|.op .lst #[],.asg 4<|mD (cQ ↑1) ⇑1,.asg 5 ⇑0,.eG Nh Fv,.ret ↑3]
def MI:LF 29 3 5 Zb:=lf ['c','w',1522120028023,'|',6113293172,90484,23163495,6869497416814208053881]
abbrev sY:aL:=#[.ite (.and ((↑3%⇑0)=="v")<|av 'u' #[↑3%⇑1]) #[.aug 2 .Add ⇑1,.cont] #[],.ite (bM .Gt ↑2 ⇑0) #[cH ("set_void",↑2),.asg 2 ⇑0] #[],.ite ((↑3%⇑0)=="v") #[.expr<|av '2' #[↑3%⇑1]] #[.ite ((↑3%⇑0)=="t") #[cH ("set_value",↑3)] #[cH ("set_constant",.call 17 #[↑3])]]]
abbrev Zc:aL:=#[.asg 2 ⇑0,.forIn 3 ↑1 sY,.ite (bM .Gt ↑2 ⇑0) #[cH ("set_void",↑2)] #[]]
def XP:LF 30 2 2 Zc:=lf ['c','|',1608186946675,1582316217189]
abbrev Zd:aL:=#[.ite (bM .NotIn ↑1 (↑0*"seen")) #[.expr<|.bm .add (↑0*"seen") #[↑1],cH ("set_variable",av 'b' #[↑1])] #[.ite (bM .In ↑1 (↑0*"local")) #[cH ("set_local_value",av 'b' #[↑1]),.ite (.not<|av 'j' #[↑1]) #[.expr<|.bm .discard (↑0*"local") #[↑1]] #[]] #[cH ("set_value",av 'b' #[↑1])]]]
def XQ:LF 31 2 0 Zd:=lf ['c',363]
abbrev aAK:IE:=bM .GtE ↑6 ⇑0
abbrev Zf:aL:=#[d8 ↑3 (↑4%⇑2%↑6,↑5%⇑2%↑6),.aug 6 .Sub ⇑1]
abbrev Ni:IE:=bM .Gt (cQ ↑3) ⇑0
abbrev Fw:aL:=#[.gR [4,5]<|.bm .pop ↑3 #[],.ite (.and (bM .NotEq (↑4%⇑0) "v")<|(↑5%⇑0)=="v") #[.swap 4 5 ↑5 ↑4] #[],.ite ((↑4%⇑0)=="v") #[.expr<|av 'G' #[↑4%⇑1,↑5]] #[.ite (.and ((↑4%⇑0)=="s")<|.and ((↑5%⇑0)=="s") ((↑4%⇑1)==(↑5%⇑1))) #[.asg 6<|mD (cQ<|↑4%⇑2) ⇑1,.eG aAK Zf] #[.ite (.or ((↑4%⇑0)=="s")<|.or ((↑5%⇑0)=="s") (bM .NotEq ↑4 ↑5)) #[cH<|.op .tup #["fail"]] #[]]]]
abbrev Ze:aL:=#[.asg 3<|.op .lst #[(↑1,↑2)],.eG Ni Fw]
def XR:LF 32 3 4 Ze:=lf ['c',6113551988,1590906284148,1582182265459,24079973,1578205996402,90484]
abbrev NC:aL:=#[.ite ((↑2%⇑0)=="v") #[.expr<|av 'T' #[↑1,↑2%⇑1],.ret<|.const .none] #[],.ite (.and (bM .NotIn ↑1 (↑0*"seen"))<|bM .In ↑1 (.call 14 #[↑2])) #[.expr<|av 'N' #[↑1]] #[],.ite (bM .In ↑1 (↑0*"seen")) #[.asg 3<|av 'O' #[↑1],.ite ((↑2%⇑0)=="s") #[.expr<|av '[' #[↑2,↑3]] #[cH ("get_constant",.call 17 #[↑2],↑3)]] #[.ite (av 'u' #[↑1]) #[.ite ((↑2%⇑0)=="s") #[.expr<|av '5' #[↑2,av 'k' #[]]] #[]] #[.asg 3<|av 'y' #[↑1],.ite ((↑2%⇑0)=="s") #[.expr<|av '5' #[↑2,↑3]] #[cH ("put_constant",.call 17 #[↑2],↑3)],.expr<|av '#' #[↑1,↑3]]]]
def MJ:LF 33 3 1 NC:=lf ['c',363,'z','A']
abbrev Zg:aL:=#[.ite (.and (bM .In ↑1 (↑0*"seen"))<|bM .In ↑2 (↑0*"seen")) #[.ite (↑1==↑2) #[.ret<|.const .none] #[],.ite (av 'j' #[↑1]) #[cH ("get_value",av 'b' #[↑1],av 'O' #[↑2])] #[cH ("get_value",av 'b' #[↑2],av 'b' #[↑1])]] #[.ite (bM .In ↑1 (↑0*"seen")) #[.expr<|av '/' #[↑2,↑1]] #[.ite (bM .In ↑2 (↑0*"seen")) #[.expr<|av '/' #[↑1,↑2]] #[.expr<|av 'N' #[↑2],.ite (bM .NotEq ↑1 ↑2) #[.ite (bM .In ↑2 (↑0*"seen")) #[.expr<|av '/' #[↑1,↑2]] #[.expr<|av 'N' #[↑1]]] #[]]]]]
def XS:LF 34 3 0 Zg:=lf ['c',362,363]
abbrev Zh:aL:=#[.ite (av 'u' #[↑1]) #[.ret<|.const .none] #[],.asg 2<|av 'y' #[↑1],cH ("put_void",↑2),.expr<|av '#' #[↑1,↑2]]
def XU:LF 35 2 1 Zh:=lf ['c',363,'A']
abbrev ND:aL:=#[.ite (av 'u' #[↑1]) #[.ret<|.const .none] #[],.ite (av 'j' #[↑2]) #[.asg 3<|av 'y' #[↑1],.expr<|av '0' #[↑2,↑3],.expr<|av '#' #[↑1,↑3],.ret<|.const .none] #[],.ite (bM .In ↑2 (↑0*"local")) #[.expr<|.bm .add (↑0*"local") #[↑1]] #[],.expr<|.bm .add (↑0*"seen") #[↑1],.ite (av 'j' #[↑1]) #[cH ("get_variable",av 'b' #[↑1],av 'b' #[↑2])] #[cH ("put_value",av 'b' #[↑2],av 'b' #[↑1])]]
def XW:LF 36 3 1 ND:=lf ['c',363,24079460,'A']
abbrev Zi:aL:=#[.ite (av 'j' #[↑1]) #[.ret<|av 'k' #[]] #[],.ret ("t",↑1)]
def XX:LF 37 2 0 Zi:=lf ['c',363]
abbrev Zj:aL:=#[.expr<|.bm .add (↑0*"seen") #[↑1],.ite (av 'j' #[↑1]) #[cH ("get_variable",av 'b' #[↑1],↑2)] #[]]
def XY:LF 38 3 0 Zj:=lf ['c',363,'A']
abbrev Zk:aL:=#[.ite (.not<|av 'j' #[↑1]) #[.ret ("t",↑1)] #[],.asg 2<|av 'k' #[],.expr<|av '0' #[↑1,↑2],.ret ↑2]
def XZ:LF 39 2 1 Zk:=lf ['c',363,'A']
abbrev Zl:aL:=#[.ite (bM .In ↑1 (↑0*"local")) #[cH ("put_unsafe_value",av 'b' #[↑1],↑2)] #[cH ("put_value",av 'b' #[↑1],↑2)]]
def Xa:LF 40 3 0 Zl:=lf ['c',363,'A']
abbrev NH:aL:=#[.aug 3 .Add ⇑1,.asg 5 ("a",↑3),.ite ((↑4%⇑0)=="v") #[.expr<|av 'Y' #[↑4%⇑1,↑5,↑2]] #[.ite ((↑4%⇑0)=="s") #[.expr<|av '5' #[↑4,↑5]] #[cH ("put_constant",.call 17 #[↑4],↑5)]]]
abbrev Zm:aL:=#[.asg 3 ⇑0,.forIn 4 ↑1 NH]
def Xb:LF 41 3 3 Zm:=lf ['c','w',102568360795532903,'J',23163495,'{']
abbrev Zn:aL:=#[.asg 4<|↑0*"plan"*"infos"%↑1,.ite ((↑4*"kind")=="void") #[cH ("put_void",↑2)] #[.ite (bM .NotIn ↑1 (↑0*"seen")) #[.expr<|.bm .add (↑0*"seen") #[↑1],.ite ((↑4*"kind")=="perm") #[.expr<|.bm .add (↑0*"local") #[↑1]] #[],cH ("put_variable",av 'b' #[↑1],↑2)] #[.ite (.and (↑4*"unsafe")<|.and (bM .GtE ↑3 ⇑0) ((↑4*"last_goal")==↑3)) #[cH ("put_unsafe_value",av 'b' #[↑1],↑2)] #[cH ("put_value",av 'b' #[↑1],↑2)]]]]
def Xc:LF 42 4 1 Zn:=lf ['c',363,'{',102568360795532903,'=']
abbrev Zo:aL:=#[.asg 2<|↑0*"kernel"*"goals"%↑1,.asg 3<|↑2%⇑0,.ite (↑3=="call") #[.expr<|av 'F' #[↑2%⇑2,↑1]] #[.ite (↑3=="builtin") #[.expr<|av 'F' #[↑2%⇑2,⇑i1],cH ("builtin",↑2%⇑1)] #[.ite (↑3=="unify") #[.expr<|av '%' #[↑2%⇑1,↑2%⇑2]] #[.ite (↑3=="cut") #[cH<|.op .tup #["neck_cut"]] #[.ite (↑3=="level") #[.expr<|av 'D' #["get_level",↑2%⇑1]] #[.ite (↑3=="mark") #[.expr<|av 'D' #["mark",↑2%⇑1]] #[.ite (↑3=="cutto") #[.expr<|av 'D' #["cut_to",↑2%⇑1]] #[cH<|.op .tup #["fail"]]]]]]]]]
def Xd:LF 44 2 2 Zo:=lf ['c',1552335267192,'I','1']
abbrev NJ:aL:=#[.aug 3 .Add ⇑1,.expr<|av 'Z' #[↑4,("a",↑3)]]
abbrev Nj:IE:=bM .Lt ↑6 ↑5
abbrev NK:aL:=#[.expr<|av 'I' #[↑6],.ite ((↑2%↑6%⇑0)=="call") #[cH ("call",↑2%↑6%⇑1,↑1*"live_after"%↑6)] #[],.aug 6 .Add ⇑1]
abbrev sZ:aL:=#[.asg 1<|↑0*"plan",.asg 2<|↑0*"kernel"*"goals",.ite (↑1*"needs_env") #[cH ("allocate",↑1*"env_size")] #[],.asg 3 ⇑0,.forIn 4 (↑0*"kernel"*"args") NJ,.asg 5<|mD (cQ ↑2) ⇑1,.asg 6 ⇑0,.eG Nj NK,.ite (bM .GtE ↑5 ⇑0) #[.expr<|av 'I' #[↑5]] #[],.ite (↑1*"needs_env") #[cH<|.op .tup #["deallocate"]] #[],.ite (.and (bM .GtE ↑5 ⇑0)<|(↑2%↑5%⇑0)=="call") #[cH ("execute",↑2%↑5%⇑1)] #[cH<|.op .tup #["proceed"]],.ret<|↑0*"code"]
def Xe:LF 45 1 6 sZ:=lf ['c','8','m','J',23163495,6113293172,1552335267192]
abbrev Zp:aL:=#[.ret<|.gK (.new 5 #[↑1,↑2]) '}' #[]]
def Xf:LF 46 3 0 Zp:=lf [104560727069518963,'C','8']
abbrev Zq:aL:=#[.setAttr ↑0 'a' ↑1,.setAttr ↑0 'w' ↑2,.setAttr ↑0 'm' ↑3,.setAttr ↑0 'f' ↑4]
def Xg:LF 47 5 0 Zq:=lf ['c','a','w','m','f']
abbrev Zr:aL:=#[.asg 1<|↑0%⇑0,.ite (.or (↑1=="call")<|↑1=="builtin") #[.ret<|↑0%⇑2] #[],.ite (↑1=="unify") #[.ret (↑0%⇑1,↑0%⇑2)] #[],.ret<|.op .tup #[]]
def Xh:LF 48 1 1 Zr:=lf ['I','1']
abbrev Zs:aL:=#[.ite (.or ((↑0%⇑0)=="level")<|.or ((↑0%⇑0)=="mark") ((↑0%⇑0)=="cutto")) #[.ret<|↑0%⇑1] #[],.ret ⇑i1]
def Xi:LF 49 1 0 Zs:=lf ['I']
abbrev Zt:aL:=#[.setAttr ↑0 24535410 ↑1,.setAttr ↑0 '1' "temp",.setAttr ↑0 6231453556 ⇑0,.setAttr ↑0 '.' ↑2,.setAttr ↑0 ';' (.const<|.bool AD),.setAttr ↑0 'M' ⇑i1,.setAttr ↑0 'f' ⇑0,.setAttr ↑0 '!' ⇑0,.setAttr ↑0 '&' ⇑0]
def Xj:LF 50 3 0 Zt:=lf ['c',363,'.']
abbrev Zu:aL:=#[.setAttr ↑0 'L' ↑1,.setAttr ↑0 'P' ↑2,.setAttr ↑0 'E' ↑3,.setAttr ↑0 'S' ↑4,.setAttr ↑0 'B' ↑5]
def Xk:LF 51 6 0 Zu:=lf ['c','L','P','E','S','B']
abbrev Fy:aL:=#[d8 ↑1 ↑2,.ite ((↑3%⇑0)=="call") #[.aug 2 .Add ⇑1] #[]]
abbrev Zw:aL:=#[.asg 1<|.op .lst #[],.asg 2 ⇑0,.forIn 3 ↑0 Fy,.ret ↑1]
def Xl:LF 57 1 3 Zw:=lf ['m','P',1526465916523,'I']
abbrev Zx:aL:=#[.setAttr ↑0 'L' (.op .hN #[])]
def Xm:LF 58 1 0 Zx:=lf ['c']
abbrev NM:aL:=#[.ite (bM .NotIn ↑1 (↑0*"infos")) #[.cW (↑0*"infos") ↑1 (.new 7 #[↑1,↑2]),.setAttr (↑0*"infos"%↑1) '!' ↑4] #[],.asg 6<|↑0*"infos"%↑1,.mB ↑6 'f' .Add ↑5,.setAttr ↑6 'M' ↑3,.setAttr ↑6 '&' ↑4]
def Xn:LF 59 6 1 NM:=lf ['c',363,'.','I',1526465916523,'f','=']
abbrev NN:aL:=#[.expr<|av '^' #[↑7,↑2+"_struct",↑3,↑4,↑6%↑7]]
abbrev yQ:aL:=#[.ite ((↑5%⇑0)=="v") #[.expr<|av '^' #[↑5%⇑1,↑2+"_arg",↑3,↑4,⇑1]] #[.asg 6<|.call 16 #[↑5],.forIn 7 (.call 14 #[↑5]) NN]]
abbrev Zy:aL:=#[.forIn 5 ↑1 yQ]
def Xo:LF 60 5 3 Zy:=lf ['c','W','b','I',1526465916523,'z',390805339403379,363]
abbrev Zz:aL:=#[.ite ((↑0*"count")==⇑1) #[.ret "void"] #[],.ite (bM .Gt (↑0*"last_chunk")<|↑0*"first_chunk") #[.ret "perm"] #[],.ret "temp"]
def Xp:LF 61 1 0 Zz:=lf ['=']
abbrev Nl:IE:=.and (bM .Gt ↑4 ⇑0)<|bM .Lt (.op (.attr 'M') #[↑0%(↑1%(mD ↑4 ⇑1))]) (↑3*"last_goal")
abbrev NO:aL:=#[.aug 4 .Sub ⇑1]
abbrev NP:aL:=#[.asg 3<|↑0%↑2,.ite ((↑3*"kind")=="perm") #[.asg 4<|cQ ↑1,.eG Nl NO,.expr<|.bm .insert ↑1 #[↑4,↑2]] #[]]
abbrev Z0:aL:=#[.asg 1<|.op .lst #[],.forIn 2 (.op (.f1 .sorted) #[↑0]) NP,.ret ↑1]
def Xq:LF 62 1 4 Z0:=lf ['L',1578172179826,363,'=',90484]
abbrev Fz:aL:=#[.asg 6<|↑1%↑5,.asg 7<|.call 49 #[↑6],.ite (bM .GtE ↑7 ⇑0) #[.expr<|.gK ↑3 '^' #[↑7,"special",↑5,↑2%↑5,⇑1]] #[],.expr<|.gK ↑3 'W' #[.call 48 #[↑6],"goal",↑5,↑2%↑5],.ite (.and ((↑6%⇑0)=="call")<|bM .Lt (↑5+⇑1) (cQ ↑1)) #[.asg 4<|.const (.bool AB)] #[]]
abbrev NQ:aL:=#[.setAttr (↑8%↑9) '1'<|.call 61 #[↑8%↑9]]
abbrev NR:aL:=#[.asg 11<|↑8%(↑10%↑5),.setAttr ↑11 6231453556 (↑5+⇑1),.setAttr ↑11 ';' ((↑11*"first")=="goal_arg")]
abbrev Nm:IE:=.and (bM .Lt ↑13 (cQ ↑10))<|bM .Gt (↑8%(↑10%↑13)*"last_goal") ↑5
abbrev NS:aL:=#[.aug 13 .Add ⇑1]
abbrev NT:aL:=#[.asg 13 ⇑0,.eG Nm NS,d8 ↑12 ↑13]
abbrev Z1:aL:=#[.asg 1<|↑0*"goals",.asg 2<|.call 57 #[↑1],.asg 3<|.new 9 #[],.expr<|.gK ↑3 'W' #[↑0*"args","head",⇑i1,⇑0],.asg 4<|.const (.bool AD),.forR 5 (cQ ↑1) Fz,.asg 8<|↑3*"infos",.forIn 9 ↑8 NQ,.asg 10<|.call 62 #[↑8],.forR 5 (cQ ↑10) NR,.asg 12<|.op .lst #[],.forR 5 (cQ ↑1) NT,.ret<|.new 8 #[↑8,↑2,↑4,cQ ↑10,↑12]]
def Xr:LF 63 1 13 Z1:=lf ['C','m','P',408423245440377,'E',90484,'I',104550797121511788,'L',363,1578172179826,'=','B',6113818213]
abbrev F3:aL:=#[.ite (bM .Lt (↑0%⇑0) ⇑'$') #[.asg 2<|↑0%⇑1,.cW ↑0 ⇑1 (↑2+⇑1),.asg 3<|↑0%⇑2%(.op (.bin .Mod) #[↑2,cQ<|↑0%⇑2]),.ite (↑3==⇑0) #[.ret ⇑0] #[],.ite (.and (bM .Lt ↑2 (cQ<|↑0%⇑2))<|bM .GtE ↑3 (.op (.bin .Pow) #[⇑10,⇑18])) #[.cW ↑0 ⇑0 (.op (.bin .Mod) #[↑3,.op (.bin .Pow) #[⇑10,⇑60]])] #[.cW ↑0 ⇑0 (.op (.bin .Mod) #[.op (.bin .Mult) #[((.op (.bin .Mod) #[↑3,⇑'K'])+(.op (.bin .Mult) #[⇑104729,↑2]))+⇑17,⇑'9'+(.op (.bin .Mult) #[⇑2,↑2])],⇑'K'])]] #[],.asg 4<|.op (.bin .Mod) #[↑0%⇑0,↑1],.cW ↑0 ⇑0 (.op (.bin .FloorDiv) #[↑0%⇑0,↑1]),.ret ↑4]
def Xs:LF 64 2 3 F3:=lf [6181318508,6130987892,'b',5962558572,1530927347566]
abbrev aAL:IE:=.call 65 #[↑2,↑1]
abbrev Z3:aL:=#[.ite ((↑0%⇑0)=="v") #[.ite (bM .NotIn (↑0%⇑1) ↑1) #[.cW ↑1 (↑0%⇑1) (cQ ↑1)] #[],.ret ("v",↑1%(↑0%⇑1))] #[],.ite ((↑0%⇑0)=="s") #[.ret ("s",↑0%⇑1,.op (.f1 .tuple) #[.comp aAL 2<|↑0%⇑2])] #[],.ret ↑0]
def FP:LF 65 2 1 Z3:=lf ['z',1599361674341,'*']
abbrev Nq:IE:=.call 65 #[↑2,↑1]
abbrev Z4:aL:=#[.asg 1<|.op .hN #[],.ret<|.comp Nq 2 ↑0]
def Xt:LF 66 1 2 Z4:=lf ['W',1599361674341,'z']
abbrev Z6:aL:=#[.expr<|.call 67 #[↑2,↑1]]
abbrev Z5:aL:=#[.ite ((↑0%⇑0)=="v") #[.ite (bM .NotIn (↑0%⇑1) ↑1) #[d8 ↑1 (↑0%⇑1)] #[]] #[.ite ((↑0%⇑0)=="s") #[.forIn 2 (↑0%⇑2) Z6] #[]],.ret ↑1]
def FQ:LF 67 2 1 Z5:=lf ['z','7','*']
abbrev Nn:IE:=.and ((↑1%⇑0)=="v")<|bM .In (↑1%⇑1) ↑0
abbrev NU:aL:=#[.asg 1<|↑0%(↑1%⇑1)]
abbrev Z7:aL:=#[.eG Nn NU,.ret ↑1]
def Xu:LF 68 2 0 Z7:=lf ['R','z']
abbrev aAM:IE:=.call 69 #[↑0,↑2]
abbrev Z8:aL:=#[.asg 1<|.call 68 #[↑0,↑1],.ite ((↑1%⇑0)=="s") #[.ret ("s",↑1%⇑1,.op (.f1 .tuple) #[.comp aAM 2<|↑1%⇑2])] #[],.ret ↑1]
def MK:LF 69 2 1 Z8:=lf ['R','z','*']
abbrev Np:IE:=.op .hO #[↑3]
abbrev NV:aL:=#[.asg 4<|.call 68 #[↑0,.bm .pop ↑3 #[]],.ite (↑4==("v",↑1)) #[.ret<|.const (.bool AB)] #[],.ite ((↑4%⇑0)=="s") #[.aug 3 .Add<|.op (.f1 .list) #[↑4%⇑2]] #[]]
abbrev Z9:aL:=#[.asg 3<|.op .lst #[↑2],.eG Np NV,.ret<|.const (.bool AD)]
def Xv:LF 70 3 2 Z9:=lf ['R','J','z','~','*']
abbrev aAN:IE:=(↑1%⇑2%↑4,↑2%⇑2%↑4)
abbrev vF:IE:=.op .hO #[↑3]
abbrev sa:aL:=#[.gR [1,2]<|.bm .pop ↑3 #[],.asg 1<|.call 68 #[↑0,↑1],.asg 2<|.call 68 #[↑0,↑2],.ite (.and ((↑2%⇑0)=="v")<|bM .NotEq (↑1%⇑0) "v") #[.gR [1,2] (↑2,↑1)] #[],.ite ((↑1%⇑0)=="v") #[.ite (↑1==↑2) #[.cont] #[],.ite (.call 70 #[↑0,↑1%⇑1,↑2]) #[.ret<|.const (.bool AD)] #[],.cW ↑0 (↑1%⇑1) ↑2] #[.ite (.and ((↑1%⇑0)=="s")<|.and ((↑2%⇑0)=="s") ((↑1%⇑1)==(↑2%⇑1))) #[.aug 3 .Add<|.gS aAN 4 (cQ<|↑1%⇑2)] #[.ite (.or ((↑1%⇑0)=="s")<|.or ((↑2%⇑0)=="s") (bM .NotEq ↑1 ↑2)) #[.ret<|.const (.bool AD)] #[]]]]
abbrev j71:aL:=#[.asg 3<|.op .lst #[(↑1,↑2)],.eG vF sa,.ret<|.const (.bool AB)]
def Xw:LF 71 3 2 j71:=lf ['R',24079973,24409967,'~','b']
abbrev aAO:IE:=.call 69 #[↑0,↑6]
abbrev aAC:aL:=#[.expr<|.call 67 #[↑9,↑8]]
abbrev j72:aL:=#[.asg 7<|.comp aAO 6 ↑3,.asg 8<|.op .lst #[],.forIn 9 ↑7 aAC,d8 ↑4 (↑1,↑2,.call 66 #[↑7]),.asg 10<|↑5%(.op (.bin .Mod) #[cQ ↑4,cQ ↑5]),.ite (.and (.op .hO #[↑8])<|bM .Gt ↑10 ⇑0) #[.cW ↑0 (↑8%(.op (.bin .Mod) #[↑10,cQ ↑8])) ("i",⇑700+(cQ ↑4))] #[]]
def Xx:LF 72 6 5 j72:=lf ['R','1','J','@','<',',','*',1612364868709,1573592589683,'z',6180922219]
abbrev NW:aL:=#[.ite (.not<|.call 71 #[↑0,↑1*"args"%↑6,↑2%↑6]) #[.ret (↑4,↑5,"failed")] #[]]
abbrev F4:aL:=#[.ite (.or ((↑7%⇑0)=="call")<|(↑7%⇑0)=="builtin") #[.aug 5 .Add<|.op (.f1 .list) #[↑7%⇑2],.expr<|.call 72 #[↑0,↑7%⇑0,↑7%⇑1,↑7%⇑2,↑4,↑3]] #[.ite ((↑7%⇑0)=="unify") #[.ite (.not<|.call 71 #[↑0,↑7%⇑1,↑7%⇑2]) #[.ret (↑4,↑5,"failed")] #[]] #[.ite ((↑7%⇑0)=="level") #[.cW ↑0 (↑7%⇑1) ("i",.const<|.int i4)] #[.ite ((↑7%⇑0)=="mark") #[.cW ↑0 (↑7%⇑1) ("i",⇑5000+(cQ ↑4))] #[.ite ((↑7%⇑0)=="cutto") #[d8 ↑4 ("cutto",.call 66 #[.op .lst #[.call 69 #[↑0,("v",↑7%⇑1)]]])] #[.ite ((↑7%⇑0)=="fail") #[.ret (↑4,↑5,"failed")] #[d8 ↑4 (.op .tup #[↑7%⇑0])]]]]]]]
abbrev j73:aL:=#[.asg 4<|.op .lst #[],.asg 5<|.op (.f1 .list) #[↑2],.forR 6 (cQ ↑2) NW,.forIn 7 (↑1*"goals") F4,.ret (↑4,↑5,"done")]
def Xy:LF 73 4 4 j73:=lf ['R','C',5962296428,',','<',6096777332,'b','I']
abbrev j74:aL:=#[.ite (.op (.fm [Aaq,Aar,Aam]) #[↑0%⇑0]) #[.ret<|.op .lst #[↑0%⇑2]] #[],.ite ((↑0%⇑0)=="get_value") #[.ret<|.op .lst #[↑0%⇑1,↑0%⇑2]] #[],.ite (.op (.fm [Aan,Aaj,Aao,Aak,Aap,[112,117,116,95,118,97,108,117,101],Aas,[99,117,116,95,116,111]]) #[↑0%⇑0]) #[.ret<|.op .lst #[↑0%⇑1]] #[],.ret<|.op .lst #[]]
def Xz:LF 74 1 0 j74:=lf [23686771]
abbrev j75:aL:=#[.ret (.ite ((↑0%⇑0)==⇑4) "a" "i",↑0%⇑1)]
def X1:LF 75 1 0 j75:=lf [5962558572]
abbrev NY:aL:=#[.cW ↑7 ("a",↑8+⇑1) (↑3%↑8)]
abbrev NZ:aL:=#[.ite ((↑11%⇑0)=="s") #[.expr<|.call 67 #[↑11,↑10]] #[]]
abbrev Na:aL:=#[.ite (.and ((↑11%⇑0)=="v")<|bM .NotIn (↑11%⇑1) ↑10) #[.cW ↑9 (↑11%⇑1) ⇑i2] #[]]
abbrev Nb:aL:=#[.ite (bM .NotIn ↑20 ↑7) #[.ret (↑5,↑6,"unset")] #[]]
abbrev Nc:aL:=#[.aug 13 .Add ⇑1,d8 ↑12 ("v",↑13)]
abbrev F5:aL:=#[.ite (bM .NotIn ("a",↑8+⇑1) ↑7) #[.ret (↑5,↑6,"unset")] #[],d8 ↑28 (↑7%("a",↑8+⇑1))]
abbrev F7:aL:=#[.ite (.or (.and (↑17=="builtin")<|(↑30%⇑0)=="t")<|.and ((↑30%⇑0)=="y") (bM .LtE (↑30%⇑1) ↑14)) #[.cW ↑29 ↑30 (↑7%↑30)] #[]]
abbrev GD:IE:=↑29%↑30
abbrev Nd:aL:=#[.asg 27<|.call 68 #[↑2,↑11],.ite (.and ((↑27%⇑0)=="v")<|.and (bM .In (↑27%⇑1) ↑9) (bM .Gt (↑9%(↑27%⇑1)) ↑14)) #[.ret (↑5,↑6,"loose")] #[]]
abbrev yR:aL:=#[.asg 16<|↑1%↑15,.asg 17<|↑16%⇑0,.asg 18<|↑16%(mD (cQ ↑16) ⇑1),.asg 19<|.const (.bool AB),.forIn 20 (.call 74 #[↑16]) Nb,.ite (bM .NotEq (.or ((.op .lV #[↑17,⇑6])=="unify_")<|(.op .lV #[↑17,⇑4])=="set_")<|.op .hO #[↑12]) #[.ret (↑5,↑6,"torn")] #[],.ite (↑17=="get_variable") #[.cW ↑7 (↑16%⇑1) (↑7%(↑16%⇑2))] #[.ite (↑17=="get_value") #[.asg 21<|.call 68 #[↑2,↑7%(↑16%⇑1)],.asg 22<|.call 68 #[↑2,↑7%(↑16%⇑2)],.asg 23<|.ite ((↑21%⇑0)=="v") (.bm .f7 ↑9 #[↑21%⇑1,⇑i3]) ⇑i3,.ite (.and ((↑22%⇑0)=="v")<|bM .Gt (.bm .f7 ↑9 #[↑22%⇑1,⇑i3]) ↑23) #[.swap 21 22 ↑22 ↑21] #[],.asg 19<|.call 71 #[↑2,↑21,↑22]] #[.ite (↑17=="get_constant") #[.asg 19<|.call 71 #[↑2,↑7%(↑16%⇑2),.call 75 #[↑16%⇑1]]] #[.ite (.op (.fm [Aan,Aam,[112,117,116,95,108,105,115,116],Aat]) #[↑17]) #[.asg 24<|.ite ((.op .je #[↑17,⇑4])=="structure") (↑16%⇑1) ⇑0,.forR 8 (av '6' #[↑24]) Nc,.asg 25 ("s",↑24,.op (.f1 .tuple) #[↑12]),.ite ((.op .lV #[↑17,⇑4])=="put_") #[.cW ↑7 ↑18 ↑25] #[.asg 26<|.call 68 #[↑2,↑7%↑18],.ite ((↑26%⇑0)=="v") #[.cW ↑2 (↑26%⇑1) ↑25] #[.ite (.and ((↑26%⇑0)=="s")<|(↑26%⇑1)==↑24) #[.asg 12<|.op (.f1 .list) #[↑26%⇑2]] #[.asg 19<|.const (.bool AD)]]]] #[.ite (.op (.fm [Aau,Aav]) #[↑17]) #[.cW ↑7 (↑16%⇑1) (↑12%⇑0),.asg 12<|.op .je #[↑12,⇑1]] #[.ite (.op (.fm [Aaw,Aax]) #[↑17]) #[.asg 19<|.call 71 #[↑2,↑12%⇑0,.call 75 #[↑16%⇑1]],.asg 12<|.op .je #[↑12,⇑1]] #[.ite (.op (.fm [[117,110,105,102,121,95,118,111,105,100],[115,101,116,95,118,111,105,100]]) #[↑17]) #[.ite (bM .Lt (cQ ↑12)<|↑16%⇑1) #[.ret (↑5,↑6,"torn")] #[],.asg 12<|.op .je #[↑12,↑16%⇑1]] #[.ite (.op (.fm [Aaj,Aao,Aak,Aap]) #[↑17]) #[.asg 27<|.call 68 #[↑2,↑7%(↑16%⇑1)],.ite (.and ((↑27%⇑0)=="v")<|bM .In (↑27%⇑1) ↑9) #[.ite (.op (.fm [Aaj,Aak]) #[↑17]) #[.ret (↑5,↑6,"loose")] #[],.expr<|.bm .gv ↑9 #[↑27%⇑1]] #[],.asg 19<|.call 71 #[↑2,↑12%⇑0,↑27],.asg 12<|.op .je #[↑12,⇑1]] #[.ite (.or (↑17=="put_variable")<|↑17=="put_void") #[.aug 13 .Add ⇑1,.cW ↑7 (↑16%⇑1) ("v",↑13),.cW ↑7 ↑18 ("v",↑13),.ite ((↑16%⇑1%⇑0)=="y") #[.cW ↑9 ↑13 (↑16%⇑1%⇑1)] #[]] #[.ite (↑17=="put_value") #[.cW ↑7 (↑16%⇑2) (↑7%(↑16%⇑1))] #[.ite (↑17=="put_unsafe_value") #[.asg 27<|.call 68 #[↑2,↑7%(↑16%⇑1)],.ite (.and ((↑27%⇑0)=="v")<|bM .In (↑27%⇑1) ↑9) #[.expr<|.bm .gv ↑9 #[↑27%⇑1]] #[],.cW ↑7 (↑16%⇑2) ↑27] #[.ite (↑17=="put_constant") #[.cW ↑7 (↑16%⇑2) (.call 75 #[↑16%⇑1])] #[.ite (↑17=="get_level") #[.cW ↑7 (↑16%⇑1) ("i",.const<|.int i4)] #[.ite (↑17=="mark") #[.cW ↑7 (↑16%⇑1) ("i",⇑5000+(cQ ↑5))] #[.ite (↑17=="cut_to") #[d8 ↑5 ("cutto",.call 66 #[.op .lst #[.call 69 #[↑2,↑7%(↑16%⇑1)]]])] #[.ite (↑17=="neck_cut") #[d8 ↑5 (.op .tup #["cut"])] #[.ite (↑17=="fail") #[.asg 19<|.const (.bool AD)] #[.ite (↑17=="allocate") #[.ite (.or (bM .GtE ↑14 ⇑0)<|bM .Gt ↑15 ⇑0) #[.ret (↑5,↑6,"torn")] #[],.asg 14<|↑16%⇑1] #[.ite (↑17=="deallocate") #[.asg 14 ⇑i1] #[.ite (.op (.fm [Aaa,[101,120,101,99,117,116,101],Aad]) #[↑17]) #[.asg 28<|.op .lst #[],.forR 8 (av '6' #[↑16%⇑1]) F5,.ite (↑17=="call") #[.ite (bM .Gt (↑16%⇑2) ↑14) #[.ret (↑5,↑6,"torn")] #[],.asg 14<|↑16%⇑2] #[],.asg 29<|.op .hN #[],.forIn 30 ↑7 F7,.ite (bM .NotEq ↑17 "builtin") #[.forIn 11 (↑28+(.comp GD 30 ↑29)) Nd] #[],.asg 7 ↑29,.aug 6 .Add ↑28,.expr<|.call 72 #[↑2,.ite (↑17=="builtin") "builtin" "call",↑16%⇑1,↑28,↑5,↑4],.ite (↑17=="execute") #[.ret (↑5,↑6,.ite (.and (↑15==(mD (cQ ↑1) ⇑1))<|↑14==⇑i1) "done" "torn")] #[]] #[.ite (↑17=="proceed") #[.ret (↑5,↑6,.ite (.and (↑15==(mD (cQ ↑1) ⇑1))<|↑14==⇑i1) "done" "torn")] #[.ret (↑5,↑6,"unknown")]]]]]]]]]]]]]]]]]]]]],.ite (.not ↑19) #[.ret (↑5,↑6,"failed")] #[]]
abbrev NX:aL:=#[.asg 5<|.op .lst #[],.asg 6<|.op (.f1 .list) #[↑3],.asg 7<|.op .hN #[],.forR 8 (cQ ↑3) NY,.asg 9<|.op .hN #[],.asg 10<|.op .lst #[],.forIn 11 ↑3 NZ,.forIn 11 ↑3 Na,.asg 12<|.op .lst #[],.asg 13 ⇑':',.asg 14 ⇑i1,.forR 15 (cQ ↑1) yR,.ret (↑5,↑6,"open")]
def X2:LF 76 5 26 NX:=lf [1595201252979,'>','R',5962296428,',','<',6096777332,6047100004,'b',1565237670757,1552335922546,'z',6214218612,1595318301285,400675190697575,90484,23686771,6146846053,6113293172,23946612,6147106148,24079973,24409967,1578071516530,'J',6130066533,']',1607952266597,'@',6113551988,6231715700]
abbrev aAP:IE:=.call 69 #[↑4,↑12]
abbrev aAQ:IE:=.call 69 #[↑8,↑12]
abbrev Nf:aL:=#[.asg 4<|.op .hN #[],.gR [5,6,7]<|.call 73 #[↑4,↑1,↑2,↑3],.asg 8<|.op .hN #[],.gR [9,10,11]<|.call 76 #[↑0,.call 46 #[↑0,↑1,.call 63 #[↑1]],↑8,↑2,↑3],.ite (.or (bM .NotEq ↑9 ↑5)<|bM .NotEq ↑11 ↑7) #[.ret<|.const (.bool AD)] #[],.ite (↑7=="failed") #[.ret<|.const (.bool AB)] #[],.ret<|(.call 66 #[.comp aAP 12 ↑6])==(.call 66 #[.comp aAQ 12 ↑10])]
def X3:LF 77 4 9 Nf:=lf [1595201252979,'C',5962296428,',','R','<',6096777332,6298759780,6046444644,']','7',6230731108,'z']
abbrev F8:aL:=#[.ite (.op (.fm [Aaa,Aad]) #[↑3%⇑0]) #[.aug 2 .Add<|.op (.f1 .list) #[↑3%⇑2]] #[.ite ((↑3%⇑0)=="unify") #[.aug 2 .Add<|.op (.f1 .list) #[.op .je #[↑3,⇑1]]] #[.ite ((cQ ↑3)==⇑2) #[d8 ↑2 ("v",↑3%⇑1)] #[]]]]
abbrev Nr:IE:=.call 65 #[↑5,↑4]
abbrev F9:aL:=#[.ite (.op (.fm [Aaa,Aad]) #[↑3%⇑0]) #[d8 ↑6 (↑3%⇑0,↑3%⇑1,.op (.f1 .tuple) #[.op .cut #[↑2,↑7,↑7+(cQ<|↑3%⇑2)]]),.aug 7 .Add<|cQ (↑3%⇑2)] #[.ite ((↑3%⇑0)=="unify") #[d8 ↑6 ("unify",↑2%↑7,↑2%(↑7+⇑1)),.aug 7 .Add ⇑2] #[.ite ((cQ ↑3)==⇑2) #[d8 ↑6 (↑3%⇑0,↑2%↑7%⇑1),.aug 7 .Add ⇑1] #[d8 ↑6 ↑3]]]]
abbrev j78:aL:=#[.asg 2<|.op (.f1 .list) #[↑0%⇑1],.forIn 3 ↑1 F8,.asg 4<|.op .hN #[],.asg 2<|.comp Nr 5 ↑2,.asg 6<|.op .lst #[],.asg 7<|cQ (↑0%⇑1),.forIn 3 ↑1 F9,.ret<|.new 6 #[↑0%⇑0,.op (.f1 .tuple) #[.op .lV #[↑2,cQ<|↑0%⇑1]],↑6,cQ ↑4]]
def X4:LF 78 2 6 j78:=lf [6046441828,'m','@','I',1599361674341,'*',5979991653,90484]
abbrev GB:aL:=#[.asg 4<|.call 64 #[↑0,⇑8],.ite (bM .Lt ↑4 ⇑3) #[.ret ("v",↑3%(.call 64 #[↑0,cQ ↑3]))] #[],.ite (↑4==⇑3) #[.ret ("a",(.op .lst #[⇑0,↑1%⇑0])%(.call 64 #[↑0,⇑2]))] #[],.ite (.or (↑4==⇑4)<|↑2==⇑0) #[.ret ("i",(.op .lst #[⇑0,⇑1,⇑i1,.op (.bin .Pow) #[⇑10,⇑30]])%(.call 64 #[↑0,⇑4]))] #[],.asg 5<|.call 79 #[↑0,↑1,mD ↑2 ⇑1,↑3],.ite (↑4==⇑5) #[.ret ("s",↑1%⇑1,.op .tup #[↑5])] #[],.ret ("s",.ite (↑4==⇑6) ⇑0 (↑1%⇑2),(↑5,.call 79 #[↑0,↑1,mD ↑2 ⇑1,↑3]))]
def ML:LF 79 4 2 GB:=lf [6181318508,1612482505828,1530710226024,1573592589683,'1','.']
abbrev aAR:IE:=.call 79 #[↑1,↑3,⇑0,.op .lst #[⇑0,⇑1,⇑2]]
abbrev Nt:IE:=.call 79 #[↑1,↑3,⇑1,.op .lst #[⇑0,⇑1,⇑2,⇑3,⇑4,⇑5]]
abbrev vE:aL:=#[.asg 9<|.call 64 #[↑1,⇑6],.ite (bM .Lt ↑9 ⇑4) #[.asg 10 ("v",.call 64 #[↑1,⇑6]),.ite (↑9==⇑3) #[.asg 10<|.call 79 #[↑1,↑3,⇑1,.op .lst #[⇑0,⇑1,⇑2,⇑3,⇑4,⇑5]]] #[],.asg 11<|.call 79 #[↑1,↑3,.ite (bM .Gt ↑8 ⇑2) ⇑1 ⇑2,.op .lst #[⇑0,⇑1,⇑2,⇑3,⇑4,⇑5]],d8 ↑7 (.ite (↑9==⇑2) ("unify",↑11,↑10) ("unify",↑10,↑11))] #[.asg 12<|.op (.f1 .tuple) #[.gS Nt 5<|.call 64 #[↑1,⇑4]],d8 ↑7 (.ite (↑9==⇑5) "builtin" "call",.gK ↑2 '+' #["g"+(.op (.f1 .str) #[↑8]),cQ ↑12],↑12)]]
abbrev aAS:IE:=.call 79 #[↑1,↑3,⇑1,.op .lst #[⇑500,⇑501]]
abbrev aAT:IE:=.call 64 #[↑1,⇑4]
abbrev sb:aL:=#[.asg 1<|.op .lst #[⇑0,⇑0,.op .lV #[↑0+(.op .lst #[⇑0]),⇑40]],.asg 2<|.new 0 #[],.asg 3<|.op .lst #[.gK ↑2 '?' #["a"],.gK ↑2 '+' #["f",⇑1],.gK ↑2 '+' #["f",⇑2]],.asg 4<|.call 64 #[↑1,⇑4],.asg 6 (.gK ↑2 '+' #["h",↑4],.op (.f1 .tuple) #[.gS aAR 5 ↑4]),.asg 7<|.op .lst #[],.forR 8 (⇑1+(.call 64 #[↑1,⇑5])) vE,.asg 13<|.gS aAS 5 ↑4,.asg 14<|.gS aAT 8 ⇑4,.ret<|.call 77 #[↑2,.call 78 #[↑6,↑7],↑13,↑14]]
def X5:LF 80 1 14 sb:=lf [408345935179892,6181318508,1595201252979,1612482505828,'f','b',6046441828,'m',6231975280,'1',6113551988,1590906284148,'@',5962296428,',']
end
def lz{b:Nat}(h:Bm a b=AB):a<=b:=JZ h
def aE:U.Tm->V
 | .v n=>.tup [.str [118],.int n]| .c k z=>.tup [.str<|if k=AB then[97] else[105],.int z]| .s1 f x=>.tup [.str [115],.int f,.tup [aE x]]| .s2 f x y=>.tup [.str [115],.int f,.tup [aE x,aE y]]
def tY:U.Tm->List Nat
 | .v _=>[118]| .c k _=>if k=AB then[97] else[105]|_=>[115]
def cI(ns:List Nat):List Int:=ns.map λn:Nat=>n
def bY(p:U.Place):V:=.tup [.str [p.1],.int p.2]
def encC(k:Bool)(z:Int):V:=.tup [.int<|if k=AB then 4 else 5,.int z]
def qx:bN->List Nat
 | .getVar _ _=>Aaq| .kG _ _=>[103,101,116,95,118,97,108,117,101]| .kE _ _ _=>Aar| .yC _=>Aan| .yD _ _=>Aam| .kb _=>Aau| .pf _=>Aao| .ph _=>Aaj| .oJ _ _=>Aaw| .oL _=>[117,110,105,102,121,95,118,111,105,100]| .HV _=>[112,117,116,95,108,105,115,116]| .putStr _ _=>Aat| .oD _=>Aav| .pV _=>Aap| .oC _=>Aak| .oB _ _=>Aax| .oE _=>[115,101,116,95,118,111,105,100]| .q8 _ _=>[112,117,116,95,118,97,114,105,97,98,108,101]| .mX _=>[112,117,116,95,118,111,105,100]| .lP _ _=>Aas| .jI _ _=>[112,117,116,95,118,97,108,117,101]| .kU _ _ _=>[112,117,116,95,99,111,110,115,116,97,110,116]| .mC _=>Aad| .fail=>[102,97,105,108]| .alloc _=>[97,108,108,111,99,97,116,101]| .jW=>[100,101,97,108,108,111,99,97,116,101]| .call _ _=>Aaa| .exec _=>[101,120,101,99,117,116,101]| .proceed=>[112,114,111,99,101,101,100]
def xF:bN->List V
 | .getVar p q=>[bY p,bY q]| .kG p q=>[bY p,bY q]| .kE k z q=>[encC k z,bY q]| .yC q=>[bY q]| .yD f q=>[.int f,bY q]| .kb p=>[bY p]| .pf p=>[bY p]| .ph p=>[bY p]| .oJ k z=>[encC k z]| .oL n=>[.int n]| .HV q=>[bY q]| .putStr f q=>[.int f,bY q]| .oD p=>[bY p]| .pV p=>[bY p]| .oC p=>[bY p]| .oB k z=>[encC k z]| .oE n=>[.int n]| .q8 p q=>[bY p,bY q]| .mX q=>[bY q]| .lP p q=>[bY p,bY q]| .jI p q=>[bY p,bY q]| .kU k z q=>[encC k z,bY q]| .mC f=>[.int f]| .fail=>[]| .alloc n=>[.int n]| .jW=>[]| .call f n=>[.int f,.int n]| .exec f=>[.int f]| .proceed=>[]
def jY(i:bN):V:=.tup<|.str (qx i)::xF i
section
variable{t:U.Tm}
def cq:eO (tY t) [118]=t.bO:=by
 rcases t with _|⟨k,z⟩;rfl
 .rcases k with _|_<;>rfl
 all_goals rfl
def dB:eO (tY t) [115]=aR t:=by
 rcases t with _|⟨k,z⟩;rfl
 .rcases k with _|_<;>rfl
 all_goals rfl
def RH(h:aR t=AB):eO (tY t) [118]=AD:=by rcases t with _|_<;>first|show(aI h).elim|show rfl
def dQ(q:Q (.str<|tY t) H):ir W (aE t) (.int 0) H Q:=by rcases t with _|_<;>show q
def tX(h:aR t=AB)(q:Q (.int (U.fnOf t:Nat)) H):ir W (aE t) (.int 1) H Q:=by rcases t with _|_<;>first|show(aI h).elim|show q
def Hv(h:aR t=AB)(q:Q (.tup<|(af t).map aE) H):ir W (aE t) (.int 2) H Q:=by rcases t with _|_<;>first|show(aI h).elim|show q
def jA{c:Nat}{J:List<|Nat×V}(B:aD H i=AA (.inst c J))(h:iS c a=AD)(g:fh J a=AA v)(q:Q v H):wI W a (.obj i) H Q:=by
 have e:atC H a (.obj i)=AA v:=by
  change ob (aD H i) AE _=_;rw[B];change Aa (motive:=λy=>Option V) (fh J a) AE (iS c a)=_;rw[h];show g
 unfold wI;rw[e];show q
section
variable(hc:aD H i=AA (.lst l))
def hY:at_ AD H (.obj i) (λy c=>n7 .append c)=AB:=by
 change ob (aD H i) AD _=AB;rw[hc];rfl
def fP(z:l.length<aM)(q:Q .none<|a7 H (.lst<|l++[v]) i):k6 W .append (.obj i) Q [v] H:=by
 change ob (aD H i) _ _;rw[hc];show⟨z,q⟩
end
def uw{l:List Nat}{k:Nat}:(cI l).contains (k:Int)=decide (k∈l):=by
 induction l with
 |nil=>rfl|cons x l J=>
  change List.contains ((x:Int)::cI l) k=_;rw[I6,J,show(k == (x:Int))=decide (k=x) from IW.mpr (by rw[lB,Eu];show Int.ofNat_inj),<-Bool.decide_or]
  show decide_eq_decide.mpr JJ.symm
def nQ{l:List Nat}{k:Nat}:xB (cI l) (k:Int)=cI (U.add l k):=by
 unfold xB U.add;rw[uw];by_cases h:k∈l
 .rw[a6 h,aC rfl,aC h]
 rw[bE h,aB aI,aB h];unfold cI;rw[bw];rfl
def mL{k:Nat}:decide ((0:Int)<(k:Int))=decide (k≠0):=decide_eq_decide.mpr ⟨λh e=>by subst e;show DZ _ h,λh=>Int.ofNat_lt.mpr<|Jh h⟩
def vM{l:Nat}:decide ((a:Int)<(l:Int))=decide (a<l):=decide_eq_decide.mpr Int.ofNat_lt
end
variable{b:BT}
section
variable{Q:K2}
def e5{J:α->V}{x:Nat}{t:α}{D:List α}(h:∀K:BT,(∀{F H},d5 x b (D.map J) F H Q->K F H Q)->b (ed F x<|J t) H (i6 K Q)):d5 x b ((t::D).map J) F H Q:=h _ id
def ki{c:ET}{k:Nat}(h:∀K:BT,(∀{F H},gG c b k F H Q->K F H Q)->c F H (yT b K F Q)):gG c b (k+1) F H Q:=h _ id
end
variable{j:Nat}
section
variable{l:List α}{x:α}
def gM{y:α}(h:aD l i=AA x):aD (app l [y]) i=AA x:=by rw[a9] at h ⊢;rw[dC,wj (List.getElem?_eq_some_iff.mp h).1];show h
def cZ:aD (app l [x]) (aK l)=AA x:=by rw[a9,dC,dJ,rW<|aV _,qH];rfl
def lQ{y:α}:a7 (app l [x]) y (aK l)=app l [y]:=by rw[dm,dC,dC,dJ,JN (h:=aV _),qH];rfl
def cf{y:α}(h:aD l i=AA x):aD (a7 l y i) i=AA y:=by rw[a9] at h ⊢;rw[dm,wm,aC rfl,aC (List.getElem?_eq_some_iff.mp h).1]
def fB{y:α}(h:aD l j=AA x)(n:i≠j):aD (a7 l y i) j=AA x:=by rw[a9] at h ⊢;rw[dm,wm,aB n];show h
end
structure Cx where
 pl:Pl
 ks:List Nat
 aJ:List (Atom×V)
 st:Nat
 ne:Bool
 es:Nat
 live:List V
 fn:V
 args:List V
 cnt:V
 goals:List V
 um:List V
 R:List bN
def kindS(Z:Pl)(k:Nat):List Nat:=if Z.void k=AB then Aal else if Z.perm k=AB then Aai else Aae
structure Inf(X:Cx)(G:AH)(k i:Nat)(fl:List (Nat×V)):Prop where
 key:aa X.aJ (.int (k:Int))=AA (.obj (i+10))
 at_:aD G i=AA (.inst 7 fl)
 kind:fh fl '1'=AA (.str (kindS X.pl k))
 slot:X.pl.perm k=AB->fh fl 6231453556=AA (.int (X.pl.slot k:Nat))
 C8:fh fl ';'=AA (.bool (X.pl.dt k))
 last:fh fl 'M'=AA (.int (X.pl.last k))
structure Cx.Ok(X:Cx)(G:AH):Prop where
 inf:∀k∈X.ks,∃i fl,Inf X G k i fl
 ex:∀k∈X.ks,X.pl.void k=AB->X.pl.perm k=AD
 kl:X.ks.length<4000
 zR:X.R.length<=aM
@[reducible] def hM(X:Cx)(G:AH)(code:List bN)(c:Cs):AH:=.inst 5 [('C',.obj 7),('8',.obj 4),('>',.obj 1),('7',.obj 2),('-',.obj 3),('p',.int c.nt)]::.lst (code.map jY)::.set (cI c.seen)::.set (cI c.loc)::
 .inst 8 [('L',.obj 5),('P',.obj 9),('E',.bool X.ne),('S',.int X.es),('B',.obj 6)]::.dict X.aJ X.st::.lst X.live::.inst 6 [('a',X.fn),('w',.tup X.args),('m',.obj 8),('f',X.cnt)]::.lst X.goals::.lst X.um::G
structure Ck(X:Cx)(c:Cs):Prop where
 sn:c.seen.Nodup
 sk:∀x∈c.seen,x∈X.ks
 ln:c.loc.Nodup
 lk:∀x∈c.loc,x∈X.ks
variable{l:List Nat}
def Jv{k:Nat}(h:l.Nodup):(U.add l k).Nodup:=by
 unfold U.add;split
 show h;rename_i n;show JL.mpr ⟨h,List.nodup_cons.mpr ⟨eL,d7⟩,λa ha b hb e=>n<|(JK.mp hb)▸e▸ha⟩
def Jw{ks:List Nat}{k:Nat}(h:∀x∈l,x∈ks)(J:k∈ks):∀x∈U.add l k,x∈ks:=by
 unfold U.add;split
 show h;show λx m=>(nA.mp m).elim (h x) λm=>(JK.mp m)▸J
structure St(X:Cx)(G:AH)(d:List bN)(c:Cs)(r:List bN):Prop where
 o:X.Ok G
 k:Ck X c
 e:d++r=X.R
variable{X:Cx}{G:AH}{d r:List bN}{c:Cs}
section
variable{k:Nat}(s:St X G d c r)
theorem Cx.Ok.zl(o:X.Ok G)(n:l.Nodup)(m:∀x∈l,x∈X.ks):(cI l).length<4000:=by unfold cI;rw[aO];show bZ (pM n m) o.kl
include s
def St.zs:(cI c.seen).length<4000:=s.o.zl s.k.sn s.k.sk
def St.zl:(cI c.loc).length<4000:=s.o.zl s.k.ln s.k.lk
def St.dA(J:k∈X.ks):St X G d (c.dA k) r:=⟨s.o,⟨Jv s.k.sn,Jw s.k.sk J,s.k.ln,s.k.lk⟩,s.e⟩
def St.lI(J:k∈X.ks):St X G d (c.lI k) r:=⟨s.o,⟨s.k.sn,s.k.sk,Jv s.k.ln,Jw s.k.lk J⟩,s.e⟩
def St.bh:St X G d c.bh r:=⟨s.o,⟨s.k.sn,s.k.sk,s.k.ln,s.k.lk⟩,s.e⟩
def St.Vh{f:Nat->Bool}:St X G d {c with loc:=c.loc.filter f} r:=⟨s.o,⟨s.k.sn,s.k.sk,Iz _ s.k.ln,λx m=>s.k.lk x (List.mem_filter.mp m).1⟩,s.e⟩
end
section
variable{a b m:List bN}
def St.a2(s:St X G d c<|a++b++r):St X G d c<|a++(b++r):=⟨s.o,s.k,bp a b r▸s.e⟩
def St.uY(s:St X G d c<|a++(b++m)++r):St X G d c<|a++(b++(m++r)):=⟨s.o,s.k,bp b m r▸bp a (b++m) r▸s.e⟩
end
section
variable{k:Nat}
def in1(h:k∈l):(cI l).contains (k:Int)=AB:=uw.trans<|a6 h
def kI(h:k∉l):(cI l).contains (k:Int)=AD:=uw.trans<|bE h
def zM(h:k∉l):(!(cI l).contains (k:Int))=AB:=aF not<|kI h
def zK(h:k∈l):(!(cI l).contains (k:Int))=AD:=aF not<|in1 h
end
section
variable(J:bG W)
include J
def sH{b:Bool}{i:Int}(q:Q (encC b i) H):Fi W (n+1) 17 [aE<|.c b i] H Q:=by
 refine J.fe XB rfl ?_;rcases b with _|_<;>show q
def tC(q:Q (bY<|tP c.nt)<|hM X G d c.bh):Fi W (n+1) 20 [.obj 0] (hM X G d c) Q:=by
 refine J.fe XE rfl ?_;show q
def b9{i:bN}(s:St X G d c<|i::r)(q:∀{d},St X G d c r->Q .none (hM X G d c)):Fi W (n+1) 19 [.obj 0,jY i] (hM X G d c) Q:=by
 have q:=q (d:=d++[i]) ⟨s.o,s.k,(bp ..).trans s.e⟩;unfold hM at q;rw[bw] at q;refine J.fe XD rfl ?_;show⟨by rw[aO];have z:=s.o.zR;rw[<-s.e,a5] at z;show b6 (ri<|Nat.zero_lt_succ _) z,q⟩
variable(s:St X G d c r)(hj:j∈X.ks)
include s hj
def pw(q:Q (.bool<|X.pl.void j)<|hM X G d c):Fi W (n+1) 21 [.obj 0,.int j] (hM X G d c) Q:=by
 obtain⟨i,fl,h⟩:=s.o.inf j hj;refine J.fe XF rfl ?_;refine ba h.key<|jA h.at_ rfl h.kind ?_;rw[<-show eO (kindS X.pl j) Aal=X.pl.void j by
  unfold kindS;rcases X.pl.void j with _|_<;>rcases X.pl.perm j with _|_<;>rfl] at q
 show q
theorem yZ:eO (kindS X.pl j) Aai=X.pl.perm j:=by
 have e:=s.o.ex j hj;unfold kindS;rcases hv:X.pl.void j with _|_
 .rcases X.pl.perm j with _|_<;>rfl
 rw[e hv];rfl
def pP(q:Q (.bool<|X.pl.perm j)<|hM X G d c):Fi W (n+1) 22 [.obj 0,.int j] (hM X G d c) Q:=by
 obtain⟨i,fl,h⟩:=s.o.inf j hj;refine J.fe XG rfl ?_;refine ba h.key<|jA h.at_ rfl h.kind ?_;rw[<-yZ J s hj] at q;show q
def eZ(q:Q (bY<|U.place X.pl j)<|hM X G d c):Fi W (n+1) 23 [.obj 0,.int j] (hM X G d c) Q:=by
 obtain⟨i,fl,h⟩:=s.o.inf j hj;refine J.fe XH rfl ?_;refine ba h.key<|jA h.at_ rfl h.kind ?_;unfold U.place at q;by_cases C:X.pl.perm j=AB
 .rw[aC C] at q;show aS ((yZ J s hj).trans C)<|jA h.at_ rfl (h.slot C) q
 rw[aB C] at q;show aN ((yZ J s hj).trans<|Bool.eq_false_iff.mpr C) q
end
variable{l:List V}
def Cx.Ok.set(o:X.Ok G){B:List V}(h:aD G i=AA (.lst l)):X.Ok<|a7 G (.lst B) i:=⟨λk m=>(o.inf k m).elim λj J=>J.elim λfl q=>⟨j,fl,q.key,fB q.at_ λe=>(by have q:=q.at_;rw[<-e,h] at q;rcases q with _|_),q.kind,q.slot,q.C8,q.last⟩,o.ex,o.kl,o.zR⟩
def Cx.Ok.app(o:X.Ok G){x:Cell}:X.Ok<|app G [x]:=⟨λk m=>(o.inf k m).elim λj J=>J.elim λfl q=>⟨j,fl,q.key,gM q.at_,q.kind,q.slot,q.C8,q.last⟩,o.ex,o.kl,o.zR⟩
section
variable{Q:K1}
section
variable(hc:aD H i=AA (.lst l))
def iI(q:Q (.int (l.length:Nat)) H):uC W .len (.obj i) H Q:=by
 change ob (ob (aD H i) AE _) _ _;rw[hc];show q
def hJ(h:aD l j=AA v)(q:Q v H):ir W (.obj i) (.int j) H Q:=by
 change ob (aD H i) _ _;rw[hc];show ba h q
end
def pO{f:α->β}{l:List α}{x:α}(h:aD l j=AA x):aD (l.map f) j=AA (f x):=by rw[a9] at h ⊢;rw[f3,h];rfl
section
variable(hc:aD H i=AA (.lst l))
def OE(h:lG l=AA v)(q:Q v H):ir W (.obj i) (.int<|-1) H Q:=by
 change ob (aD H i) _ _;rw[hc];show ba h q
def dD:It .lst (.obj i) l H:=.lst<|.cell (a9▸hc)
end
end
def gx{J:α->V}{x:Nat}{t:α}{D:List α}{Q:K2}(c:C_ H)(h:∀K:BT,(∀{F H},gj C_ x b (D.map J) F H Q->K F H Q)->b (ed F x<|J t) H (i6 K Q)):gj C_ x b ((t::D).map J) F H Q:=⟨c,h _ id⟩
def Vw{l:List Nat}:(cI l).filter (· != (j:Int))=cI (l.filter (· != j)):=by
 unfold cI;rw[List.filter_map];congr 1
 show Sz λx y=>IW.mpr (by rw[Function.comp,bne_iff_ne,bne_iff_ne];show⟨λh e=>h<|e▸rfl,λh e=>h<|d6 e⟩)
def ja:U.Pc->V
 | .tm t=>aE t| .rg p=>bY p
def uX(X:Cx):U.Pc->Prop
 | .tm t=>aR t=AD/\∀y,t.has y->y∈X.ks| .rg p=>∃n,p=tP n
def aGh{b:Bool}{z:Int}:eO (tY<|.c b z) [116]=AD:=by rcases b with _|_<;>rfl
variable{p:U.Place}{w:Wr}{x:Option V}{nv:Nat}{ps:List U.Pc}
section
variable(J:bG W){Q:K1}
include J
def aGW(B:mY X.pl j c=w)(s:St X G d c<|w.1++r)(D:j∈X.ks)(q:∀{d},St X G d w.2 r->Q .none (hM X G d w.2)):Fi W (n+2) 31 [.obj 0,.int j] (hM X G d c) Q:=by
 unfold mY vw at B;refine J.fe XQ rfl ?_;by_cases h:j∈c.seen
 .rw[aC h] at B;refine aN (zK h) ?_;by_cases T:j∈c.loc
  .rw[aC T] at B;refine aS (in1 T)<|eZ J s D ?_;by_cases C:X.pl.perm j=AB
   .rw[aC C] at B;subst B;show b9 J s λs=>pP J s D<|aN (aF not C) (q s)
   rw[aB C] at B;subst B;refine b9 J ⟨s.o,s.k,s.e⟩ λs=>pP J s D<|aS (aF not<|Bool.eq_false_iff.mpr C) ?_;have z:=q s.Vh;unfold hM at z;rw[<-Vw] at z;show z
  rw[aB T] at B;subst B;show aN (kI T)<|eZ J s D (b9 J s q)
 rw[aB h] at B;subst B;refine aS (zM h) ⟨s.zs,?_⟩;rw[nQ];show eZ J (s.dA D) D<|b9 J (s.dA D) q
def FG{a:Option V}{Q:K2}(s:St X G d c<|kD nv++r)(q:∀{d},St X G d c r->aU W (n+2) (dp 2 sY) [AA<|.obj 0,x,AA<|.int (0:Nat),a] (hM X G d c) Q):aU W (n+2) (dp 1 sY) [AA<|.obj 0,x,AA<|.int nv,a] (hM X G d c) Q:=by
 unfold kD at s;refine cC 1 ?_;by_cases h:nv=0
 .subst h;show bL<|q s
 rw[aB h] at s;show aS (mL.trans<|a6 h)<|b9 J s λs=>bL (q s)
def aD9{B:U.Pc}{Q:K2}{u:Wr}(C:iY X.pl B c=u)(v:uX X B)(s:St X G d c<|u.1++r)(q:∀{d},St X G d u.2 r->Q .aQ [AA<|.obj 0,x,AA<|.int nv,AA<|ja B] (hM X G d u.2)):aU W (n+2) (dp 2 sY) [AA<|.obj 0,x,AA<|.int nv,AA<|ja B] (hM X G d c) Q:=by
 rcases B with t|p
 .rcases t with j|⟨b',y⟩;show aGW J C s (v.2 j rfl) λs2=>q s2
  .subst C;show aN (cq (t:=.c b' y))<|aN (aGh (z:=y)) (sH J<|b9 J s λs2=>q s2)
  show nomatch v.1;show nomatch v.1
 obtain⟨m,rfl⟩:=v;subst C;show b9 J s λs2=>q s2
def aFu{Q:K2}{all:List V}(L:aD G i=AA (.lst all)):∀{ps nv w d c} {a:Option V},fC X.pl ps nv c=w->St X G d c (w.1++r)->(∀B∈ps,uX X B)->(∀{d a} {nv:Nat},St X G d w.2 (kD nv++r)->Q .aQ [AA<|.obj 0,AA<|.obj (i+10),AA<|.int nv,a] (hM X G d w.2))->
  gj (It .lst (.obj<|i+10) all) 3 (aU W (n+2) sY) (ps.map ja) [AA<|.obj 0,AA<|.obj (i+10),AA<|.int nv,a] (hM X G d c) Q:=by
 intro ps
 induction ps with
 |nil=>show λhw s v q=>by subst hw;show⟨dD L,q s⟩|cons B ps Y=>
  intro nv w d c a hw s v q;have E:=λt h=>v t<|Du _ h;have D:=v B h_;rcases hv:qb X.pl B with _|_
  .have hw:=(aB<|hv▸aI).symm.trans hw;subst hw;refine gx (dD L) λK k=>cC 1 ?_;have M:∀{d},St X G d c ((iY X.pl B c).1++((fC X.pl ps 0 (iY X.pl B c).2).1++r))->aU W (n+2) (dp 2 sY) [AA<|.obj 0,AA<|.obj (i+10),AA<|.int 0,AA<|ja B] (hM X G d c) (i6 K Q):=λC=>aD9 J rfl D C λs2=>k<|Y rfl s2 E q;rcases B with t|p
   .rcases t with j|⟨b',y⟩;show pw J s (D.2 j rfl)<|aN hv (bL<|FG J s.uY λC=>M C);show aN (cq (t:=.c b' y))<|bL (FG J s.uY λC=>M C);show nomatch D.1;show nomatch D.1
   obtain⟨m,rfl⟩:=D;show bL<|FG J s.uY λC=>M C
  have T:=(aC hv).symm.trans hw;rcases B with t|_
  .rcases t with j|_;show gx (dD L) λK k=>pw J s (D.2 j rfl) (aS hv<|k (Y T s E q))
   all_goals show(aI hv).elim
  show(aI hv).elim
def Qq(C:aD G i=AA (.lst<|ps.map ja))(T:fC X.pl ps 0 c=w)(s:St X G d c<|w.1++r)(v:∀D∈ps,uX X D)(q:∀{d},St X G d w.2 r->Q .none (hM X G d w.2)):Fi W (n+3) 30 [.obj 0,.obj<|i+10] (hM X G d c) Q:=by
 refine J.fe XP rfl ?_;refine⟨dD C,aFu J C T s v λ{d a nv} s=>?_⟩;unfold kD at s;by_cases B:nv=0
 .rw[aC B] at s;show aN (mL.trans<|bE λz=>z B)<|q s
 rw[aB B] at s;show aS (mL.trans<|a6 B)<|b9 J s λs2=>q s2
end
def Kg(G J:AH):Prop:=∀{i:Nat} {x:Cell},aD G i=AA x->aD J i=AA x
variable{x:Cell}
def Kg.new:Kg G<|app G [x]:=λh=>gM h
def zF(h:aD G i=AA x):aK G≠i:=λe=>by
 rw[a9] at h;show eU _<|b6 (List.getElem?_eq_some_iff.mp h).1 (bJ<|dJ.symm.trans e)
def lastOf:U.Tm->U.Tm
 | .s1 _ x=>x| .s2 _ _ y=>y|t=>t
structure wK(lp:U.Pc)(t:U.Tm)(b:V):Prop where
 h:(lp=.tm (lastOf t)/\b=.none/\aR (lastOf t)=AD)\/∃n,lp=.rg (tP n)/\b=bY (tP n)
variable{lp:U.Pc}{t x:U.Tm}{be:V}{x7:Option V}
section
variable(J:bG W){Q:K1}
def rO(W:Wd)(X:Cx)(n:Nat)(x:U.Tm):Prop:=∀{p w G d c r} {Q:K1},dw X.pl x p c=w->St X G d c (w.1++r)->(∀{J d},Kg G J->St X J d w.2 r->Q .none (hM X J d w.2))->Fi W n 28 [.obj 0,aE x,bY p] (hM X G d c) Q
include J
theorem Jx{k:Nat}{xs:V}(B:wK lp t be)(J:aD G i=AA (.lst l))(z:l.length<aM){Q:K2}(q:∀{x6:Option V},Q .aQ [AA<|.obj 0,AA xs,AA be,AA<|.obj (i+10),AA<|.int (k:Nat),AA<|.int ((k:Nat)+1:Int),x6,x7]<|a7 (hM X G d c) (.lst<|l++[ja lp]) (i+10)):aU W (n+1) (dp 1 Fv) [AA<|.obj 0,AA xs,AA be,AA<|.obj (i+10),AA<|.int (k:Nat),AA<|.int (k:Nat),AA<|aE (lastOf t),x7] (hM X G d c) Q:=by
 have e1:decide ((k:Int)=k)=AB:=a6 rfl;rcases B.h with ⟨rfl,rfl,hs⟩|⟨m,rfl,rfl⟩
 .refine aS e1 ?_;show dQ<|aN (dB.trans hs) (aS (hY J)<|fP J z q)
 refine aS e1 ?_;show aS (hY J)<|fP J z q
def aEA{f:Nat}(B:wK lp (.s1 f x) be)(q:Q (.obj<|aK G+10)<|hM X (app G [.lst [ja lp]]) d c):Fi W (n+2) 29 [.obj 0,.tup [aE x],be] (hM X G d c) Q:=by
 refine J.fe MI rfl ?_;refine eA (lz rfl)<|Ex.mk (v:=2) ?_;refine cC 1<|bL (Jx J B cZ (lz rfl) ?_);rw[show a7 (hM X (app G [.lst []]) d c) (.lst<|[]++[ja lp]) (aK G+10)=hM X (a7 (app G [.lst []]) (.lst<|[]++[ja lp])<|aK G) d c from rfl,lQ]
 show q
def aEB{f:Nat}{y:U.Tm}{w:List bN×U.Pc×Cs}(E:wK lp (.s2 f x y) be)(M:e8 X.pl (bS X.pl x) x c=w)(s:St X G d c<|w.1++r)(Y:aR x=AB->rO W X (n+1) x)(q:∀{B d},Kg G B->aD B (aK G)=AA (.lst [ja w.2.1,ja lp])->St X B d w.2.2 r->Q (.obj<|aK G+10) (hM X B d w.2.2)):Fi W (n+2) 29 [.obj 0,.tup [aE x,aE y],be] (hM X G d c) Q:=by
 refine J.fe MI rfl ?_;refine eA (lz rfl)<|Ex.mk (v:=3) ?_;have T:∀{B d x6 x7},Kg G B->aD B (aK G)=AA (.lst [ja w.2.1])->St X B d w.2.2 r->gG (bT W (n+1) Nh) (aU W (n+1) Fv) 2 [AA<|.obj 0,AA<|.tup [aE x,aE y],AA be,AA<|.obj (aK G+10),AA<|.int 1,AA<|.int 1,x6,x7] (hM X B d w.2.2) (mN (aU W (n+1)<|.cons (.ret<|.var 3) .nil)<|gJ Q):=λL C s=>by
  refine cC 1<|bL (Jx J E C (lz rfl) ?_);show q (λh=>fB (L h)<|zF h) (cf C) ⟨s.o.set C,s.k,s.e⟩
 rcases hx:aR x with _|_
 .have D:=(aB<|hx▸aI).symm.trans M;subst D;refine dQ<|aN (dB.trans hx) (aS (hY cZ)<|fP cZ (lz rfl) ?_);show T (λh=>fB (gM h)<|zF h) (cf cZ) ⟨s.o.app.set cZ,s.k,s.e⟩
 have D:=(aC hx).symm.trans M;subst D;refine dQ<|aS (dB.trans hx) (tC J<|Y hx rfl ⟨s.o.app,s.bh.k,s.e⟩ λL s=>?_);have C:=L cZ;refine aS (hY C)<|fP C (lz rfl) ?_;show T (λh=>fB (L<|gM h)<|zF h) (cf C) ⟨s.o.set C,s.k,s.e⟩
end
def mid(Z:Pl)(t:U.Tm)(J:U.Pc)(c:Cs):U.Pr:=match t with
 | .s2 _ x _=>((e8 Z (bS Z x) x c).1,[(e8 Z (bS Z x) x c).2.1,J],(e8 Z (bS Z x) x c).2.2)|_=>([],[J],c)
variable{Z:Pl}
def QC(J:aR t=AB):bS Z t c=((dW Z (bS Z<|lastOf t) (lastOf t) c).1++(mid Z t (dW Z (bS Z<|lastOf t) (lastOf t) c).2.1 (dW Z (bS Z<|lastOf t) (lastOf t) c).2.2).1,(mid Z t (dW Z (bS Z<|lastOf t) (lastOf t) c).2.1 (dW Z (bS Z<|lastOf t) (lastOf t) c).2.2).2):=by
 rcases t with _|_|⟨f,x⟩|⟨f,x,y⟩
 .show(aI J).elim
 .show(aI J).elim
 show iD (fJ _).symm rfl;rfl
def OS(h:aR x=AD):dW Z (bS Z x) x c=([],.tm x,c):=aB<|h▸aI
def xq(t:U.Tm):Prop:=∀u∈af t,aR u=AD
variable{cc:Cs}{T ch x8:Option V}
section
variable(J:bG W){rg:U.Place}{Q:K1}
include J
def QY{k:Nat}{Y:Option V}{Q:K2}(O:(k=0/\rg=p/\cc=c)\/(k=1/\rg=tP c.nt/\cc=c.bh))(D:aR t=AB)(L:aD G j=AA (.lst<|ps.map ja))(C:∀Z∈ps,uX X Z)(s:St X G d c<|(U.fin X.pl t rg ps cc).1++r)
  (q:∀{d},St X G d (U.fin X.pl t rg ps cc).2 r->Q .aQ [AA<|.obj 0,T,AA<|bY p,ch,AA<|bY rg,AA<|.int ((k:Int)-1),AA<|aE t,AA<|.obj (j+10),AA<|bY rg] (hM X G d (U.fin X.pl t rg ps cc).2)):aU W (n+3) (dp 2 yO) [AA<|.obj 0,T,AA<|bY p,ch,Y,AA<|.int (k:Nat),AA<|aE t,AA<|.obj (j+10),x8] (hM X G d c) Q:=by
 have E:decide (((U.fnOf t):Int)=0)=decide (U.fnOf t=0):=decide_eq_decide.mpr Sh;have M:∀{d},St X G d cc ((U.fin X.pl t rg ps cc).1++r)->aU W (n+3) (dp 3 yO) [AA<|.obj 0,T,AA<|bY p,ch,Y,AA<|.int k,AA<|aE t,AA<|.obj (j+10),AA<|bY rg] (hM X G d cc) Q:=λs=>by
  unfold U.fin vm at s;refine cC 1<|tX D ?_;by_cases B:U.fnOf t=0
  .rw[aC B] at s;show aS (E.trans<|a6 B)<|b9 J s λs=>bL (Qq J L rfl s C q)
  rw[aB B] at s;show aN (E.trans<|bE B)<|tX D (b9 J s λs=>bL<|Qq J L rfl s C q)
 rcases O with ⟨rfl,rfl,rfl⟩|⟨rfl,rfl,rfl⟩;show cC 1<|bL (M s);show cC 1<|tC J (bL<|M ⟨s.o,s.bh.k,s.e⟩)
def G4{k:Nat}{Q:K2}(C:wK lp t be)(M:aR t=AB)(R:∀f x y,t=.s2 f x y->aR x=AB->rO W X (n+2) x)(L:∀u∈af t,∀y,u.has y->y∈X.ks)(E:(k=0/\rg=p/\cc=(mid X.pl t lp c).2.2)\/(k=1/\rg=tP (mid X.pl t lp c).2.2.nt/\cc=(mid X.pl t lp c).2.2.bh))
  (s:St X G d c<|(mid X.pl t lp c).1++((U.fin X.pl t rg (mid X.pl t lp c).2.1 cc).1++r)) (q:∀{D d x7},Kg G D->St X D d (U.fin X.pl t rg (mid X.pl t lp c).2.1 cc).2 r->Q .aQ [AA<|.obj 0,T,AA<|bY p,ch,AA<|bY rg,AA<|.int ((k:Int)-1),AA<|aE t,x7,AA<|bY rg] (hM X D d (U.fin X.pl t rg (mid X.pl t lp c).2.1 cc).2)):aU W (n+3) (dp 1 yO) [AA<|.obj 0,T,AA<|bY p,ch,AA be,AA<|.int (k:Nat),AA<|aE t,x7,x8] (hM X G d c) Q:=by
 have B:∀x∈af t,x=lastOf t->uX X lp:=λx m e=>C.h.elim (λh=>h.1▸⟨h.2.2,e▸L x m⟩) λ⟨n,h,_⟩=>h▸⟨n,rfl⟩;rcases t with _|_|⟨f,x⟩|⟨f,x,y⟩;show nomatch M;show nomatch M;show cC 1<|aEA J C (bL<|QY J E rfl cZ (λY m=>(JK.mp m).symm▸B x h_ rfl) ⟨s.o.app,s.k,s.e⟩ λs=>q Kg.new s);refine cC 1 (aEB J C rfl s (λh=>R f x y rfl h) λZ O s=>bL<|QY J (ps:=[(e8 X.pl (bS X.pl x) x c).2.1,lp]) E rfl O (λY m=>(JJ.mp m).elim (λe=>e▸?_) λm=>(JK.mp m).symm▸B y (.tail _ h_) rfl) s λs=>q Z s);rcases hx:aR x with _|_
 .rw[show(e8 X.pl (bS X.pl x) x c).2.1=.tm x by unfold e8;rw[aB<|hx▸aI]];show⟨hx,L x h_⟩
 rw[show(e8 X.pl (bS X.pl x) x c).2.1=.rg (tP c.nt) by unfold e8;rw[aC hx]];show⟨_,rfl⟩
end
variable{x0 x1 x2 x4 x5 x6:Option V}
section
variable(J:bG W){rg:U.Place}{Q:K1}
theorem Ep(C:aD H i=AA (.lst l))(B:lG l=AA (aE t))(J:aR t=AB)(q:Q (.bool<|eO (tY<|lastOf t) [115]) H):bT W n Ng [x0,x1,x2,AA<|.obj i,x4,x5,x6,x7,x8] H Q:=by
 refine OE C B ?_;rcases t with _|_|⟨f,x⟩|⟨f,x,y⟩
 .show(aI J).elim
 .show(aI J).elim
 show dQ q;show dQ q
theorem Uw{Q:K2}(J:aD H i=AA (.lst l))(C:lG l=AA (aE t))(B:aR t=AB)(z:l.length<aM)(q:Q .aQ [x0,x1,x2,AA<|.obj i,x4,x5,x6,x7,x8]<|a7 H (.lst<|l++[aE<|lastOf t]) i):aU W n NB [x0,x1,x2,AA<|.obj i,x4,x5,x6,x7,x8] H Q:=by
 refine aS (hY J)<|OE J C ?_;rcases t with _|_|⟨f,x⟩|⟨f,x,y⟩
 .show(aI B).elim
 .show(aI B).elim
 show fP J z q;show fP J z q
include J
def Km(B:aR t=AB)(L:∀u∈af t,∀y,u.has y->y∈X.ks)(M:∀f x y,t=.s2 f x y->aR x=AB->rO W X (n+2) x)(Z:aR (lastOf t)=AB->xq (lastOf t)/\∀u∈af (lastOf t),∀y,u.has y->y∈X.ks):rO W X (n+4) t:=by
 intro p w G d c r Q hw s q;subst hw;refine J.fe XO rfl ?_;unfold dw at s q;rw[QC B] at s q;rcases hy:aR (lastOf t) with _|_
 .rw[OS hy] at s q;refine eA (lz rfl)<|Ex.mk (v:=1) (Ep cZ rfl B<|aN (dB.trans hy) ?_);refine iI cZ<|Ex.mk (v:=2) (hJ cZ rfl ?_);have s2:=s.a2;show G4 J ⟨.inl ⟨rfl,rfl,hy⟩⟩ B M L (.inl ⟨rfl,rfl,rfl⟩) ⟨s2.o.app,s2.k,s2.e⟩ λC s=>q (λh=>C<|gM h) s
 obtain⟨fl,Y⟩:=Z hy;generalize E:lastOf t=y at*;have T:aR (lastOf y)=AD:=by
  rcases y with _|_|⟨f,x⟩|⟨f,x,z⟩
  .show(aI hy).elim
  .show(aI hy).elim
  show fl x h_;show fl z<|.tail _ h_
 have e:dW X.pl (bS X.pl y) y c=((mid X.pl y (.tm<|lastOf y) c).1++(U.fin X.pl y (tP (mid X.pl y (.tm<|lastOf y) c).2.2.nt) (mid X.pl y (.tm<|lastOf y) c).2.1 (mid X.pl y (.tm<|lastOf y) c).2.2.bh).1,.rg<|tP (mid X.pl y (.tm<|lastOf y) c).2.2.nt,(U.fin X.pl y (tP (mid X.pl y (.tm<|lastOf y) c).2.2.nt) (mid X.pl y (.tm<|lastOf y) c).2.1 (mid X.pl y (.tm<|lastOf y) c).2.2.bh).2):=by
  unfold dW;rw[aC hy,QC hy,OS T];rfl
 rw[e] at s q;have s2:St X G d c<|(mid X.pl y (.tm<|lastOf y) c).1++((U.fin X.pl y (tP (mid X.pl y (.tm<|lastOf y) c).2.2.nt) (mid X.pl y (.tm<|lastOf y) c).2.1 (mid X.pl y (.tm<|lastOf y) c).2.2.bh).1++((mid X.pl t (.rg<|tP (mid X.pl y (.tm<|lastOf y) c).2.2.nt) (U.fin X.pl y (tP (mid X.pl y (.tm<|lastOf y) c).2.2.nt) (mid X.pl y (.tm<|lastOf y) c).2.1 (mid X.pl y (.tm<|lastOf y) c).2.2.bh).2).1++((U.fin X.pl t p (mid X.pl t (.rg<|tP (mid X.pl y (.tm<|lastOf y) c).2.2.nt) (U.fin X.pl y (tP (mid X.pl y (.tm<|lastOf y) c).2.2.nt) (mid X.pl y (.tm<|lastOf y) c).2.1 (mid X.pl y (.tm<|lastOf y) c).2.2.bh).2).2.1 (mid X.pl t (.rg<|tP (mid X.pl y (.tm<|lastOf y) c).2.2.nt) (U.fin X.pl y (tP (mid X.pl y (.tm<|lastOf y) c).2.2.nt) (mid X.pl y (.tm<|lastOf y) c).2.1 (mid X.pl y (.tm<|lastOf y) c).2.2.bh).2).2.2).1++r))):=⟨s.o,s.k,by rw[<-s.e,bp,bp,bp]⟩
 refine eA (lz rfl)<|Ex.mk (v:=2) (Ep cZ rfl B<|aS (E▸dB.trans hy) (Uw (H:=hM X (app G [.lst [aE t]]) d c) (i:=aK G+10) cZ rfl B (lz rfl) ?_));rw[E,show a7 (hM X (app G [.lst [aE t]]) d c) (.lst<|[aE t]++[aE y]) (aK G+10)=hM X (a7 (app G [.lst [aE t]]) (.lst [aE t,aE y])<|aK G) d c from rfl,lQ]
 refine Ep cZ rfl hy<|aN (dB.trans T) ?_;refine iI cZ<|Ex.mk (v:=3) (hJ cZ rfl ?_);refine G4 J ⟨.inl ⟨rfl,rfl,T⟩⟩ hy (λf x z e h=>absurd (h.symm.trans<|fl x (e▸.head _)) ⋯) Y (.inr ⟨rfl,rfl,rfl⟩) ⟨s2.o.app,s2.k,s2.e⟩ λC s=>?_
 refine hJ (C cZ) rfl ?_;show G4 J ⟨.inr ⟨_,rfl,rfl⟩⟩ B M L (.inl ⟨rfl,rfl,rfl⟩) s λD s=>q (λh=>D<|C (gM h)) s
end
def T2(t:U.Tm):Prop:=∀u∈af t,aR u=AB->xq u
def GX(J:aR t=AB):lastOf t∈af t:=by
 rcases t with _|_|⟨f,x⟩|⟨f,x,y⟩
 .show(aI J).elim
 .show(aI J).elim
 show .head _;show .tail _ h_
def a8:Gl->V
 | .call f as=>.tup [.str Aaa,.int f,.tup<|as.map aE]| .bi f as=>.tup [.str Aad,.int f,.tup<|as.map aE]| .fE l r=>.tup [.str [117,110,105,102,121],aE l,aE r]
variable{Q:K1}
section
variable(J:bG W){g:Int}
include J
def Ut(B:aR t=AB)(C:∀u∈af t,∀y,u.has y->y∈X.ks)(h:xq t):rO W X (n+4) t:=
 Km J B C (λf x y e q=>absurd (q.symm.trans<|h x (e▸.head _)) ⋯) λq=>absurd (q.symm.trans<|h _ (GX B)) ⋯
def xJ(B:aR t=AB)(T:∀y,t.has y->y∈X.ks)(h:T2 t):rO W X (n+6) t:=by
 have D:∀u∈af t,∀y,u.has y->y∈X.ks:=λu m y q=>T y<|iG m q;have C:∀u∈af t,∀x∈af u,∀y,x.has y->y∈X.ks:=λu m x L y q=>D u m y<|iG L q;intro p w G d c r Q hw s q;show Km J B D (λf x y e q=>have m:x∈af t:=by rw[e];show .head _
  Ut J q (C x m) (h x m q)) (λq=>⟨h _ (GX B) q,C _<|GX B⟩) hw s q
def aCB(B:pE X.pl j p g c=w)(s:St X G d c<|w.1++r)(D:j∈X.ks)(q:∀{d},St X G d w.2 r->Q .none (hM X G d w.2)):Fi W (n+2) 42 [.obj 0,.int j,bY p,.int g] (hM X G d c) Q:=by
 obtain⟨i,fl,f⟩:=s.o.inf j D;unfold pE at B;have kp:=yZ J s D;have T:eO (kindS X.pl j) Aal=X.pl.void j:=by
  unfold kindS;rcases X.pl.void j with _|_<;>rcases X.pl.perm j with _|_<;>rfl
 refine J.fe Xc rfl ?_;refine ba f.key<|jA f.at_ rfl f.kind ?_;by_cases hv:X.pl.void j=AB
 .rw[aC hv] at B;subst B;show aS (T.trans hv)<|b9 J s q
 rw[aB hv] at B;refine aN (T.trans<|Bool.eq_false_iff.mpr hv) ?_;by_cases h:j∈c.seen
 .rw[aC h] at B;refine aN (zK h)<|jA f.at_ rfl f.C8 ?_;unfold U.un at B;rcases hu:X.pl.dt j with _|_
  .rw[hu,t8,aB aI] at B;subst B;show eZ J s D<|b9 J s q
  rw[hu,IY] at B;by_cases hg:0<=g
  .refine aS (a6 hg)<|jA f.at_ rfl f.last ?_;by_cases hl:X.pl.last j=g
   .rw[a6 ⟨hg,hl⟩,aC rfl] at B;subst B;show aS (a6 hl)<|eZ J s D (b9 J s q)
   rw[bE λz=>hl z.2,aB aI] at B;subst B;show aN (bE hl)<|eZ J s D (b9 J s q)
  rw[bE λz=>hg z.1,aB aI] at B;subst B;show aN (bE hg)<|eZ J s D (b9 J s q)
 rw[aB h] at B;refine aS (zM h) ⟨s.zs,?_⟩;rw[nQ];refine jA f.at_ rfl f.kind ?_;by_cases C:X.pl.perm j=AB
 .rw[aC C] at B;subst B;refine aS (kp.trans C) ⟨(s.dA D).zl,?_⟩;rw[nQ];show eZ J ((s.dA D).lI D) D<|b9 J ((s.dA D).lI D) q
 rw[aB C] at B;subst B;show aN (kp.trans<|Bool.eq_false_iff.mpr C)<|eZ J (s.dA D) D (b9 J (s.dA D) q)
end
section
variable{k:Int}
section
variable(hc:aD H a=AA (.dict aJ st))
def OD(q:Q (.bool (aa aJ<|.int k).isSome) H):iO W .In (.int k) (.obj a) H Q:=by
 change ob (ob (aD H a) AE _) _ _;rw[hc];show q
def OI(q:Q (.bool<|!(aa aJ<|.int k).isSome) H):iO W .NotIn (.int k) (.obj a) H Q:=by
 change ob (ob (ob (aD H a) AE _) AE _) _ _;rw[hc];show q
def yc(h:aa aJ (.int k)=AA v)(q:Q v H):ir W (.obj a) (.int k) H Q:=by
 change ob (aD H a) _ _;rw[hc];show ba h q
def vL{Q:K2}(z:aJ.length<=aM)(q:Q .aQ F<|a7 H (.dict (cB aJ (.int k) v)<|st+1) a):oZ W (.obj a) (.int k) v F H Q:=by
 change ob (aD H a) _ _;rw[hc];show⟨z,q⟩
end
section
variable(hc:aD H a=AA (.lst l))
def GW{P:Bool->Prop}(q:P<|!gV l):k8 (.obj a) H P:=by
 change ob (aD H a) _ _;rw[hc];show q
def aBa(h:lG l=AA v)(q:Q v<|a7 H (.lst l.dropLast) a):k6 W .pop (.obj a) Q [] H:=by
 change ob (aD H a) _ _;rw[hc];show ba h q
end
def OJ{l:List Int}(J:aD H a=AA (.lst<|l.map V.int))(q:Q (.bool (!l.any (· == k))) H):iO W .NotIn (.int k) (.obj a) H Q:=by
 change ob (ob (ob (aD H a) AE _) AE _) _ _;rw[J];show⟨qJ.ints<|.cell (a9▸J),q⟩
end
section
variable{l:List α}{x y z:α}
def mZ(h:aD l i=AA x):a7 l x i=l:=by
 rw[a9] at h;rw[dm];apply I9
 intro j;rw[wm];split
 .rename_i e;subst e;rw[aC (List.getElem?_eq_some_iff.mp h).1,h]
 rfl
def iK:a7 (a7 l x i) y i=a7 l y i:=by rw[dm,dm,dm,List.set_set]
end
def d9(b:Bd):List<|Atom×V:=b.map λp=>(.int p.1,aE p.2)
variable{b:Bd}
def Vt:aa (d9 b) (.int (n:Int))=(b.at n).map aE:=by
 unfold d9 aa Bd.at
 induction b with
 |nil=>rfl|cons p b J=>
  rw[da,wh,wh];by_cases e:p.1=n
  .rw[a6 (aF (λk:Nat=>Atom.int k) e:Atom.int p.1=Atom.int n),a6 e];rfl
  rw[bE (λq=>e (d6<|Atom.int.inj q):¬Atom.int p.1=Atom.int n),bE e];show J
variable{u:U.Tm}{S:Sb}{d:Nat}
section
variable(J:bG W)(hb:aD H a=AA (.dict (d9 b) st))
theorem bk{k:Nat}{o:Option U.Tm}(h:b.at k=o):aa (d9 b) (.int (k:Int))=o.map aE:=Vt.trans<|aF _ h
include hb
set_option tactic.hygienic true in
theorem aID{Q:K2}(C:U.Walk b t u)(q:Q .aQ [AA<|.obj a,AA<|aE u] H):Ex λk=>gG (bT W n Nn) (aU W n NU) k [AA<|.obj a,AA<|aE t] H Q:=by
 induction C with
 |@stop t h=>
  refine Ex.mk (v:=1)<|dQ ?_;rcases hv:t.bO with _|_;show aN (cq.trans hv) q;rcases t with k|_;show OD hb<|aN (by rw[bk<|h k rfl];rfl) q
  .rcases hv with _|_
  .rcases hv with _|_
  cases hv
 |@step k t u h _ B=>
  obtain⟨e⟩:=B q;rename_i m;show Ex.mk<|ki λK J=>OD hb (aS (by rw[bk h];rfl)<|yc hb (bk h) (J e))
include J
def js(B:U.Walk b t u)(q:Q (aE u) H):Fi W (n+1) 68 [.obj a,aE t] H Q:=by
 refine J.fe Xu rfl ?_;show aID hb B q
def R4(M:ay b S):∀{t:U.Tm} {Q:K1},(t.app S).dep<=d->Q (aE<|t.app S) H->Fi W (d+2) 69 [.obj a,aE t] H Q:=by
 induction d with
 |zero=>
  intro t Q hd q;obtain⟨u,hw⟩:=M.walks t;rw[hw.sat M.sol] at hd q;refine J.fe MK rfl<|js J hb hw ?_;rcases u with n|⟨k,z⟩
  .rw[show U.Tm.app S (.v n)=.v n from M.id n<|hw.free n rfl] at q
   show q
  show aN (dB (t:=.c k z)) q;show absurd hd<|jy _;show absurd hd<|jy _
 |succ d B=>
  intro t Q hd q;obtain⟨u,hw⟩:=M.walks t;rw[hw.sat M.sol] at hd q;refine J.fe MK rfl<|js J hb hw ?_;rcases u with n|⟨k,z⟩|⟨f,x⟩|⟨f,x,y⟩
  .rw[show U.Tm.app S (.v n)=.v n from M.id n<|hw.free n rfl] at q
   show q
  show aN (dB (t:=.c k z)) q
  .show⟨lz rfl,B (gN hd) ⟨.val,q⟩⟩
  have hd:=hd;have hd:=gN hd;show⟨lz rfl,B (aA (ly _ _) hd)<|B (aA (l4 _ _) hd) ⟨.val,q⟩⟩
end
def ah(ns:List Nat):List V:=(cI ns).map V.int
def LW{ns:List Nat}{k:Nat}:((cI ns).any (· == (k:Int)))=decide (k∈ns):=by rw[<-uw,Sn];congr 1;funext x;show IW.mpr (by rw[lB,lB];show eq_comm)
theorem su:∀{t:U.Tm} {tb:List Nat},tb.length<=(cD tb t).2.length
 | .v n,tb=>by
  rw[lH];split
  show aV _;rw[a5];show aY _ _
 | .c _ _,_=>aV _| .s1 _ x,tb=>su (t:=x)| .s2 _ x y,tb=>aA (su)<|su
theorem yp:∀{D:List U.Tm} {tb:List Nat},tb.length<=(eX tb D).2.length
 | []=>aV _|_::_=>aA su yp
variable{K:Type}
section
variable{X:Type}[DecidableEq K]{l:List (K×X)}{k j:K}{v w:X}
def jj:aa ((k,v)::l) k=AA v:=by unfold aa;rw[wh,a6 rfl];rfl
def iH(h:j≠k):aa ((j,v)::l) k=aa l k:=by unfold aa;rw[wh,bE h]
def sr(h:aa l k=AE):cB l k v=l++[(k,v)]:=by
 refine aB λq=>?_;obtain⟨p,C,e⟩:=List.any_eq_true.mp q;show absurd e<|List.find?_eq_none.mp (Option.map_eq_none_iff.mp h) p C
end
def de(J:α->K):Nat->List α->List (K×V)
 |_,[]=>[]|i,n::r=>(J n,.int i)::de J (i+1) r
section
variable[DecidableEq α][DecidableEq K]{key:α->K}{n:α}{tb:List α}(inj:∀a b,key a=key b->a=b)
theorem qU:∀{tb:List α} {i:Nat},(de key i tb).length=tb.length
 | []=>rfl|_::_=>aF (·+1) qU
theorem LU:∀{tb:List α} {i:Nat},de key i (tb++[n])=de key i tb++[(key n,.int ((i+tb.length:Nat):Int))]
 | [],_=>rfl|m::tb,i=>by change _::de key (i+1) (tb++[n])=_::(de key (i+1) tb++_);rw[LU,fK,uT]
include inj
theorem uu:∀{tb:List α} {i:Nat},n∉tb->aa (de key i tb) (key n)=AE
 | [],_=>λy=>rfl|m::tb,i=>λh=>(iH λe=>h (by rw[inj _ _ e];show .head _)).trans<|uu λq=>h (.tail _ q)
theorem sM:∀{tb:List α} {i:Nat},n∈tb->aa (de key i tb) (key n)=AA (.int ((i+tb.idxOf n:Nat):Int))
 |m::tb,i,h=>by
  by_cases e:m=n
  .subst e;rw[Dq];show jj
  rw[Dp,beq_eq_false_iff_ne.mpr e,cond_false];show(iH λq=>e<|inj _ _ q).trans<|(sM<|(JJ.mp h).resolve_left (ku e)).trans (by rw[uT])
def E0(h:n∉tb):cB (de key 0 tb) (key n) (.int (tb.length:Int))=de key 0 (tb++[n]):=by rw[sr<|uu inj h,LU,cT]
end
def ji(n:Nat):Atom:=.int n
def nY(a b:Nat)(h:ji a=ji b):a=b:=d6<|Atom.int.inj h
variable{tb:List Nat}
def Mh(h:n∉tb):(tb++[n]).idxOf n=tb.length:=by rw[JG,aB h,Dq,cT]
variable{D:List U.Tm}
section
variable(J:bG W)
theorem aBU(J:aD H a=AA (.dict aJ st))(z:aJ.length<=aM)(q:Q (.int (aJ.length:Nat)) H):uC W .len (.obj a) H Q:=by
 change ob (ob (aD H a) AE _) _ _;rw[J];show gY (rq.dict (a9▸J) z) q
include J
def O1:∀{t:U.Tm} {H:AH} {tb:List Nat} {Q:K1},t.dep<=d->aD H a=AA (.lst<|ah tb)->(cD tb t).2.length<aM->Q (.obj a) (a7 H (.lst<|ah (cD tb t).2) a)->Fi W (d+1) 67 [aE t,.obj a] H Q:=by
 have B:∀{d t H tb} {Q:K1},aR t=AD->aD H a=AA (.lst<|ah tb)->(cD tb t).2.length<aM->Q (.obj a) (a7 H (.lst<|ah (cD tb t).2) a)->Fi W (d+1) 67 [aE t,.obj a] H Q:=λ{d t H tb Q} hs h z q=>by
  refine J.fe FQ rfl ?_;rcases t with k|⟨b,y⟩
  .refine OJ h ?_;rw[lH] at q z;by_cases m:k∈tb
   .rw[aC m,mZ h] at q;show aN (by rw[LW,a6 m];rfl) q
   rw[aB m] at q z;refine aS (by rw[LW,bE m];rfl)<|aS (hY h) (fP h ?_ ?_)
   .rw[ah,cI,aO,aO];rw[a5] at z;show D2 z
   rw[show ah (tb++[k])=ah tb++[.int k] by unfold ah cI;rw[bw,bw];rfl] at q
   show q
  show aN (cq (t:=.c b y))<|aN (dB (t:=.c b y)) (mZ h▸q)
  .rcases hs with _|_
  rcases hs with _|_
 induction d with
 |zero=>
  intro t H tb Q hd h z q;show B (by rcases t with _|_<;>first|rfl|show absurd hd<|jy _) h z q
 |succ d C=>
  intro t H tb Q hd h z q;rcases t with _|_|⟨f,x⟩|⟨f,x,y⟩;show B rfl h z q;show B rfl h z q
  .refine J.fe FQ rfl ?_;show C (gN hd) h z q
  have hd:=hd;have hd:=gN hd;refine J.fe FQ rfl ?_;show C (aA (ly _ _) hd) h (bZ su z)<|C (aA (l4 _ _) hd) (cf h) z (iK.symm▸q)
def OQ:∀{t:U.Tm} {H:AH} {tb:List Nat} {st:Nat} {Q:K1},t.dep<=d->aD H a=AA (.dict (de ji 0 tb) st)->(cD tb t).2.length<=aM->(∀{st'},Q (aE (cD tb t).1)<|a7 H (.dict (de ji 0 (cD tb t).2) st') a)->Fi W (d+1) 65 [aE t,.obj a] H Q:=by
 have B:∀{d t H tb st} {Q:K1},aR t=AD->aD H a=AA (.dict (de ji 0 tb) st)->(cD tb t).2.length<=aM->(∀{st'},Q (aE (cD tb t).1)<|a7 H (.dict (de ji 0 (cD tb t).2) st') a)->Fi W (d+1) 65 [aE t,.obj a] H Q:=λ{d t H tb st Q} hs h z q=>by
  refine J.fe FP rfl ?_;rcases t with k|⟨b,y⟩
  .refine OI h ?_;rw[lH] at q z;by_cases m:k∈tb
   .rw[aC m] at q;have q:=q (st':=st);rw[mZ h] at q;show aN (by rw[show Atom.int k=ji k from rfl,sM nY m];rfl)<|yc h (sM nY m) (by rw[cT];show q)
   rw[aB m] at q z;have D:(de ji 0 tb).length<=aM:=by rw[qU];show aA (aY _ _)<|a5▸z
   refine aS (by rw[show Atom.int k=ji k from rfl,uu nY m];rfl)<|aBU h D (vL h D ?_)
   rw[qU,show Atom.int k=ji k from rfl,E0 nY m]
   refine yc (cf h) (sM nY<|gn _ h_) ?_;rw[cT,Mh m];show q
  show aN (cq (t:=.c b y))<|aN (dB (t:=.c b y)) (mZ h▸q)
  .rcases hs with _|_
  rcases hs with _|_
 induction d with
 |zero=>
  intro t H tb st Q hd h z q;show B (by rcases t with _|_<;>first|rfl|show absurd hd<|jy _) h z q
 |succ d C=>
  intro t H tb st Q hd h z q;rcases t with _|_|⟨f,x⟩|⟨f,x,y⟩;show B rfl h z q;show B rfl h z q
  .refine J.fe FP rfl ⟨lz rfl,?_⟩;show C (gN hd) h z ⟨.val,q⟩
  have hd:=hd;have hd:=gN hd;refine J.fe FP rfl ⟨lz rfl,?_⟩;show C (aA (ly _ _) hd) h (aA su z)<|C (aA (l4 _ _) hd) (cf h) z ⟨.val,iK.symm▸q⟩
def aB4{x:Option V}:∀{D:List U.Tm} {H:AH} {tb:List Nat} {st:Nat} {y:Option V} {Q:il},(∀t∈D,t.dep<=d)->aD H a=AA (.dict (de ji 0 tb) st)->(eX tb D).2.length<=aM->(∀{c},Q ((eX tb D).1.map aE)<|a7 H c a)->rQ (bT W (d+1) Nq) 2 [x,AA<|.obj a,y] (D.map aE) H Q:=by
 intro D
 induction D with
 |nil=>
  intro H tb st y Q hd h z q;rw[<-mZ h];show q
 |cons t D B=>show λhd h z q=>OQ J (hd t h_) h (aA yp z)<|B (λt m=>hd t<|.tail _ m) (cf h) z (iK.symm▸q)
def Gb(T:∀t∈D,t.dep<=d)(C:D.length<=aM)(B:(cM D).length<=aM)(q:∀{c},Q (.lst<|(kJ D).map aE)<|app H [c]):Fi W (d+2) 66 [.lst<|D.map aE] H Q:=by
 refine J.fe Xt rfl ?_;refine mO ⟨by rw[aO];show C,?_⟩
 refine aB4 J T cZ B ⟨.val,?_⟩;rw[lQ];show q
end
variable{w:Nat}
section
variable{x:V}{r:List V}
def vK(J:aD H w=AA (.lst l.reverse))(q:Q (.bool<|!gV l) H):w6 W (.obj w) H Q:=by
 change ob (ob (aD H w) AE _) _ _;rw[J];change Q (.bool<|!gV l.reverse) H;rw[tD,List.isEmpty_reverse,<-tD];show q
def zw(J:aD H w=AA (.lst l)):at_ AD H (.obj w) (λy c=>n7 .pop c)=AB:=by
 change ob (aD H w) AD _=AB;rw[J];rfl
def ye(J:aD H w=AA (.lst (x::l).reverse))(q:Q x<|a7 H (.lst l.reverse) w):k6 W .pop (.obj w) Q [] H:=aBa J (by rw[yj,jw,List.getLast?_append];rfl) (by rw[jw,List.dropLast_concat];show q)
def GP(J:aD H w=AA (.lst l))(z:l.length+r.length<=aM)(q:Q (.obj w)<|a7 H (.lst<|l++r) w):t7 .Add (.obj w) H (.lst r) Q:=by
 change ob (aD H w) _ _;rw[J];show⟨z,q⟩
variable{k:Nat}
section
variable(q:Q (.bool (decide (u=.v k))) H)
def aBN:iO W .Eq (aE u) (.tup [.str [118],.int k]) H Q:=by
 have e:∀{s i t},aE u=.tup (.str s::.int i::t)->decide (u=.v k)=nT s [118] i k t []->iO W .Eq (aE u) (.tup [.str [118],.int k]) H Q:=λe1 e2=>by
  rw[e2] at q;rw[e1];show n9 (oX.flat<|.inr rfl) q
 rcases u with m|⟨d,z⟩|⟨f,x⟩|⟨f,x,y⟩;show e rfl (by unfold nT;simp [Int.natCast_inj])
 show e rfl (by rw[bE<|λq=>U.Tm.noConfusion q];rcases d with _|_<;>rfl)
 show e rfl (by rw[bE<|λq=>U.Tm.noConfusion q];rfl)
 show e rfl (by rw[bE<|λq=>U.Tm.noConfusion q];rfl)
def aBO:iO W .Eq (.tup [.str [118],.int k]) (aE u) H Q:=by
 have e:∀{s i t},aE u=.tup (.str s::.int i::t)->decide (u=.v k)=nT [118] s k i [] t->iO W .Eq (.tup [.str [118],.int k]) (aE u) H Q:=λe1 e2=>by
  rw[e2] at q;rw[e1];show n9 (oX.flat<|.inl rfl) q
 rcases u with m|⟨d,z⟩|⟨f,x⟩|⟨f,x,y⟩;show e rfl (by unfold nT;simp [Int.natCast_inj,eq_comm])
 show e rfl (by rw[bE<|λq=>U.Tm.noConfusion q];rcases d with _|_<;>rfl)
 show e rfl (by rw[bE<|λq=>U.Tm.noConfusion q];rfl)
 show e rfl (by rw[bE<|λq=>U.Tm.noConfusion q];rfl)
end
def OH{c c':Bool}{z J:Int}(q:Q (.bool<|!decide (c=c'/\z=J)) H):iO W .NotEq (aE<|.c c z) (aE<|.c c' J) H Q:=by
 refine n9 (k5.flat<|.inl rfl) ?_;rw[show nT (if c=AB then[97] else[105]) (if c'=AB then[97] else[105]) z J [] []=decide (c=c'/\z=J) by
  unfold nT;by_cases e:z=J
  .subst e;rw[a6 rfl];rcases c with _|_<;>rcases c' with _|_<;>simp
  rw[bE e,t8,IV,t8];show(bE λq=>e q.2).symm]
 show q
end
def Tl(J:Nat):Nat->List Nat->Prop
 |m,[]=>m<=J+1|m,u::l=>u<=m/\Tl J (m+1) l
def Sk(J:Nat):List Nat->Prop
 | []=>True|t::l=>∃m,t<=m/\Tl J m l
variable{D_:Nat}
theorem Tl.len:∀{l:List Nat} {m:Nat},Tl D_ m l->m+l.length<=D_+1
 | [],_=>λh=>h|_::l,m=>λh=>by have:=Tl.len h.2;rw[fK,<-uT];show this
theorem Sk.len:∀{l:List Nat},Sk D_ l->l.length<=D_+2
 | [],_=>bK _|t::l,⟨m,_,h⟩=>bj<|aA (bU _ _) (Tl.len h)
variable{x y:Nat}
section
variable{t:Nat}{l:List Nat}
def Sk.start(J:Nat):Sk J [J]:=⟨J,aV _,b8 _⟩
section
variable(h:Sk D_ (t::l))
def Sk.pop:Sk D_ l:=match l,h with
 | [],_=>trivial|_::_,⟨m,_,h⟩=>⟨m+1,eM h.1,h.2⟩
def Sk.one(e:x<=t):Sk D_<|x::l:=h.elim λm J=>J.elim λa b=>⟨m,aA e a,b⟩
def Sk.two(J:x<t)(B:y<t):Sk D_<|y::x::l:=by
 obtain⟨m,a,b⟩:=h;rcases m with _|m;show absurd (b6 J a)<|uS _;show⟨m,kr<|b6 B a,kr<|b6 J a,b⟩
end
end
abbrev Qz(t:U.Tm):Prop:=aZ 150000 t
def Og(h:BQ Qz b):BQ (U.Lt (Av 150001) 100) b:=λp C=>⟨⟨λn q=>List.mem_range.mpr<|ip ((h p C).1.lo n q),(h p C).1.dp⟩,⟨λn q=>List.mem_range.mpr<|ip ((h p C).2.lo n q),(h p C).2.dp⟩⟩
section
variable(M:ay b S)(h:BQ Qz b)
include M h
def HW:b.length<=150001:=by
 have:=pM M.nd λx hx=>by
  obtain⟨p,C,rfl⟩:=List.mem_map.mp hx;show(Og h p C).1.1 p.1 rfl
 rw[aO,kq] at this;show this
def QL(B:Qz t):(t.app S).dep+2<=aM:=by
 have J:=Gf M (Og h) t;rw[kq] at J;show aA (bX J 2)<|aA (bX (bX B.dp _) 2) (lz rfl)
end
def or3:∀a b c:Bool,((a||b)||c)=(b||(a||c)):=by decide
def RD{s f:Nat}(h:a+s<=f+1)(p:1<=a):s<=f:=gN<|aA (Nat.succ_le_of_lt<|Ta p) h
def RF{s f:Nat}(h:x+1+s<=f+1):x+s<=f:=gN<|w5 x s▸h
def sz3{s f:Nat}(h:x+y+1+s<=f+1):y+(x+s)<=f:=by rw[<-bH,bQ y x];show RF h
def RG(S:Sb)(l:List U.Tm):Nat:=(l.map λt=>(t.app S).aX).sum
def xg(S:Sb)(l:List U.Tm):List Nat:=l.map λt=>(t.app S).dep
def uZ(S:Sb)(k:Nat)(l:List U.Tm):Bool:=l.any λt=>(t.app S).hasB k
section
variable(J:bG W){k:Nat}(M:ay b S)(hb:aD H a=AA (.dict (d9 b) st))(hk:b.at k=AE)(hD:D_+2<=aM)
include J M hb hk hD
theorem aIK{Q:K2}:∀{f:Nat} {todo:List U.Tm} {x y:Option V},RG S todo<=f->Sk D_ (xg S todo)->(uZ S k todo=AB->∀{F c},Q (.ret<|.bool AB) F<|app H [c])->(uZ S k todo=AD->∀{F c},Q .aQ F<|app H [c])->
  gG (bT W (n+1) Np) (aU W (n+1) NV) (f+1) [AA<|.obj a,AA<|.int k,x,AA<|.obj (aK H),y] (app H [.lst (todo.map aE).reverse]) Q:=by
 intro f
 induction f with
 |zero=>
  intro todo x y z d C B;rcases todo with _|⟨t,l⟩;show vK cZ<|B rfl;show absurd (aA (aA (U.Tm.kZ<|t.app S)<|aY _ _) z)<|jy 0
 |succ f L=>
  intro todo x y z d C B;rcases todo with _|⟨t,l⟩;show vK cZ<|B rfl;obtain⟨u,hw⟩:=M.walks t;have E:=hw.sat M.sol;have z:(t.app S).aX+RG S l<=f+1:=z;have d:Sk D_<|(t.app S).dep::xg S l:=d;have G:uZ S k (t::l)=((u.app S).hasB k||uZ S k l):=E▸rfl;rw[G] at C B;rw[E] at z d;refine ki λK T=>vK cZ<|aS (zw cZ) (ye cZ ?_);rw[lQ];refine js J (gM hb) hw<|aBN ?_;have D:∀{r:List U.Tm} {m:Nat},Sk D_ (xg S r)->r.length=(l.map aE).reverse.length+m->(l.map aE).reverse.length+m<=aM:=λs e=>by
   rw[<-e]
   have:=s.len
   rw[xg,aO] at this;show aA this hD
  rcases u with m|⟨b',y'⟩|⟨g,x⟩|⟨g,x,y⟩
  .have e:(U.Tm.v m).app S=.v m:=M.id m<|hw.free m rfl;rw[e] at C B;by_cases hm:m=k
   .subst hm;show aS (a6 rfl)<|C (by change(m == m||_)=AB;rw[j0];rfl)
   rw[show(U.Tm.v m).hasB k=AD from beq_eq_false_iff_ne.mpr hm] at C B
   show aN (bE λq=>hm<|U.Tm.v.inj q)<|T (L (RD z<|U.Tm.kZ _) d.pop C B)
  show aN (dB (t:=.c b' y'))<|T (L (RD z<|U.Tm.kZ _) d.pop C B)
  .have d:=d.one<|b8 _;refine(gY (k4.tup .val)<|GP cZ (D (r:=x::l) d (by rw[oT,aO];rfl)) ?_)
   rw[lQ,(jw ..).symm];show T<|L (todo:=x::l) (RF z) d C B
  have d:=d.two (ip<|ly _ _)<|ip (l4 _ _);refine(gY (k4.tup .val)<|GP cZ (D (r:=y::x::l) d (by rw[oT,aO];rfl)) ?_)
  rw[lQ,show(l.map aE).reverse++[aE x,aE y]=((y::x::l).map aE).reverse by rw[da,da,jw,jw,bp];rfl]
  rw[show((U.Tm.s2 g x y).app S).hasB k=((x.app S).hasB k||(y.app S).hasB k) from rfl,or3] at C B
  show T<|L (sz3 z) d C B
omit hD in
theorem aIJ(C:BQ Qz b)(B:Qz t)(q:∀{c},Q (.bool<|(t.app S).hasB k)<|app H [c]):Fi W (n+2) 70 [.obj a,.int k,aE t] H Q:=by
 have e:uZ S k [t]=(t.app S).hasB k:=wM _;refine J.fe Xv rfl ?_;refine eA (lz rfl)<|Ex.mk (aIK J M hb hk (QL M C B) (todo:=[t]) (aV _) (Sk.start _) (λh=>?_) λh=>?_)
 .rw[<-e,h] at q;show q
 rw[<-e,h] at q;show q
end
def iT(p:U.Tm×U.Tm):V:=.tup [aE p.1,aE p.2]
def mH(H:AH)(a:Nat)(b:Bd)(st:Nat)(l:List<|U.Tm×U.Tm)(g:AH):AH:=a7 (app H<|.lst (l.map iT).reverse::g) (.dict (d9 b) st) a
variable{g:AH}{l:List (U.Tm×U.Tm)}
section
variable(ha:a<H.length)
include ha
def yx:aD (mH H a b st l g) a=AA (.dict (d9 b) st):=by unfold mH;rw[a9,dm,dC,S9<|a5▸b6 ha (aY _ _)]
def Gg:aD (mH H a b st l g) (aK H)=AA (.lst (l.map iT).reverse):=by unfold mH;rw[a9,dm,dC,dJ,S8<|eV ha,rW<|aV _,qH];rfl
def Oi{J:List<|U.Tm×U.Tm}:a7 (mH H a b st l g) (.lst (J.map iT).reverse) (aK H)=mH H a b st J g:=by unfold mH;rw[dm,dm,dm,dC,dC,dJ,List.set_comm _ _<|eV ha,JN (h:=aV _),qH];rfl
def aCa{c:Cell}:app (mH H a b st l g) [c]=mH H a b st l (g++[c]):=by unfold mH;rw[dm,dm,dC,dC,dC,show H++.lst (l.map iT).reverse::(g++[c])=(H++.lst (l.map iT).reverse::g)++[c] by rw[bp];rfl];show(TV _ _<|a5▸b6 ha (aY _ _)).symm
omit ha in
theorem aCb{b':Bd}{st':Nat}:a7 (mH H a b st l g) (.dict (d9 b') st') a=mH H a b' st' l g:=iK
end
inductive Act where
 |skip|fail|bind (x:Nat) (r:U.Tm)|push (l:List (U.Tm×U.Tm))
def act:U.Tm->U.Tm->Act
 | .v x,r=>if r=.v x then .skip else .bind x r|r,.v x=>.bind x r| .c k z,.c B z'=>if k=B/\z=z' then .skip else .fail| .s1 f x,.s1 g y=>if f=g then .push [(x,y)] else .fail| .s2 f x x2,.s2 g y J=>if f=g then .push [(x2,J),(x,y)] else .fail|_,_=>.fail
def MQ(H:AH)(a:Nat)(b:Bd)(S:Sb)(st:Nat)(l:List<|U.Tm×U.Tm)(g:AH)(K:BT)(Q:K2):Act->Prop
 | .skip=>∀{x y z},K [AA<|.obj a,x,y,AA<|.obj (aK H),z] (mH H a b st l g) Q| .fail=>∀{F},Q (.ret<|.bool AD) F (mH H a b st l g)| .bind x r=>b.at x=AE/\Qz r/\((r.app S).hasB x=AB->∀{F g},Q (.ret<|.bool AD) F<|mH H a b st l g)/\((r.app S).hasB x=AD->∀{y z v g},K [AA<|.obj a,y,z,AA<|.obj (aK H),v] (mH H a (b++[(x,r)]) (st+1) l g) Q)| .push ps=>(ps++l).length<=aM/\∀{x y z},K [AA<|.obj a,x,y,AA<|.obj (aK H),z] (mH H a b st (ps++l) g) Q
variable{r:U.Tm}
def Ez(h:b.at x=AE):cB (d9 b) (.int (x:Int)) (aE r)=d9 (b++[(x,r)]):=by
 rw[sr<|bk h];unfold d9;rw[bw];rfl
variable{p v:U.Tm}{Q:K2}
section
variable(J:bG W){q:U.Tm}{K:BT}{x' y' z':Option V}(ha:a<H.length)(M:ay b S)(hq:BQ Qz b)
include J ha M hq
def IC(m:MQ H a b S st l g K Q<|if r=.v x then .skip else .bind x r):aU W (n+2) (dp 4 sa) [AA<|.obj a,AA<|aE (.v x),AA<|aE r,AA<|.obj (aK H),z'] (mH H a b st l g)<|i6 K Q:=by
 refine aBO ?_;by_cases e:r=.v x
 .rw[aC e] at m;show aS (a6 e) m
 rw[aB e] at m;obtain⟨B,T,D,C⟩:=m;refine aN (bE e) (aIJ J M (yx ha) B hq T λ{c}=>?_);rw[aCa ha];by_cases o:(r.app S).hasB x=AB;show aS o<|D o;refine aN (Bool.eq_false_iff.mpr o)<|vL (yx ha) (by rw[d9,aO];show aA (HW M hq)<|lz rfl) ?_
 rw[Ez B,aCb];show C<|Bool.eq_false_iff.mpr o
def aCp(Z:U.Walk b p u)(Y:U.Walk b q v)(L:u.WT)(T:v.WT)(m:MQ H a b S st l g K Q<|act u v):bT W (n+2) vF [AA<|.obj a,x',y',AA<|.obj (aK H),z'] (mH H a b st ((p,q)::l) g)<|yT (aU W (n+2) sa) K [AA<|.obj a,x',y',AA<|.obj (aK H),z'] Q:=by
 have hw:=Gg (st:=st) (b:=b) (l:=(p,q)::l) (g:=g) ha;refine vK hw<|cC 4 (aS (zw hw)<|ye hw ?_);rw[Oi ha];refine js J (yx ha) Z<|js J (yx ha) Y (dQ ?_);have B:∀{ps:List<|U.Tm×U.Tm} {F:Fa} {r:List V} {Q':K1},(ps++l).length<=aM->r.length=ps.length->(l.map iT).reverse++r=((ps++l).map iT).reverse->Q' (.obj<|aK H) (mH H a b st (ps++l) g)->t7 .Add (.obj<|aK H) (mH H a b st l g) (.lst r) Q':=λ{ps F r Q'} z e1 e2 O=>by
  refine GP (Gg ha) (by rw[e1,oT,aO,bQ,<-a5];show z) ?_
  rw[e2,Oi ha];show O
 rcases hu:u.bO with _|_
 .rcases hv:v.bO with _|_
  .refine aN (cq.trans hv)<|bL (dQ<|aN (cq.trans hu) ?_);rcases u with _|⟨k,z⟩|⟨f,x⟩|⟨f,x,x2⟩
   .rcases hu with _|_
   .refine aN (dB (t:=.c k z))<|aN (dB (t:=.c k z)) ?_;rcases v with _|⟨C,z'⟩
    .rcases hv with _|_
    .refine aN (dB (t:=.c C z'))<|OH ?_;have m:MQ H a b S st l g K Q<|if k=C/\z=z' then .skip else .fail:=m
     by_cases e:k=C/\z=z'
     .rw[aC e] at m;show aN (aF not<|a6 e) m
     rw[aB e] at m;show aS (aF not<|bE e) m
    show m;show m
   .rcases v with _|⟨k,z⟩|⟨g',y⟩|⟨g',y,D⟩
    .rcases hv with _|_
    show aN (dB (t:=.c k z)) m
    .have m:MQ H a b S st l g K Q<|if f=g' then .push [(x,y)] else .fail:=m
     by_cases e:f=g'
     .rw[aC e] at m;show aS (a6<|aF _ e) ⟨lz rfl,⟨.val,B (F:=[]) m.1 rfl (by rw[uK,da,jw];rfl) m.2⟩⟩
     rw[aB e] at m;show aN (bE λz=>e<|d6 z) m
    show aN (bE λe=>by have E:=T.1;rw[<-d6 e,L.1] at E;show absurd E ⋯) m
   rcases v with _|⟨k,z⟩|⟨g',y⟩|⟨g',y,D⟩
   .rcases hv with _|_
   show aN (dB (t:=.c k z)) m;show aN (bE λe=>by have G:=L.1;rw[d6 e,T.1] at G;show absurd G ⋯) m
   have m:MQ H a b S st l g K Q<|if f=g' then .push [(x2,D),(x,y)] else .fail:=m
   by_cases e:f=g'
   .rw[aC e] at m;show aS (a6<|aF _ e) ⟨lz rfl,⟨.val,B (F:=[]) m.1 rfl (by rw[uK,uK,da,da,jw,jw,bp];rfl) m.2⟩⟩
   rw[aB e] at m;show aN (bE λz=>e<|d6 z) m
  rcases v with x|_
  .have e:act u (.v x)=.bind x u:=by rcases u with _|_<;>first|rfl|rcases hu with _|_
   rw[e] at m;refine dQ<|aS (aF not<|cq.trans hu) (bL<|IC J ha M hq ?_);rw[aB λe=>by rw[e] at hu;rcases hu with _|_]
   show m
  .rcases hv with _|_
  .rcases hv with _|_
  rcases hv with _|_
 rcases u with x|_;show dP (λo=>bL<|IC J ha M hq m) λo=>bL<|IC J ha M hq m
 .rcases hu with _|_
 .rcases hu with _|_
 rcases hu with _|_
end
def tW(S:Sb)(l:List<|U.Tm×U.Tm):Nat:=(l.map λp=>(p.1.app S).aX+(p.2.app S).aX).sum
def sI(σ:Sb)(l:List<|U.Tm×U.Tm):List Nat:=l.map λp=>(p.1.app σ).dep
def u5(b:Bd)(L:List Nat):Nat:=L.countP λx=>(b.at x).isNone
variable{L:List Nat}
def Wz(J:b.at x=AE)(B:x∈L):u5 (b++[(x,r)]) L<u5 b L:=by
 refine LB (λy h=>?_) B ?_ ?_
 .rw[oe J] at h;by_cases e:y=x
  .rw[aC e] at h;show(aI h).elim
  rw[aB e] at h;show h
 .rw[J];rfl
 rw[oe J,aC rfl];rfl
def aH0(M:ay b S)(D:b.at x=AE)(C:∀m,r=.v m->b.at m=AE)(h:(r.app S).hasB x=AB)(e:r≠.v x)(σ:Sb)(B:U.Sat b σ):σ x≠r.app σ:=λq=>by
 rw[<-M.Gr B r] at q;refine aDh (vA.mp h) (λJ=>e ?_) q;rcases r with m|_
 .rw[ub,M.id m<|C m rfl] at J;show J
 .rcases J with _|_
 .rcases J with _|_
 rcases J with _|_
def sz4:x+y+0<x+1+(y+1):=by
 rw[dX x 1];show qG<|c5 _
def sz5{J B:Nat}:J+B+(x+y+0)<x+J+1+(y+B+1):=by
 change J+B+(x+y)<x+J+1+(y+B)+1;rw[bQ<|J+B,Dx,dX (x+J) 1];show qG<|c5 _
variable{b₀:Bd}{S₀ σ:Sb}{ps:List (U.Tm×U.Tm)}
section
variable{s q:U.Tm}
def Nx(B:Bd)(J:Sb)(s t:U.Tm)(b:Bd)(S:Sb)(p q:U.Tm)(l:List<|U.Tm×U.Tm):Act->Prop
 | .skip=>fL B J s t b S l| .fail=>eh B s t| .bind x r=>b.at x=AE/\Qz r/\((r.app S).hasB x=AB->eh B s t)/\((r.app S).hasB x=AD->fL B J s t (b++[(x,r)]) (λn=>(S n).app<|U.one x (r.app S)) l/\(∀σ,U.Sat (b++[(x,r)]) σ->U.Sat b σ)/\u5 (b++[(x,r)]) (cM [s.app J,t.app J])<u5 b (cM [s.app J,t.app J]))| .push ps=>fL B J s t b S (ps++l)/\tW S (ps++l)<tW S ((p,q)::l)/\∀σ D_,U.Sat b σ->Sk D_ (sI σ<|(p,q)::l)->Sk D_ (sI σ<|ps++l)
def Ka(J:fL b₀ S₀ s t b S<|(p,q)::l)(B:b.at x=AE)(T:∀m,r=.v m->b.at m=AE)(e:r≠.v x)(M:Qz r)(D:∀σ,U.Sat b σ->(p.app σ=q.app σ↔σ x=r.app σ))(C:∀n,n=x\/(r.app S).has n->(p.app S).has n\/(q.app S).has n)(E:∀Q,iE Q->BQ Q b->Q p->Q q->Q (.v x)/\Q r)
  (G:(p.app S=.v x/\r.app S=q.app S)\/((p.app S).bO=AD/\q.app S=.v x/\r.app S=p.app S)):Nx b₀ S₀ s t b S p q l<|.bind x r:=
 ⟨B,M,λo=>J.fails λσ h z=>aH0 J.aw B T o e σ h<|(D σ h).mp z,λo=>
  have L:=λz=>aI<|o.symm.trans (vA.mpr z)
  ⟨J.bound D B T L C E G,λσ h=>(((J.aw.bind B L T).2 σ).mp h).1,Wz B<|qj.mpr (.inr<|(J.ins _ h_ x<|C x (.inl rfl)).elim (λz=>⟨_,.head _,z⟩) λz=>⟨_,.tail _ h_,z⟩)⟩⟩
def EN(h:t.bO=AD):(t.app σ).bO=AD:=by rcases t with _|_<;>first|rfl|show absurd h.symm aI
section
variable(mid:fL b₀ S₀ s t b S ((p,q)::l))(w1:U.Walk b p u)(w2:U.Walk b q v)
include mid w1 w2
def nH(h:∀σ,u.app σ≠v.app σ):eh b₀ s t:=mid.fails λσ hs e=>h σ<|w1.sat hs▸w2.sat hs▸e
def J6(h:∀σ,u.app σ=v.app σ):fL b₀ S₀ s t b S l:=mid.skip λσ hs=>by rw[w1.sat hs,w2.sat hs,h]
def J5(E:u.bO=AD)(M:v.bO=AD)(Z:∀σ,u.app σ=v.app σ↔∀r∈ps,r.1.app σ=r.2.app σ)(D:∀r∈ps,∀n,((r.1.app S).has n->(u.app S).has n)/\((r.2.app S).has n->(v.app S).has n))(Y:∀Q,iE Q->Q u->Q v->∀r∈ps,Q r.1/\Q r.2)(C:tW S ps<(u.app S).aX+(v.app S).aX)(G:∀σ D_,Sk D_ ((u.app σ).dep::sI σ l)->Sk D_ (sI σ<|ps++l)):Nx b₀ S₀ s t b S p q l<|.push ps:=
 have B:=w1.sat mid.aw.sol;have J:=w2.sat mid.aw.sol
 ⟨mid.parts (λσ h=>w1.sat h▸w2.sat h▸Z σ) (λr m n h=>B▸J▸h.imp (D r m n).1 (D r m n).2) (λQ hs hb L T=>Y Q hs (w1.c7 hb L)<|w2.c7 hb T) (B▸EN E)<|J▸EN M,by
   unfold tW at C ⊢;rw[bw,JO,da,qC,B,J];show Dz C _,λσ D_ hs k=>G σ D_<|w1.sat hs▸k⟩
omit w2 in
theorem EL(B:u.bO=AD)(J:U.Walk b q<|.v x)(M:Qz u):Nx b₀ S₀ s t b S p q l<|.bind x u:=
 have C:=w1.sat mid.aw.sol;have D:=J.var mid.aw
 Ka mid (J.free x rfl) (λm e=>absurd (e▸B) CQ) (λe=>absurd (e▸B) CQ) M (λσ h=>w1.sat h▸J.sat h▸eq_comm) (λn h=>h.elim (λh=>.inr<|D▸h▸rfl) λh=>.inl<|C▸h) (λQ hs hb L T=>⟨J.c7 hb T,w1.c7 hb L⟩) (.inr ⟨C▸EN B,D,C.symm⟩)
end
def T5(J:fL b₀ S₀ s t b S<|(p,q)::l)(C:U.Walk b p u)(B:U.Walk b q v)(M:Qz u)(O:Qz v):Nx b₀ S₀ s t b S p q l<|act u v:=by
 rcases u with x|⟨k,z⟩|⟨f,x⟩|⟨f,x,x2⟩
 .change Nx b₀ S₀ s t b S p q l (if v=.v x then .skip else .bind x v)
  have Z:=C.var J.aw;by_cases e:v=.v x
  .rw[aC e];show J6 J C B λσ=>e▸rfl
  rw[aB e];show Ka J (C.free x rfl) B.free e O (λσ h=>C.sat h▸B.sat h▸ju) (λn h=>h.elim (λh=>.inl<|Z▸h▸rfl) λh=>.inr<|B.sat J.aw.sol▸h) (λQ hs hb T D=>⟨C.c7 hb T,B.c7 hb D⟩)<|.inl ⟨Z,(B.sat J.aw.sol).symm⟩
 .rcases v with x|⟨Y,z'⟩;show EL J C rfl B M
  .change Nx b₀ S₀ s t b S p q l (if k=Y/\z=z' then .skip else .fail)
   by_cases e:k=Y/\z=z'
   .rw[aC e];show J6 J C B λσ=>e.1▸e.2▸rfl
   rw[aB e];show nH J C B λσ h=>e (by injection h with G E;show⟨G,E⟩)
  show nH J C B nofun;show nH J C B nofun
 .rcases v with x|_|⟨g,y⟩;show EL J C rfl B M;show nH J C B nofun
  .change Nx b₀ S₀ s t b S p q l (if f=g then .push [(x,y)] else .fail)
   by_cases e:f=g
   .subst e;rw[aC rfl];refine J5 J C B rfl rfl (λσ=>⟨λh r m=>?_,λh=>KC.symm▸KC.symm▸(h _ h_).symm▸rfl⟩) (λr m n=>?_) (λQ hs T D r m=>?_) (sz4) λσ D_ k=>k.one (b8 _)
    .obtain rfl:=JK.mp m;injection h
    .obtain rfl:=JK.mp m;show⟨id,id⟩
    obtain rfl:=JK.mp m;show⟨hs.s1 f x T,hs.s1 f y D⟩
   rw[aB e];show nH J C B λσ h=>e<|by injection h
  show nH J C B nofun
 rcases v with x|_|_|⟨g,y,L⟩;show EL J C rfl B M;show nH J C B nofun;show nH J C B nofun;change Nx b₀ S₀ s t b S p q l<|if f=g then .push [(x2,L),(x,y)] else .fail
 by_cases e:f=g
 .subst e;rw[aC rfl];refine J5 J C B rfl rfl (λσ=>⟨λh r m=>?_,λh=>by rw[KD,KD,h (x,y)<|.tail _ h_,h (x2,L) h_]⟩) (λr m n=>?_) (λQ hs T D r m=>?_) (sz5) λσ D_ k=>k.two (ip<|ly _ _) (ip<|l4 _ _)
  .injection h with _ G E;rcases JJ.mp m with e|m
   .rw[e];show E
   rw[JK.mp m];show G
  .rcases JJ.mp m with e|m
   .rw[e];show⟨.inr,.inr⟩
   rw[JK.mp m];show⟨.inl,.inl⟩
  rcases JJ.mp m with e|m
  .rw[e];show⟨(hs.s2 f x x2 T).2,(hs.s2 f y L D).2⟩
  rw[JK.mp m];show⟨(hs.s2 f x x2 T).1,(hs.s2 f y L D).1⟩
 rw[aB e];show nH J C B λσ h=>e<|by injection h
end
section
variable(J:bG W){s:U.Tm}(ha:a<H.length)(hq:BQ Qz b₀)(qs:Qz s)(qt:Qz t)
include J ha hq qs qt
def aCo(e:∀{b S F st g},U.Met b₀ S₀ s t b S->BQ Qz b->Q .aQ F (mH H a b st [] g))(I:eh b₀ s t->∀{F b st l g},Q (.ret<|.bool AD) F<|mH H a b st l g):∀(G T:Nat) {b S todo},u5 b (cM [s.app S₀,t.app S₀])=G->tW S todo=T->fL b₀ S₀ s t b S todo->(∀σ,U.Sat b σ->Sk ((s.app σ).dep) (sI σ todo))->
  Ex λk=>∀{x y z st g},gG (bT W (n+2) vF) (aU W (n+2) sa) k [AA<|.obj a,x,y,AA<|.obj (aK H),z] (mH H a b st todo g) Q:=by
 intro G
 induction G using Ca with
 |ind G IH=>
 intro T
 induction T using Ca with
 |ind T N=>
 intro b S todo e1 e2 mid Y;obtain⟨E,f⟩:=mid.c7 Qz (Fg _) hq qs qt;rcases todo with _|⟨pq,l⟩;show Ex.mk (v:=1) λ{x y z st g}=>vK (Gg ha)<|e mid.done E;obtain⟨p,q⟩:=pq;obtain⟨u,w1⟩:=mid.aw.walks p;obtain⟨v,w2⟩:=mid.aw.walks q;obtain⟨i,w⟩:=f _ h_;have P:=w1.c7 E i;have R:=w2.c7 E w;have M:=T5 mid w1 w2 P R;have B:∀{k} (m:∀{st g} {K:BT},(∀{F H},gG (bT W (n+2) vF) (aU W (n+2) sa) k F H Q->K F H Q)->MQ H a b S st l g K Q (act u v)),Ex λk=>∀{x y z st g},gG (bT W (n+2) vF) (aU W (n+2) sa) k [AA<|.obj a,x,y,AA<|.obj (aK H),z] (mH H a b st ((p,q)::l) g) Q:=λm=>Ex.mk λ{x y z st g}=>ki λK C=>aCp J ha mid.aw E w1 w2 P.wt R.wt<|m C;have D:tW S l<T:=e2▸Ta (b6 (U.Tm.kZ _)<|aY _ _);generalize act u v=A at M B
 induction A using Act.casesOn with
 |skip=>
  obtain⟨h⟩:=N _ D e1 rfl M λσ h=>(Y σ h).pop;show B λC=>C h
 |fail=>show B (k:=0) λj=>I M|bind x r=>
  obtain⟨d,X,h3,h4⟩:=M;rcases o:(r.app S).hasB x with _|_
  .obtain⟨m,O,Z⟩:=h4 o;obtain⟨h⟩:=IH _ (e1▸Z) _ rfl rfl m λσ h=>(Y σ<|O σ h).pop;show B λC=>⟨d,X,λz=>(by rw[o] at z;rcases z with _|_),λj=>C h⟩
  show B (k:=0) λj=>⟨d,X,λo=>I<|h3 o,λz=>(by rw[o] at z;rcases z with _|_)⟩
 |push ps=>
  obtain⟨m,O,Z⟩:=M;have L:=λσ h=>Z σ _ h<|Y σ h;obtain⟨h⟩:=N _ (e2▸O) e1 rfl m L;refine B λC=>⟨?_,C h⟩
  have:=(L S mid.aw.sol).len
  rw[sI,aO] at this;show aA this<|QL mid.aw E qs
def Gk(M:ay b₀ S₀)(D:aD H a=AA (.dict (d9 b₀) st)){Q:K1}(B:∀{b S st g},U.Met b₀ S₀ s t b S->BQ Qz b->Q (.bool AB) (a7 (app H g) (.dict (d9 b) st) a))(C:eh b₀ s t->∀{b st g},Q (.bool AD)<|a7 (app H g) (.dict (d9 b) st) a):Fi W (n+3) 71 [.obj a,aE s,aE t] H Q:=by
 refine J.fe Xw rfl ?_;have e:app H [.lst [iT (s,t)]]=mH H a b₀ st [(s,t)] []:=(mZ<|gM D).symm;refine eA (lz rfl) ?_;rw[show app H [Cell.lst [.tup [aE s,aE t]]]=mH H a b₀ st [(s,t)] [] from e]
 obtain⟨h⟩:=aCo J ha hq qs qt (Q:=mN (aU W (n+2)<|.cons (.ret<|.const (.bool AB)) .nil)<|gJ Q) (λm q=>B m q) (λu=>C u) _ _ rfl rfl (.start M s t) λσ y=>Sk.start _;show⟨h⟩
end
def fM:U.Ev->V
 |(0,f,D)=>.tup [.str Aaa,.int f,.lst<|D.map aE]|(1,f,D)=>.tup [.str Aad,.int f,.lst<|D.map aE]|(2,_,D)=>.tup [.str [99,117,116,116,111],.lst<|D.map aE]|_=>.tup [.str [99,117,116]]
def fN(l:List Nat):List V:=l.map λk:Nat=>V.int k
def OO:∀{tb:List Nat},tb.Nodup->(cD tb t).2.Nodup:=by
 induction t with
 |v n=>
  intro tb h;rw[lH];by_cases m:n∈tb
  .rw[aC m];show h
  rw[aB m];show JL.mpr ⟨h,List.nodup_cons.mpr ⟨eL,d7⟩,λa ha b hb e=>m<|(JK.mp hb)▸e▸ha⟩
 |c=>show λh=>h|s1 f x J=>show J|s2 f x y C B=>show λh=>B<|C h
def Ga:∀{tb:List Nat},tb.Nodup->(eX tb D).2.Nodup:=by
 induction D with
 |nil=>show λh=>h|cons t D J=>show λh=>J<|OO h
section
variable(M:ay b S)(h:BQ Qz b)(ht:∀t∈D,Qz t)
include M h ht
def QM(J:x∈cM (D.map<|U.Tm.app S)):x<=150000:=zD M (N:=λn=>n<=150000) (λp C=>⟨(h p C).1.lo,(h p C).2.lo⟩) (λt m=>(ht t m).lo) J
def aEt:(cM<|D.map (U.Tm.app S)).length<=150001:=by
 have:=pM (Ga d7) λx hx=>List.mem_range.mpr<|ip (QM M h ht hx)
 rw[kq] at this;show this
def aEs(f:Nat×Nat)(evs:List U.Ev)(picks:List Nat):BQ Qz (U.event b S f D evs picks).1:=(E6 M h (λy=>.c) λy m=>.v<|QM M h ht m).1
end
def WY{k:Nat}:Bv (m:Int) (k:Int)=((m % k:Nat):Int):=by rw[Int.fmod_eq_emod_of_nonneg _<|eI k];rfl
def gQ{l r s:List α}:app (app l r) s=app l (r++s):=by rw[dC,dC,dC,bp]
def Gz{f:α->β}{l:List α}:gV (l.map f)=gV l:=by rcases l with _|_<;>rfl
variable{src:V}{evs:List U.Ev}{picks nm:List Nat}
section
variable(J:bG W){e:Nat}{Q:K1}
theorem GU{l:List V}(J:aD H w=AA (.lst l))(q:Q (.bool<|!gV l) H):w6 W (.obj w) H Q:=by
 change ob (ob (aD H w) AE _) _ _;rw[J];show q
theorem GS{x y:Int}{k:Nat}(B:x=m)(J:y=k)(h:0<k)(q:Q (.int ((m % k:Nat):Int)) H):Seq (Prim W (.bin .Mod) [.int x,.int y] H) Q:=by
 rw[B,J];show gD (uV.int<|Int.ofNat_lt.mpr h)<|WY▸q
include J
def IG(M:ay b S)(G:aD H a=AA (.dict (d9 b) st))(T:∀{t},ob (aD (ed F x<|aE t) y) AE id=AA (.obj a))(L:∀{t},ob (aD (ed F x<|aE t) x) AE id=AA (aE t))(B:∀t∈D,(t.app S).dep<=d)(z:D.length<=aM)(Y:src=.tup (D.map aE)\/∃i,src=.obj i/\aD H i=AA (.lst<|D.map aE))(q:Q (.lst<|(D.map<|U.Tm.app S).map aE) H):GG (bT W (d+2)<|.call 69 (.cons (.var y)<|.cons (.var x) .nil)) x F Q src H:=by
 have z':(D.map aE).length<=aM:=by rw[aO];show z
 rcases Y with rfl|⟨i,rfl,E⟩
 .refine⟨z',?_⟩
  have:∀{D:List U.Tm} {Q:il},(∀t∈D,(t.app S).dep<=d)->Q ((D.map<|U.Tm.app S).map aE) H->rQ (bT W (d+2)<|.call 69 (.cons (.var y)<|.cons (.var x) .nil)) x F (D.map aE) H Q:=λ{D}=>by
   induction D with
   |nil=>show λo q=>q|cons t D C=>show λB q=>ba T<|ba L (R4 J G M (B t h_)<|C (λt m=>B t<|.tail _ m) q)
  show this B ⟨.val,q⟩
 refine⟨dD E,z',?_⟩
 have:∀{C_:AH->Prop} {D:List U.Tm} {Q:il},C_ H->(∀t∈D,(t.app S).dep<=d)->Q ((D.map<|U.Tm.app S).map aE) H->uB C_ (bT W (d+2)<|.call 69 (.cons (.var y)<|.cons (.var x) .nil)) x F (D.map aE) H Q:=λ{C_ D}=>by
  induction D with
  |nil=>show λc o q=>⟨c,q⟩|cons t D C=>show λc B q=>⟨c,ba T<|ba L (R4 J G M (B t h_)<|C c (λt m=>B t<|.tail _ m) q)⟩
 show this (dD E) B ⟨.val,q⟩
def aC7{c:Nat}{f:Option V->Fa}(B:∀{t o},ed (f o) x (aE t)=f (AA<|aE t))(L:∀{o},ob (aD (f o) x) AE id=o)(T:∀{o},ob (aD (f o) y) AE id=AA (.obj c)){Q:K2}:∀{D:List U.Tm} {H:AH} {tb:List Nat} {o},(∀t∈D,t.dep<=d)->aD H c=AA (.lst<|ah tb)->(eX tb D).2.length<aM->(∀{o},Q .aQ (f o)<|a7 H (.lst<|ah (eX tb D).2) c)->d5 x (aU W (d+1)<|.cons (.expr<|.call 67 (.cons (.var x)<|.cons (.var y) .nil)) .nil) (D.map aE) (f o) H Q:=by
 intro D
 induction D with
 |nil=>show λj h j q=>mZ h▸q|cons t D C=>
  intro H tb o hd h z q;refine e5 λK k=>?_;rw[B];show ba L<|ba T (O1 J (hd t h_) h (bZ yp z)<|k (C (λt m=>hd t<|.tail _ m) (cf h) z<|iK.symm▸q))
def u0(M:ay b S)(v:BQ Qz b){f:Nat×Nat}(hE:∀D,fM (f.1,f.2,D)=.tup [.str nm,.int f.2,.lst<|D.map aE])(N:aD H a=AA (.dict (d9 b) st))(Z:aD H e=AA (.lst<|evs.map fM))(hs:src=.tup (D.map aE)\/∃i,src=.obj i/\aD H i=AA (.lst<|D.map aE))
  (s:∀t∈D,Qz t) (r:fD S D) (hl:D.length<='$') (C:0<picks.length) (p:evs.length<'$')
  (q:∀{st g},Q .none<|a7 (a7 (app H g) (.lst<|(U.event b S f D evs picks).2.map fM) e) (.dict (d9 (U.event b S f D evs picks).1) st) a):
  Fi W (n+153) 72 [.obj a,.str nm,.int f.2,src,.obj e,.lst<|fN picks] H Q:=by
 have X:e≠a:=λq=>by rw[q,N] at Z;rcases Z with _|_
 have j:D.length<=aM:=aA hl<|lz rfl;have G:∀t∈D.map (U.Tm.app S),t.dep<=n+150:=λt m=>by
  obtain⟨u,w,rfl⟩:=List.mem_map.mp m;show aA (r u w)<|bU _ _
 have R:=aEt M v s;have K:e≠aK H:=λq=>by rw[a9] at Z;show absurd (List.getElem?_eq_some_iff.mp Z).1<|Nat.not_lt.mpr (q▸dJ▸aV _)
 refine J.fe Xx rfl ?_;refine IG J M N (d:=n+150) rfl rfl (λt m=>aA (r t m)<|bU _ _) j hs<|eA (lz rfl) ?_;refine aC7 J (d:=n+151) (c:=aK H) (tb:=[]) (f:=λo=>[AA<|.obj a,AA<|.str nm,AA<|.int f.2,AA src,AA<|.obj e,AA<|.lst (fN picks),AE,AA<|.lst ((D.map<|U.Tm.app S).map aE),AA<|.obj (aK H),o,AE]) rfl rfl rfl (λt m=>eM<|G t m) cZ (bZ R<|lz rfl) λ{o}=>?_;rw[lQ];refine aS (hY<|gM Z)<|Gb J (d:=n+150) G (by rw[aO];show j) (aA R<|lz rfl) λ{cc}=>fP (gM<|gM Z) (by rw[aO];show iB p<|lz rfl) ?_
 rw[show evs.map fM++[V.tup [.str nm,.int f.2,.lst<|(kJ<|D.map (U.Tm.app S)).map aE]]=((U.event b S f D evs picks).2).map fM by rw[<-hE];show(bw (f:=fM) (l₁:=evs) (l₂:=[(f.1,f.2,kJ<|D.map (U.Tm.app S))])).symm]
 have Y:=cf (y:=.lst<|(U.event b S f D evs picks).2.map fM)<|gM (y:=cc) (gM (y:=.lst<|ah (cM<|D.map (U.Tm.app S))) Z);have T:=fB (y:=.lst<|(U.event b S f D evs picks).2.map fM) (gM (y:=cc)<|cZ (l:=H) (x:=.lst<|ah (cM<|D.map (U.Tm.app S)))) K;have O:=fB (y:=.lst<|(U.event b S f D evs picks).2.map fM) (gM (y:=cc)<|gM (y:=.lst<|ah (cM<|D.map (U.Tm.app S))) N) X;have E:((U.event b S f D evs picks).2.map fM).length=evs.length+1:=by rw[aO];show a5
 have P:(fN picks).length=picks.length:=aO _;rw[gQ] at Y T O ⊢;refine iI Y<|GS (aF _ E) (aF _ P) C ?_;have hj:(evs.length+1) % picks.length<picks.length:=wz _ C;refine ba (show aD (fN picks) _=AA (.int (((picks[(evs.length+1) % picks.length]?).getD 0:Nat):Int)) by unfold fN;rw[a9,f3,cK hj];rfl)<|GU T ?_
 have done:kT (cM<|D.map (U.Tm.app S)) (evs.length+1) picks=AE->Q .none (a7 (app H<|[.lst<|ah (cM<|D.map (U.Tm.app S))]++[cc]) (.lst<|(U.event b S f D evs picks).2.map fM) e):=λh=>by
  have q:=q (st:=st) (g:=[.lst<|ah (cM<|D.map (U.Tm.app S))]++[cc]);rw[show(U.event b S f D evs picks).1=b from aF (EV b<|evs.length+1) h,mZ O] at q
  show q
 unfold kT at done;generalize I:(picks[(evs.length+1) % picks.length]?).getD 0=pk at*;have z:gV (ah<|cM (D.map<|U.Tm.app S))=gV (cM<|D.map (U.Tm.app S)):=by unfold ah cI;rw[Gz,Gz]
 by_cases A:cM (D.map<|U.Tm.app S)=[];show aN (by rw[z,A];rfl)<|done (aB λq=>q.1 A)
 have L:0<(cM<|D.map (U.Tm.app S)).length:=List.length_pos_iff.mpr A;refine aS (z▸tD▸aF not (Bool.eq_false_iff.mpr λq=>A<|List.isEmpty_iff.mp q)) ?_;by_cases B:pk=0;show aN (mL.trans<|bE λq=>q B)<|done (aB λq=>iC q.2 B);have hx:=cK<|wz pk L;have q:=q (st:=st+1) (g:=[.lst<|ah (cM<|D.map (U.Tm.app S))]++[cc]);rw[show(U.event b S f D evs picks).1=b++[(_,_)] from aF (EV b<|evs.length+1) (show kT (cM<|D.map (U.Tm.app S)) (evs.length+1) picks=AA _ by unfold kT;rw[I];show(aC ⟨A,Jh B⟩).trans hx),<-Ez<|zC M (eK hx)] at q
 refine aS (mL.trans<|a6 B)<|iI Y (iI T<|GS rfl (k:=(cM<|D.map (U.Tm.app S)).length) (by unfold ah cI;rw[aO,aO]) L ?_)
 rw[E];refine(hJ T (by unfold ah cI;rw[a9,f3,f3,hx];rfl)<|vL O (by rw[d9,aO];show aA (HW M v)<|lz rfl) ?_)
 show q
end
def LQ{l r J:List α}{x:α}(h:l.drop a=x::r):aD l a=AA x/\a<l.length/\(l++J).drop (a+1)=r++J:=by
 have hl:=D1 λq=>by rw[Dk q] at h;rcases h with _|_
 rw[Dj hl] at h;rcases h with _|_;show⟨by rw[a9,cK hl],hl,Su hl⟩
section
variable{l r:List α}{k:Nat}{x y:α}
def dh(h:aD l i=AA x):aD (app l r) i=AA x:=by rw[a9] at h ⊢;rw[dC,wj (List.getElem?_eq_some_iff.mp h).1];show h
def eN:aD (app l r) (aK l+k)=aD r k:=by rw[a9,a9,dC,dJ,rW<|aY _ _,rh]
def UR(h:i<l.length):a7 (app l r) y i=app (a7 l y i) r:=by rw[dm,dm,dC,dC,TV _ _ h]
def r8:a7 (app l r) y (aK l+k)=app l (a7 r y k):=by rw[dm,dm,dC,dC,dJ,JN _ _<|aY _ _,rh]
def aBv:aK (a7 l x i)=aK l:=by rw[dJ,dJ,dm,List.length_set]
def len_app:aK (app l r)=aK l+aK r:=by rw[dJ,dJ,dJ,dC,a5]
def gC(h:aD l i=AA x):i<l.length:=by rw[a9] at h;show(List.getElem?_eq_some_iff.mp h).1
def nz:nq m=(Af 0 m).map λi:Nat=>V.int (i:Int):=by rw[Gw];unfold jm;rw[TU]
def ur(h:l.drop a=x::r):aD l a=AA x/\l.drop (a+1)=r:=by obtain⟨B,_,J⟩:=LQ h;show⟨B,fJ l▸fJ r▸J⟩
end
structure Px where
 s0:Cell
 s1:Cell
 s2:Cell
 s3:Cell
 s4:Cell
 fn:V
 cnt:V
 args:List U.Tm
 goals:List Gl
 call:List U.Tm
@[reducible] def hA(X:Px)(r:AH):AH:=X.s0::X.s1::X.s2::X.s3::X.s4::.inst 6 [('a',X.fn),('w',.tup<|X.args.map aE),('m',.obj 6),('f',X.cnt)]::.lst (X.goals.map a8)::.lst (X.call.map aE)::r
@[reducible] def hR(X:Px)(b:Bd)(st:Nat)(evs:List U.Ev)(ks:List U.Tm)(g:AH):AH:=hA X<|.dict (d9 b) st::.lst (evs.map fM)::.lst (ks.map aE)::g
def vq(w:List Nat):V:=.tup [.obj 9,.obj 10,.str w]
def All(X:Px)(σ:Sb):Prop:=X.args.map (U.Tm.app σ)=X.call.map (U.Tm.app σ)
def zip_map:∀{us:List U.Tm},D.length=us.length->((∀p∈D.zip us,p.1.app σ=p.2.app σ)↔D.map (U.Tm.app σ)=us.map (U.Tm.app σ)):=by
 induction D with
 |nil=>show λ{us} h=>by cases us with|nil=>show⟨λy=>rfl,λy y m=>aW m⟩|cons u us=>show nomatch h
 |cons t D J=>
  intro us h;rcases us with _|⟨u,us⟩;show nomatch h;rw[JS,JD,J<|oW h,da,da,List.cons.injEq]
variable{ks:List U.Tm}{R:U.Tm->Prop}{l:List V}
section
variable(J:bG W){X:Px}
theorem Ma:8<(hR X b st evs ks g).length:=b6 ⋯<|bU 11 g.length
include J
def aEN(D:iE R)(A:∀t∈X.args,Qz t/\R t)(O:∀t∈X.call,Qz t/\R t){P:V}:∀{ps i b S st g o},(X.args.zip X.call).drop i=ps->ay b S->BQ Qz b->BQ R b->(∀σ,(U.Sat b σ/\∀p∈ps,p.1.app σ=p.2.app σ)↔All X σ)->
  (∀{b S st g o},ay b S->BQ Qz b->BQ R b->(∀σ,U.Sat b σ↔All X σ)->Q .aQ [AA<|.obj 8,AA<|.obj 5,AA<|.obj 7,AA P,AA<|.obj 9,AA<|.obj 10,o,AE] (hR X b st evs ks g))->
  ((∀σ,¬All X σ)->∀{F b st g},Q (.ret<|vq Aac) F<|hR X b st evs ks g)->
  d5 6 (aU W (n+4) NW) ((Af i ps.length).map λi:Nat=>V.int (i:Int)) [AA<|.obj 8,AA<|.obj 5,AA<|.obj 7,AA P,AA<|.obj 9,AA<|.obj 10,o,AE] (hR X b st evs ks g) Q:=by
 intro ps
 induction ps with
 |nil=>show λy M hq hr h B y=>B M hq hr λσ=>⟨λs=>(h σ).mp ⟨s,λy m=>aW m⟩,λs=>((h σ).mpr s).1⟩|cons p ps I=>
  intro i b S st g o hd M hq hr h B E;obtain⟨Z,N⟩:=ur hd;rw[a9] at Z;obtain⟨Y,G⟩:=List.getElem?_zip_eq_some.mp Z;refine e5 λK k=>?_;refine ba (pO<|a9▸Y)<|ba (pO<|a9▸G) ?_;have L:=A _<|eK Y;have T:=O _<|eK G;refine Gk J Ma hq L.1 T.1 M rfl (λm C=>?_) λu {b' st' g'}=>E λσ a=>?_;show k<|I N m.aw C (m.c7 R D hr L.2 T.2) (λσ=>.trans (by rw[m.sat,and_assoc,JD])<|h σ) B E
  have z:=(h σ).mpr a;show u σ z.1<|z.2 p h_
theorem OG{Q:K1}(J:aD H i=AA (.lst l))(q:Q (.obj<|aK H)<|app H [.lst l]):Seq (Prim W (.f1 .list) [.obj i] H) Q:=by rw[dJ,dC] at q;show gY (k4.lst (.cell<|a9▸J) .cell) q
omit J in
def DW(L:List Nat)(d:Nat)(g:Gl):Prop:=(∀t∈cY g,Qz t/\U.Lt L d t)/\(gy g).length<=100
omit J in
theorem aBJ{p:PS}{g:Gl}{S2:Sb}(h:(gy g).length<=100):(p.to g picks S2).ks.length<=p.ks.length+100/\(p.to g picks S2).evs.length<=p.evs.length+1:=⟨aA (bJ a5)<|b7 h _,bJ a5⟩
def aEM(C:0<picks.length)(s:d+d*L.length<=150):∀{gs p st g o},ay p.b p.S->BQ Qz p.b->BQ (U.Lt L d) p.b->(∀g∈gs,DW L d g)->p.ks.length+100*gs.length<='$'->p.evs.length+gs.length<'$'->
  (∀{q o st g},jN picks gs p q AB->ay q.b q.S->BQ Qz q.b->BQ (U.Lt L d) q.b->Q .aQ [AA<|.obj 8,x1,x2,AA<|.lst (fN picks),AA<|.obj 9,AA<|.obj 10,x6,o] (hR X q.b st q.evs q.ks g))->
  (∀{q F b st g},jN picks gs p q AD->Q (.ret<|vq Aac) F (hR X b st q.evs q.ks g))->
  gj (It .lst (.obj 6)<|X.goals.map a8) 7 (aU W (n+154) F4) (gs.map a8) [AA<|.obj 8,x1,x2,AA<|.lst (fN picks),AA<|.obj 9,AA<|.obj 10,x6,o] (hR X p.b st p.evs p.ks g) Q:=by
 intro gs
 induction gs with
 |nil=>show λM hq hb y y y k y=>⟨dD rfl,k ⟨rfl,rfl⟩ M hq hb⟩|cons a gs v=>
  intro p st g o M hq hb hg x j k O;have ha:=hg _ h_;have B:p.ks.length+100+100*gs.length<='$':=aA (bJ<|by rw[fK,uR,bH,bQ 100]) x
  have E:p.evs.length+1+gs.length<'$':=bZ (bJ<|dX _ _ _) j;have N:=bZ (aY _ _) j;have G:=λg m=>hg g<|.tail _ m;have Y:∀t∈gy a,Qz t/\U.Lt L d t:=λt m=>by
   rcases a with _|_;show ha.1 t m;show ha.1 t m;show aW m
  have i:cY a=gy a->∀{K:BT},(∀{F H},gj (It .lst (.obj 6)<|X.goals.map a8) 7 (aU W (n+154) F4) (gs.map a8) F H Q->K F H Q)->(∀{q w},(fD p.S (gy a)/\∃S2,ay (p.ev a picks).1 S2/\jN picks gs (p.to a picks S2) q w)->jN picks (a::gs) p q w)->fD p.S (gy a)/\∀{st g o},K [AA<|.obj 8,x1,x2,AA<|.lst (fN picks),AA<|.obj 9,AA<|.obj 10,x6,o] (hR X (p.ev a picks).1 st (p.ev a picks).2 (p.ks++gy a) g) Q:=λy {K} T C_=>by
   obtain⟨D,bl,S2,P⟩:=WA (g:=a) s M hb λt m=>(Y t m).2;have I:=aBJ (p:=p) (S2:=S2) (picks:=picks) ha.2;show⟨D,T<|v P (aEs M hq (λt m=>(Y t m).1) (MN a,MM a) p.evs picks) bl G (aA (bX I.1 _) B) (bZ (bX I.2 _) E) (λc=>k<|C_ ⟨D,S2,P,c⟩) λc=>O (C_ ⟨D,S2,P,c⟩)⟩
  rcases a with ⟨f,as⟩|⟨f,as⟩|⟨l,r⟩
  .refine gx (dD rfl) λK T=>?_;obtain⟨D,z⟩:=i rfl T λc=>c;refine gY (k4.tup .val) ⟨by rw[aO,aO];show aA (aA (b7 ha.2 _)<|aA (aY _ _) B)<|lz rfl,?_⟩
   rw[<-bw];show u0 (a:=8) (e:=9) (f:=(0,f)) J M hq (λy=>rfl) rfl rfl (.inl rfl) (λt m=>(Y t m).1) D (aA ha.2 ⋯) C N λ{Z A}=>z (g:=app g A)
  .refine gx (dD rfl) λK T=>?_;obtain⟨D,z⟩:=i rfl T λc=>c;refine gY (k4.tup .val) ⟨by rw[aO,aO];show aA (aA (b7 ha.2 _)<|aA (aY _ _) B)<|lz rfl,?_⟩
   rw[<-bw];show u0 (a:=8) (e:=9) (f:=(1,f)) J M hq (λy=>rfl) rfl rfl (.inl rfl) (λt m=>(Y t m).1) D (aA ha.2 ⋯) C N λ{Z A}=>z (g:=app g A)
  have hl:=ha.1 l h_;have hr:=ha.1 r<|.tail _ h_;refine gx (dD rfl) λK T=>?_;refine Gk J Ma hq hl.1 hr.1 M rfl (λ{b' S' st' g'} m R=>?_) λu {b' st' g'}=>O (q:=p)<|.inl ⟨u,rfl,rfl⟩;show T<|v (p:=⟨b',S',p.ks,p.evs⟩) (g:=app g g') m.aw R (m.c7 _ (yr _ _) hb hl.2 hr.2) G (aA (bX (aY _ _) _) B) (bZ (bX (b8 _) _) E) (λc=>k<|.inr ⟨b',S',m,c⟩) λc=>O (.inr ⟨b',S',m,c⟩)
def aEL{Q:K1}(k:d+d*L.length<=150)(Y:iE R)(T:∀t,R t->U.Lt L d t)(I:∀t∈X.args,Qz t/\R t)(P:∀t∈X.call,Qz t/\R t)(O:∀g∈X.goals,DW L d g)(Z:X.args.length=X.call.length)(D:X.call.length<=100)(yE:X.goals.length<=5)(C:0<picks.length)
  (A:(∀σ,¬All X σ)->∀{b st g},Q (vq Aac)<|hR X b st [] X.call g)
  (K:∀{b S q st g},ay b S->BQ R b->(∀σ,U.Sat b σ↔All X σ)->jN picks X.goals ⟨b,S,X.call,[]⟩ q AB->ay q.b q.S->BQ Qz q.b->BQ (U.Lt L d) q.b->Q (vq Aag) (hR X q.b st q.evs q.ks g))
  (N:∀{b S q b' st g},ay b S->BQ R b->(∀σ,U.Sat b σ↔All X σ)->jN picks X.goals ⟨b,S,X.call,[]⟩ q AD->Q (vq Aac) (hR X b' st q.evs q.ks g)):
  Fi W (n+155) 73 [.obj 8,.obj 5,.obj 7,.lst<|fN picks] (hA X [.dict [] 0]) Q:=by
 have r:(X.args.zip X.call).length=X.call.length:=by rw[List.length_zip,Z,D4]
 refine J.fe Xy rfl ?_;refine eA (lz rfl)<|OG J rfl ⟨by rw[aO];show aA D<|lz rfl,?_⟩
 rw[aO,<-r,nz];refine aEN J (evs:=[]) Y I P uL .nil (λp C=>aW C) (λp C=>aW C) (λσ=>.trans ⟨λh=>h.2,λh=>⟨(λy y e=>au e),h⟩⟩<|zip_map Z) (λM hq hr B=>?_) λj=>A j;refine⟨dD rfl,aEM J C k M hq (λx m=>⟨T _ (hr x m).1,T _ (hr x m).2⟩) O ?_ (bZ (bJ<|cT _)<|bZ yE ⋯) (λc u E G=>K M hr B c u E G) λc=>N M hr B c⟩
 show aA (bW D<|dY 100 yE) ⋯
end
def occs(t:U.Tm):List Nat:=U.Tm.rec (λn=>[n]) (λy y=>[]) (λy y J=>J) (λy y y a b=>a++b) t
def HD:(occs t).length<=t.aX:=by
 induction t with
 |v n=>show aV _|c k z=>show bK _|s1 f x J=>show eM J|s2 f x y C B=>show eM<|aA (bJ a5) (bW C B)
def lA(tb:List Nat)(k:Nat):List Nat:=if k∈tb then tb else tb++[k]
def aB1:(cD tb t).2=(occs t).foldl lA tb:=by
 induction t generalizing tb with
 |v n=>change(cD tb<|.v n).2=lA tb n;rw[lH];unfold lA;split<;>rfl|c k z=>rfl|s1 f x J=>show J|s2 f x y C B=>show B.trans<|(aF (λtb=>(occs y).foldl lA tb) C).trans wi.symm
def aDg{k:Nat}:cg k t=(occs t).count k:=by
 induction t with
 |v n=>
  change(if n=k then 1 else 0)=List.count k [n]
  rw[Ss];by_cases e:n=k
  .rw[aC e,aC<|lB.mpr e]
  rw[aB e,aB λq=>e<|lB.mp q]
 |c=>rfl|s1 f x J=>show J|s2 f x y C B=>show(congr (aF _ C) B).trans List.count_append.symm
section
variable{r:List V}{x:V}{Q:K1}
section
variable(hc:aD H w=AA (.lst l))
def QR:at_ AD H (.obj w) (λy c=>jh AD c λy=>AB)=AB:=by
 change ob (aD H w) AD _=AB;rw[hc];rfl
def aBP(z:l.length+r.length<=aM)(q:Q .none<|a7 H (.lst<|l++r.reverse) w):wR W (.obj w) (.tup r) H Q:=by
 change ob (aD H w) _ _;rw[hc];show⟨z,q⟩
end
def aBd{P:Bool->Prop}(J:aD H w=AA (.lst (x::l).reverse))(q:P AB):k8 (.obj w) H P:=GW J<|tD.symm▸List.isEmpty_reverse.symm▸q
def aBb(q:Q (.obj<|aK H)<|app H [.lst l.reverse]):Seq (Prim W .listRev [.lst l] H) Q:=by rw[dJ,dC] at q;show aFg (uW.lst .val .cell) q
end
@[reducible] def xH(x w:Nat)(A:aL):aL:=.cons (.asg x<|.bm .pop (.var w) .nil) (.cons (.ite (.op (.cmp .Eq)<|.cons (.op .sub<|.cons (.var x) (.cons (.const<|.int 0) .nil)) (.cons (.const<|.str [118]) .nil)) A
 (.cons (.ite (.op (.cmp .Eq)<|.cons (.op .sub<|.cons (.var x) (.cons (.const<|.int 0) .nil)) (.cons (.const<|.str [115]) .nil)) (.cons (.expr<|.jb (.var w) (.op .sub<|.cons (.var x) (.cons (.const<|.int 2) .nil))) .nil) .nil) .nil)) .nil)
variable{l:List U.Tm}
section
variable{B_:Nat}{σ:Type}{I:List Nat->σ->Prop}{C:σ->List U.Tm->AH}{f:Option V->Fa}{A:aL} (hset:∀{o v},ed (f o) x v=f (AA v)) (hx:∀{o},ob (aD (f o) x) AE id=o) (hw:∀{o},ob (aD (f o) w) AE id=AA (.obj d)) (hd:∀{s l},aD (C s l) d=AA (.lst (l.map aE).reverse)) (hs:∀{s l l'},a7 (C s l) (.lst (l'.map aE).reverse) d=C s l') (step:∀{os s k l} {K:K2},I os s->os.length<B_->(∀{s'},I (os++[k]) s'->K .aQ (f (AA (aE (.v k)))) (C s' l))->aU W n A (f (AA (aE (.v k)))) (C s l) K)
include hd hs
theorem Q5{J:List U.Tm}{s:σ}{K:K1}(e:J=D++l)(z:J.length<=aM)(q:K .none<|C s J):wR W (.obj d) (.tup<|D.map aE) (C s l) K:=by
 subst e;refine aBP hd (by rw[oT,aO,aO,bQ,<-a5];show z) ?_
 rw[<-List.reverse_append,<-bw,hs];show q
include hset hx hw
theorem Cq{s:σ}{K:BT}(q:aU W n (dp 1<|xH x w A) (f<|AA (aE t)) (C s l)<|i6 K Q):bT W n (.var w) (f o) (C s<|t::l)<|yT (aU W n<|xH x w A) K (f o) Q:=by
 refine ba hw<|aBd hd (ba hw<|aS (zw hd) (ye hd ?_));rw[hs];change aU W n _ (ed (f o) x<|aE t) _ _;rw[hset];show q
include step
def Q6:∀{l:List U.Tm} {J:Nat} {os:List Nat} {s:σ} {o:Option V},I os s->os.length+(occs t).length<=B_->l.length+t.aX<=aM->(∀{s o},I (os++occs t) s->gG (bT W n<|.var w) (aU W n<|xH x w A) J (f o) (C s l) Q)->gG (bT W n<|.var w) (aU W n<|xH x w A) (J+t.aX) (f o) (C s<|t::l) Q:=by
 induction t with
 |v k=>show λ{l J os s o} i B z q=>ki (k:=J) λK L=>Cq (C:=C) (s:=s) hset hx hw hd hs (ba hx<|step i B λi=>L (q i))|c b z=>show λ{l J os s o} i B j q=>ki (k:=J) λK L=>Cq (C:=C) hset hx hw hd hs (ba hx<|aN (cq (t:=.c b z)) (ba hx<|aN (dB (t:=.c b z)) (L<|q (by rw[show occs (.c b z)=[] from rfl,fJ];show i))))|s1 g y E=>show λi B z q=>ki λK L=>Cq (C:=C) hset hx hw hd hs (ba hx<|ba hx (ba hw<|aS (QR hd) (ba hx<|Q5 (C:=C) hd hs (D:=[y]) rfl (aA (b7 (bj<|bK _) _) z) (L<|E i B (aA (b8 _) z) q))))|s2 g y T Y G=>
  intro l J os s o i B z q;have e:J+(y.aX+T.aX+1)=J+T.aX+y.aX+1:=by rw[bQ y.aX,<-bH,<-bH]
  have B:os.length+(occs y++occs T).length<=B_:=B;rw[a5,<-bH] at B;have M:l.length+1+y.aX<=aM:=aA (by rw[bH,bQ 1,<-bH,<-bH];show bj<|bH ..▸aY _ _)<|show l.length+(y.aX+T.aX+1)<=aM from z
  change gG _ _ (J+(y.aX+T.aX+1)) _ _ _;rw[e];show ki λK L=>Cq (C:=C) hset hx hw hd hs<|ba hx (ba hx<|ba hw (aS (QR hd)<|ba hx (Q5 (C:=C) (s:=s) hd hs (D:=[y,T]) rfl (aA (b7 y.kZ _) M)<|L (Y (l:=T::l) i (aA (aY _ _) B) M λi=>G i (a5.symm▸B) (aA (b7 (aA (bU _ _)<|b8 _) _) z) λi=>q (by rw[bp] at i;show i)))))
end
section
variable{l r:List α}{x y:α}
def iF:aD (app l<|x::r) (aK l)=AA x:=eN (k:=0)
def r7:a7 (app l<|x::r) y (aK l)=app l (y::r):=r8 (k:=0)
end
def gw(f:Nat->V)(tb:List Nat):List<|Atom×V:=tb.map λn:Nat=>(Atom.int n,f n)
def sL{f:Nat->V}:(aa (gw f tb)<|.int (n:Int)).isSome=decide (n∈tb):=by
 induction tb with
 |nil=>rfl|cons m tb J=>
  by_cases e:m=n
  .subst e;show(aF Option.isSome jj).trans (a6 h_).symm
  refine(aF Option.isSome<|iH λq=>e (nY _ _ q)).trans<|J.trans (decide_eq_decide.mpr ⟨.tail _,λh=>?_⟩)
  cases h with
  |head=>show absurd rfl e|tail _ h=>show h
def qV:List Nat->List (Atom×V):=gw λy=>.bool AB
def T9{os:List Nat}:(os.foldl lA []).length<=os.length:=by
 suffices h:∀{tb:List Nat},(os.foldl lA tb).length<=tb.length+os.length from aA h<|bJ (cT _)
 induction os with
 |nil=>show aV _|cons k os J=>
  refine aA J<|aA (bX (?_) _) (bJ<|(bH ..).trans (aF _<|bQ ..));unfold lA;split
  show b8 _;show bJ a5
variable{Q:K1}
section
variable(J:bG W)(ht:t.aX<aM)
include J ht
def R1(q:∀{c c'},Q (.obj<|aK H+1)<|app H [c,.lst<|ah (cD [] t).2,c']):Fi W (n+2) 14 [aE t] H Q:=by
 have D:=aA (HD (t:=t))<|dc ht;refine J.fe W8 rfl ?_;refine kY (lz rfl) ?_;refine J.fe W9 rfl ?_;refine mO<|eA (lz rfl) (aBb ?_);rw[gQ,gQ,len_app,len_app];refine Ex.mk (v:=1+t.aX) (Q6 (σ:=List Nat×Nat) (B_:=t.aX) (d:=aK H+2) (I:=λos s=>s.1=os.foldl lA []) (C:=λs l=>app H [.dict (qV s.1) s.2,.lst<|ah s.1,.lst (l.map aE).reverse]) (s:=([],0)) (os:=[]) (f:=λo=>[AA<|.lst [aE t],AA<|.obj (aK H),AA<|.obj (aK H+1),AA<|.obj (aK H+2),o]) (l:=[]) (o:=AE)
  rfl rfl rfl eN r8 (λ{os s k l K} i B q=>?_) rfl (by rw[m9,cT];show HD) (by rw[m9,cT];show dc ht) λ{s o} i=>GW eN ?_)
 .have hl:=bZ (i▸T9)<|iB B ht;obtain⟨tb,st⟩:=s;refine OI iF ?_;have e:(os++[k]).foldl lA []=lA tb k:=by rw[wi,<-i];rfl
  by_cases m:k∈tb;show aN (by unfold qV;rw[sL,a6 m];rfl)<|q (s':=(tb,st)) (e▸(aC m).symm)
  refine aS (by unfold qV;rw[sL,bE m];rfl)<|vL iF (by unfold qV gw;rw[aO];show dc hl) ?_
  rw[r7];refine aS (hY<|eN (k:=1))<|fP (eN (k:=1)) (by unfold ah cI;rw[aO,aO];show hl) ?_
  rw[r8 (k:=1),sr<|Option.not_isSome_iff_eq_none.mp (by unfold qV;rw[sL,bE m];nofun)]
  have q:=q (s':=(tb++[k],st+1))<|e▸(aB m).symm;unfold qV gw ah cI at q;rw[bw,bw,bw] at q;show q
 have i:s.1=(occs t).foldl lA []:=i;have q:=q (c:=.dict (qV s.1) s.2) (c':=.lst (([]).map aE).reverse);rw[aB1,<-i] at q;show q
end
def vS(n:Nat):Option V:=if n=0 then AE else AA (.int n)
def aDa:(vS n).getD (.int 0)=.int (n:Int):=by
 unfold vS;split
 .rename_i e;rw[e];rfl
 rfl
section
variable{X:Type}[DecidableEq K]{l:List (K×X)}{k j:K}{v:X}
def aCe:aa (l.map λp=>if p.1=k then(p.1,v) else p) j=if j=k then(aa l k).map λy=>v else aa l j:=by
 induction l with
 |nil=>by_cases e:j=k;show(aC e).symm;show(aB e).symm|cons p l J=>
  obtain⟨i,x⟩:=p;rw[da];by_cases e:i=k
  .subst e;rw[aC rfl];by_cases q:j=i
   .subst q;rw[jj,jj,aC rfl];rfl
   rw[iH λe=>q e.symm,iH λe=>q e.symm,J,aB q,aB q]
  rw[aB<|e,iH e];by_cases q:i=j
  .subst q;rw[jj,jj,aB e]
  rw[iH q,iH q,J]
def sq:aa (cB l k v) j=if j=k then AA v else aa l j:=by
 rcases h:aa l k with _|x
 .rw[sr h,show aa (l++[(k,v)]) j=(aa l j).or (aa [(k,v)] j) by unfold aa;rw[S5];cases l.find? λp=>decide (p.1=j)<;>rfl]
  by_cases e:j=k
  .rw[aC e,e,h,jj];rfl
  rw[aB e,iH λq=>e q.symm];show Th
 have a:(l.any λp=>decide<|p.1=k)=AB:=Bool.not_eq_false _▸λq=>by
  rw[show aa l k=AE by unfold aa;rw[List.find?_eq_none.mpr<|List.any_eq_false.mp q];rfl] at h
  show au h
 show((aF (aa · j)<|aC a).trans aCe).trans (by rw[h];rfl)
def o8:(cB l k v).length<=l.length+1:=by
 unfold cB;split
 .rw[aO];show b8 _
 rw[a5];show aV _
end
variable{v:V}
section
variable{k:Int}
section
variable(hc:aD H a=AA (.dict aJ st))
def QS:at_ AD H (.obj a) (λy c=>n7 .f7 c)=AB:=by
 change ob (aD H a) AD _=AB;rw[hc];rfl
def aBQ(q:Q ((aa aJ<|.int k).getD v) H):k6 W .f7 (.obj a) Q [.int k,v] H:=by
 change ob (aD H a) _ _;rw[hc];show q
end
end
structure Ct(os:List Nat)(s:List (Atom×V)×Nat):Prop where
 at_:∀k:Nat,aa s.1 (.int (k:Int))=vS (os.count k)
 len:s.1.length<=os.length
def Ct.put{os:List Nat}{k:Nat}(c:Ct os (aJ,st)):Ct (os++[k]) (cB aJ (.int (k:Int))<|.int (((os.count k:Nat):Int)+1),st+1):=⟨λj=>by
 rw[sq,List.count_append];by_cases e:j=k
 .subst e;rw[aC rfl,List.count_singleton_self];rfl
 rw[aB λ(q:Atom.int (j:Int)=.int (k:Int))=>e<|nY _ _ q,Ss,aB λq=>e (lB.mp q).symm];show c.at_ j,aA o8<|aA (bj c.len) (a5▸aV _)⟩
section
variable(J:bG W)(ht:t.aX<aM)
include J ht
def aDf(q:∀{aJ st c},(∀k:Nat,aa aJ (.int (k:Int))=vS (cg k t))->Q (.obj<|aK H) (app H [.dict aJ st,c])):Fi W (n+1) 16 [aE t] H Q:=by
 refine J.fe XA rfl ?_;refine mO<|eA (lz rfl) ?_;rw[gQ,len_app];refine Ex.mk (v:=1+t.aX) (Q6 (B_:=t.aX) (I:=Ct) (C:=λs l=>app H [.dict s.1 s.2,.lst (l.map aE).reverse]) (s:=([],0)) (f:=λo=>[AA<|aE t,AA<|.obj (aK H),AA<|.obj (aK H+1),o]) (l:=[])
  rfl rfl rfl eN r8 (λ{os s k l K} i B q=>?_) ⟨λy=>rfl,aV _⟩ (by rw[m9,cT];show HD) (by rw[m9,cT];show dc ht) λ{s o} i=>GW (l:=[]) eN<|q λk=>aDg▸i.at_ k)
 obtain⟨aJ,st⟩:=s;refine aS (QS iF)<|aBQ iF ?_;rw[i.at_ k,aDa];refine vL iF (aA i.len<|dc (iB B ht)) ?_;rw[r7];show q i.put
end
def LZ(q:U.Tm×U.Place):V:=.tup [aE q.1,bY q.2]
def Ke(i:Nat)(G J:AH):Prop:=∀⦃j:Nat⦄ ⦃x:Cell⦄,j≠i->aD G j=AA x->aD J j=AA x
def Ke.refl:Ke i G G:=λy y y h=>h
variable{G1 G2:AH}
def Ke.trans(a:Ke i G G1)(b:Ke i G1 G2):Ke i G G2:=λy y n h=>b n<|a n h
variable{x:Cell}
def Ke.set:Ke i G<|a7 G x i:=λy y n h=>fB h λe=>n e.symm
def Ke.kg{J:AH}(k:Ke (aK G) (app G [x]) J):Kg G J:=λh=>k (λe=>zF h e.symm)<|gM h
def Kg.trans(a:Kg G G1)(b:Kg G1 G2):Kg G G2:=λh=>b<|a h
def Kg.refl:Kg G G:=λh=>h
structure Sw(X:Cx)(G:AH)(d:List bN)(c:Cs)(r:List bN)(i:Nat)(ws:List (U.Tm×U.Place)):Prop where
 s:St X G d c r
 h:aD G i=AA (.lst (ws.map LZ))
variable{d r:List bN}
section
variable(J:bG W)
include J
def aC5{w:Wr}(B:pG X.pl j c=w)(s:St X G d c<|w.1++r)(C:j∈X.ks)(q:∀{d},St X G d w.2 r->Q .none (hM X G d w.2)):Fi W (n+2) 27 [.obj 0,.int j] (hM X G d c) Q:=by
 unfold pG at B;refine J.fe XN rfl ?_;by_cases h:j∈c.seen
 .rw[aC h] at B;refine aN (zK h) ?_;by_cases D:j∈c.loc
  .rw[aC D] at B;subst B;show aS (in1 D)<|eZ J s C (b9 J s q)
  rw[aB D] at B;subst B;show aN (kI D)<|eZ J s C (b9 J s q)
 rw[aB h] at B;subst B;refine aS (zM h) ⟨s.zs,?_⟩;rw[nQ];show eZ J (s.dA C) C<|b9 J (s.dA C) q
end
variable{x w b:Option V}{Q:K2}
section
variable(J:bG W)
include J
def FD{a:Option V}(s:St X G d c<|jc nv++r)(q:∀{d},St X G d c r->aU W (n+1) (dp 2 sX) [AA<|.obj 0,x,w,AA<|.int (0:Nat),a,b] (hM X G d c) Q):aU W (n+1) (dp 1 sX) [AA<|.obj 0,x,w,AA<|.int nv,a,b] (hM X G d c) Q:=by
 unfold jc at s;refine cC 1 ?_;by_cases h:nv=0
 .subst h;show bL<|q s
 rw[aB h] at s;show aS (mL.trans<|a6 h)<|b9 J s λs=>bL (q s)
def Uh{u:Wr}(B:kN X.pl t c=u)(C:aR t=AD)(D:cU X.pl t=AD)(v:∀y,t.has y->y∈X.ks)(s:St X G d c<|u.1++r)(q:∀{d},St X G d u.2 r->Q .aQ [AA<|.obj 0,x,w,AA<|.int nv,AA<|aE t,b] (hM X G d u.2)):aU W (n+2) (dp 2 sX) [AA<|.obj 0,x,w,AA<|.int nv,AA<|aE t,b] (hM X G d c) Q:=by
 rcases t with j|⟨b',y⟩;show aC5 J B s (v j rfl) λs2=>q s2
 .subst B;show aN (cq (t:=.c b' y))<|aN (dB (t:=.c b' y)) (sH J<|b9 J s λs2=>q s2)
 show nomatch C;show nomatch C
def aCh:∀{D nv w G d c ws} {x a b:Option V},b5 X.pl D nv c=w->Sw X G d c (w.1++r) i ws->(∀t∈D,∀y,t.has y->y∈X.ks)->ws.length+D.length<=aM->(∀{L d a b} {nv:Nat},Ke i G L->Sw X L d w.2.1 (jc nv++r) i (ws++w.2.2)->Q .aQ [AA<|.obj 0,x,AA<|.obj (i+10),AA<|.int nv,a,b] (hM X L d w.2.1))->
  d5 4 (aU W (n+2) sX) (D.map aE) [AA<|.obj 0,x,AA<|.obj (i+10),AA<|.int nv,a,b] (hM X G d c) Q:=by
 intro D
 induction D with
 |nil=>show λ{nv w G d c ws} u u u hw s v z q=>by subst hw;show q .refl ((fJ ws).symm▸s)|cons t D T=>
  intro nv w G d c ws x a b hw s v z q;have C:=λt h=>v t<|Du _ h;rcases hs:aR t with _|_
  .have z':=eT z;rcases hv:cU X.pl t with _|_
   .rw[yu hs hv] at hw;subst hw;refine e5 λK k=>cC 1 ?_;have M:∀{d},St X G d c ((kN X.pl t c).1++((b5 X.pl D 0 (kN X.pl t c).2).1++r))->aU W (n+2) (dp 2 sX) [AA<|.obj 0,x,AA<|.obj (i+10),AA<|.int 0,AA<|aE t,b] (hM X G d c) (i6 K Q):=λB=>Uh J rfl hs hv (v _ h_) B λs2=>k<|T rfl ⟨s2,s.h⟩ C z' q;rcases t with j|⟨b',y⟩;show pw J s.s (v _ h_ j rfl)<|aN hv (bL<|FD J s.s.uY λB=>M B);show aN (cq (t:=.c b' y))<|bL (FD J s.s.uY λB=>M B);show nomatch hs;show nomatch hs
   rw[yv hs hv] at hw;rcases t with j|_;show e5 λK k=>pw J s.s (v _ h_ j rfl)<|aS hv (k<|T hw s C z' q)
   all_goals show(aI hv).elim
  rw[yw hs] at hw;subst hw;refine e5 λK k=>cC 1<|dQ (aN (RH hs)<|bL (FD J s.s.a2 λB=>?_));refine dQ<|aN (RH hs) (dQ<|aS (dB.trans hs) (tC J<|b9 J B.bh λs2=>?_));refine aS (hY s.h)<|fP s.h (by rw[aO];show b6 (ri<|Nat.zero_lt_succ _) z) (k ?_)
  show T (ws:=ws++[(t,tP c.nt)]) rfl ⟨⟨s2.o.set s.h,s2.k,s2.e⟩,bw▸cf s.h⟩ C (by rw[a5,dX];show z) λE s=>q (Ke.set.trans E) (by rw[bp] at s;show s)
def aCf{w D ws}(M:b5 X.pl D 0 c=w)(s:Sw X G d c (w.1++r) i ws)(v:∀t∈D,∀y,t.has y->y∈X.ks)(z:ws.length+D.length<=aM){Q:K1}(q:∀{T d},Ke i G T->Sw X T d w.2.1 r i (ws++w.2.2)->Q .none (hM X T d w.2.1)):Fi W (n+3) 26 [.obj 0,.tup<|D.map aE,.obj<|i+10] (hM X G d c) Q:=by
 refine J.fe XM rfl ?_;refine aCh J M s v z λ{T d a b nv} L s=>?_;have B:=s.s;unfold jc at B;by_cases C:nv=0
 .rw[aC C] at B;show aN (mL.trans<|bE λz=>z C)<|q L ⟨B,s.h⟩
 rw[aB C] at B;show aS (mL.trans<|a6 C)<|b9 J B λs2=>q L ⟨s2,s.h⟩
end
variable{w b:Nat}
def budget{s t x r:Nat}(h:w+2*(s+r)<=m)(D:t+1=s)(J:a<=2)(C:x<=t)(B:b<=a):w+a<=m/\w+b+2*(r+x)<=m:=by
 subst D;have e:w+2+2*(r+t)<=m:=aA (bJ<|by rw[dX t 1 r,w0 2 (t+r) 1,bQ t r,bH w,bQ 2]) h
 show⟨aA (b7 J w)<|aA (aY _ _) e,aA (bW (b7 (aA B J) w)<|dY 2 (b7 C r)) e⟩
structure xA(X:Cx)(f w:Nat)(pend:List (U.Tm×U.Place)):Prop where
 s:∀q∈pend,aR q.1=AB
 v:∀q∈pend,∀x,q.1.has x->x∈X.ks
 z:w+2*gb pend<=aM
 f:gb pend<=f
def KO:(af t).length<=2:=by rcases t with _|_<;>first|show bK _|show aV _|show b8 _
variable{p:U.Place}
def xA.next{f:Nat}{r:List<|U.Tm×U.Place}(q:xA X (f+1) w<|(t,p)::r):w+(af t).length<=aM/\xA X f (w+(b5 X.pl (af t) 0 c).2.2.length) (r++(b5 X.pl (af t) 0 c).2.2):=by
 have B:=Cy<|q.s _ h_;have J:=DE (Z:=X.pl) (D:=af t) (n:=0) (c:=c);obtain⟨b1,b2⟩:=budget (q.z) B KO J.sz J.len;show⟨b1,λx m=>(nA.mp m).elim (λm=>q.s x<|.tail _ m)<|J.s x,λx m y h=>(nA.mp m).elim (λm=>q.v x (.tail _ m) y h) λm=>q.v _ h_ y<|iG (J.mem x m) h,Cw▸b2,Cw▸gN (aA (show gb r+gb (b5 X.pl (af t) 0 c).2.2+1<=t.aX+gb r by rw[bQ t.aX,bH,<-B];show b7 (bj J.sz) _) q.f)⟩
variable{w:Wr}
section
variable(J:bG W)
include J
def aCm:∀{f w B G d c C ws} {x y a b:Option V},jE X.pl f B c=w->Sw X G d c (w.1++r) i ws->ws.drop C=B->xA X f ws.length B->(∀{F D d},Ke i G D->St X D d w.2 r->Q .aQ F (hM X D d w.2))->gG (bT W (n+3) GC) (aU W (n+3) yN) (f+1) [AA<|.obj 0,x,y,AA<|.obj (i+10),AA<|.int C,a,b] (hM X G d c) Q:=by
 have E:∀{f w G d c C ws} {x y a b:Option V},(([],c):Wr)=w->Sw X G d c (w.1++r) i ws->ws.drop C=[]->(∀{F D d},Ke i G D->St X D d w.2 r->Q .aQ F (hM X D d w.2))->gG (bT W (n+3) GC) (aU W (n+3) yN) (f+1) [AA<|.obj 0,x,y,AA<|.obj (i+10),AA<|.int C,a,b] (hM X G d c) Q:=λhw s T q=>by
  subst hw;refine iI s.h ?_;show aN (by rw[aO,vM];show bE<|Nat.not_lt.mpr (List.drop_eq_nil_iff.mp T))<|q .refl s.s
 intro f
 induction f with
 |zero=>
  intro w B G d c C ws x y a b hw s T L q;rcases B with _|⟨t,_⟩;show E hw s T q;show absurd (aA (U.Tm.kZ t.1)<|aA (aY _ _) L.f)<|jy 0
 |succ f I=>
  intro w B G d c C ws x y a b hw s T L q;rcases B with _|⟨A,rs⟩;show E hw s T q;obtain⟨t,rg⟩:=A;subst hw;have hs:=L.s _ h_;obtain⟨k,j,N⟩:=LQ T;obtain⟨b1,b2⟩:=L.next;refine ki λK S=>?_;refine iI s.h<|aS (by rw[aO,vM];show a6 j) (cC 3<|hJ s.h (pO k) (tX hs ?_))
  have R:decide (((U.fnOf t):Int)=0)=decide (U.fnOf t=0):=decide_eq_decide.mpr Sh;have O:∀{d},St X G d c (((b5 X.pl (af t) 0 c).1++(jE X.pl f (rs++(b5 X.pl (af t) 0 c).2.2) (b5 X.pl (af t) 0 c).2.1).1)++r)->aU W (n+3) (dp 3 yN) [AA<|.obj 0,x,y,AA<|.obj (i+10),AA<|.int ((C+1):Int),AA<|aE t,AA<|bY rg] (hM X G d c) (i6 K Q):=λs'=>
   Hv hs<|aCf J rfl ⟨s'.a2,s.h⟩ (λu m x h=>L.v _ h_ x<|iG m h) b1 λP s2=>S (I rfl s2 N (a5▸b2) λZ=>q<|P.trans Z)
  have M:=s.s;unfold jE lE at M;by_cases Y:U.fnOf t=0
  .rw[aC Y] at M;show aS (R.trans<|a6 Y)<|b9 J M λs=>bL (O s)
  rw[aB Y] at M;show aN (R.trans<|bE Y)<|tX hs (b9 J M λs=>bL<|O s)
variable{Q:K1}
def aCl(D:kO X.pl t p c=w)(s:St X G d c<|w.1++r)(T:aR t=AB)(v:∀x,t.has x->x∈X.ks)(z:1+2*t.aX<=aM)(q:∀{B d},Kg G B->St X B d w.2 r->Q .none (hM X B d w.2)):Fi W (n+4) 25 [.obj 0,aE t,bY p] (hM X G d c) Q:=by
 refine J.fe XJ rfl ?_;refine eA (lz rfl)<|Ex.mk (v:=t.aX+1) ?_;show aCm J (G:=app G [.lst<|[(t,p)].map LZ]) D ⟨⟨s.o.app,s.k,s.e⟩,cZ⟩ rfl ⟨λq m=>(JK.mp m)▸T,λq m=>(JK.mp m)▸v,z,aV _⟩ λC s=>q C.kg s
end
section
variable{k:Nat}
def St.fresh(s:St X G d c r):St X G d (bD X.pl k c).2 r:=by
 unfold bD;split
 show s.bh;show s
end
variable{o:Nat}{Q:K1}
section
variable(J:bG W){k:Nat}
include J
def xw(s:St X G d c r)(B:k∈X.ks)(q:Q (bY (bD X.pl k c).1)<|hM X G d (bD X.pl k c).2):Fi W (n+2) 37 [.obj 0,.int k] (hM X G d c) Q:=by
 refine J.fe XX rfl<|pP J s B ?_;unfold bD at q;by_cases C:X.pl.perm k=AB
 .rw[aC C] at q;show aS C<|tC J q
 rw[aB C] at q;show aN (Bool.eq_false_iff.mpr C) q
def z9(D:U.settle X.pl k p c=w)(s:St X G d c<|w.1++r)(B:k∈X.ks)(q:∀{d},St X G d w.2 r->Q .none (hM X G d w.2)):Fi W (n+2) 38 [.obj 0,.int k,bY p] (hM X G d c) Q:=by
 refine J.fe XY rfl ⟨s.zs,?_⟩;rw[nQ];refine pP J (s.dA B) B ?_;unfold U.settle at D;by_cases C:X.pl.perm k=AB
 .rw[aC C] at D;subst D;show aS C<|eZ J (s.dA B) B (b9 J (s.dA B) q)
 rw[aB C] at D;subst D;show aN (Bool.eq_false_iff.mpr C)<|q (s.dA B)
def slot_fn(s:St X G d c<|s6 X.pl k p c::r)(B:k∈X.ks)(q:∀{d},St X G d c r->Q .none (hM X G d c)):Fi W (n+2) 40 [.obj 0,.int k,bY p] (hM X G d c) Q:=by
 refine J.fe Xa rfl ?_;unfold s6 at s;by_cases h:k∈c.loc
 .rw[aC h] at s;show aS (in1 h)<|eZ J s B (b9 J s q)
 rw[aB h] at s;show aN (kI h)<|eZ J s B (b9 J s q)
def Hd{w:List bN×U.Place×Cs}(B:cV X.pl k c=w)(s:St X G d c<|w.1++r)(D:k∈X.ks)(q:∀{d},St X G d w.2.2 r->Q (bY w.2.1) (hM X G d w.2.2)):Fi W (n+3) 39 [.obj 0,.int k] (hM X G d c) Q:=by
 refine J.fe XZ rfl<|pP J s D ?_;unfold cV at B;by_cases C:X.pl.perm k=AB
 .rw[aC C] at B;subst B;show aN (aF not C)<|tC J (slot_fn J s.bh D q)
 rw[aB C] at B;subst B;show aS (aF not<|Bool.eq_false_iff.mpr C)<|q s
def yH(B:c9 X.pl k c=w)(s:St X G d c<|w.1++r)(C:k∈X.ks)(q:∀{d},St X G d w.2 r->Q .none (hM X G d w.2)):Fi W (n+3) 35 [.obj 0,.int k] (hM X G d c) Q:=by
 refine J.fe XU rfl<|pw J s C ?_;unfold c9 at B;by_cases hv:X.pl.void k=AB
 .rw[aC hv] at B;subst B;show aS hv<|q s
 rw[aB hv] at B;subst B;show aN (Bool.eq_false_iff.mpr hv)<|xw J s C (b9 J s.fresh λs=>z9 J rfl s C q)
def EI(D:jS X.pl k o c=w)(s:St X G d c<|w.1++r)(B:k∈X.ks)(T:o∈X.ks)(q:∀{d},St X G d w.2 r->Q .none (hM X G d w.2)):Fi W (n+3) 36 [.obj 0,.int k,.int o] (hM X G d c) Q:=by
 refine J.fe XW rfl ?_;refine cC 2<|pw J s B ?_;unfold jS at D;by_cases hv:X.pl.void k=AB
 .rw[aC hv] at D;subst D;show aS hv<|q s
 rw[aB hv] at D;refine aN (Bool.eq_false_iff.mpr hv)<|pP J s T ?_;by_cases C:X.pl.perm o=AB
 .rw[aC C] at D;subst D;refine aS C<|xw J s B (slot_fn J s.fresh T λs=>z9 J rfl s B q)
 rw[aB C] at D;subst D;refine aN (Bool.eq_false_iff.mpr C)<|bL (cC 1 ?_);have L:∀{c'},nG k o c=c'.dA k->St X G d c' ([if X.pl.perm k=AB then .getVar (U.place X.pl k) (U.place X.pl o) else .jI (U.place X.pl o) (U.place X.pl k)]++r)->aU W (n+2) (dp 3 ND) [AA<|.obj 0,AA<|.int k,AA<|.int o,AE] (hM X G d c') (gJ Q):=λe s=>by
  rw[e] at q;refine⟨s.zs,?_⟩;rw[nQ];refine pP J (s.dA B) B ?_;by_cases C:X.pl.perm k=AB
  .rw[aC C] at s;show aS C<|eZ J (s.dA B) B (eZ J (s.dA B) T<|b9 J (s.dA B) q)
  rw[aB C] at s;show aN (Bool.eq_false_iff.mpr C)<|eZ J (s.dA B) T (eZ J (s.dA B) B<|b9 J (s.dA B) q)
 by_cases hl:o∈c.loc
 .refine aS (in1 hl) ⟨s.zl,?_⟩;rw[nQ];show bL<|L (by unfold nG;rw[aC hl]) (s.lI B)
 show aN (kI hl)<|bL (L (by unfold nG;rw[aB hl]) s)
end
section
variable(J:bG W){k:Nat}
theorem xj:decide ((a:Int)=(b:Int))=decide (a=b):=decide_eq_decide.mpr Int.ofNat_inj
include J
def aH3(B:jo X.pl j k c=w)(s:St X G d c<|w.1++r)(L:j∈X.ks)(T:k∈X.ks)(q:∀{d},St X G d w.2 r->Q .none (hM X G d w.2)):Fi W (n+4) 34 [.obj 0,.int j,.int k] (hM X G d c) Q:=by
 refine J.fe XS rfl ?_;unfold jo at B;by_cases M:j∈c.seen
 .rw[aC M] at B;refine aS (in1 M) ?_;by_cases D:k∈c.seen
  .rw[aC D] at B;refine aS (in1 D) ?_;by_cases e:j=k
   .rw[aC e] at B;subst B;show aS (xj.trans<|a6 e)<|q s
   rw[aB e] at B;refine aN (xj.trans<|bE e)<|pP J s L ?_;by_cases C:X.pl.perm j=AB
   .rw[aC C] at B;subst B;show aS C<|eZ J s L (Hd J rfl s.a2 T λs=>b9 J s λs=>q s)
   rw[aB C] at B;subst B;show aN (Bool.eq_false_iff.mpr C)<|eZ J s T (eZ J s L<|b9 J s λs=>q s)
  rw[aB D] at B;show aN (kI D)<|aS (in1 M) (EI J B s T L q)
 rw[aB M] at B;refine aN (kI M)<|aN (kI M) ?_;by_cases D:k∈c.seen
 .rw[aC D] at B;show aS (in1 D)<|EI J B s L T q
 rw[aB D] at B;refine aN (kI D) ?_;by_cases e:j=k
 .rw[aC e] at B;show yH J B s T λs=>aN (aF not<|xj.trans (a6 e))<|q s
 rw[aB e] at B;subst B;refine yH J rfl s.a2 T λs=>aS (aF not<|xj.trans (bE e)) ?_;by_cases m:k∈(c9 X.pl k c).2.seen
 .rw[aC m] at s q;show aS (in1 m)<|EI J rfl s L T q
 rw[aB m] at s q;show aN (kI m)<|yH J rfl s L q
end
def Cm(h:aR t=AD):t.aX=1:=by rcases t with _|_<;>first|rfl|show(aI h.symm).elim
def aF0(h:xq t):t.aX<=3:=by
 rcases t with _|_|⟨f,x⟩|⟨f,x,y⟩
 .show(by decide:1<=3)
 .show(by decide:1<=3)
 .rw[Qu,Cm<|h x h_];decide
 rw[Qv,Cm<|h x h_,Cm<|h y (.tail _ h_)];decide
def Qw(h:T2 t):t.aX<=7:=by
 have g:∀x∈af t,x.aX<=3:=λx m=>by
  rcases hs:aR x with _|_
  .rw[Cm hs];decide
  show aF0<|h x m hs
 rcases t with _|_|⟨f,x⟩|⟨f,x,y⟩
 .show(by decide:1<=7)
 .show(by decide:1<=7)
 .rw[Qu];show aA (bj<|g x h_) ⋯
 rw[Qv];show bj<|bW (g x h_) (g y<|.tail _ h_)
structure fZ(X:Cx)(t:U.Tm):Prop where
 v:∀y,t.has y->y∈X.ks
 d:T2 t
 wt:t.WT
section
variable{k:Nat}
def aBR{l:List Nat}(J:aD H a=AA (.lst<|ah l))(q:Q (.bool<|decide (k∈l)) H):iO W .In (.int k) (.obj a) H Q:=by
 have e:(cI l).any (· == k)=decide (k∈l):=by rw[<-uw,Sn];congr 1;funext x;show Bool.beq_comm
 change ob (ob (aD H a) AE _) _ _;rw[J];rw[<-e] at q;show⟨qI.ints<|.cell (a9▸J),q⟩
end
section
variable(J:bG W){k:Nat}
include J
def aH2(E:t.bO=AD)(B:mw X.pl k t c=w)(s:St X G d c<|w.1++r)(T:k∈X.ks)(v:fZ X t)(q:∀{D d},Kg G D->St X D d w.2 r->Q .none (hM X D d w.2)):Fi W (n+8) 33 [.obj 0,.int k,aE t] (hM X G d c) Q:=by
 have O:t.aX<=7:=Qw v.d;have P:t.aX<aM:=bZ O<|lz rfl;have S:1+2*t.aX<=aM:=aA (b7 (dY 2 O) 1)<|lz rfl;have I:=cq.trans E;have Z:∀{c' D d L},Kg G D->oK X.pl k t c'=L->St X D d c' (L.1++r)->(∀{G2 d},Kg D G2->St X G2 d L.2 r->Q .none (hM X G2 d L.2))->aU W (n+7) (dp 2 NC) [AA<|.obj 0,AA<|.int k,AA<|aE t,AE] (hM X D d c') (gJ Q):=λ{c' D d L} M B s q=>by
  unfold oK at B;by_cases m:k∈c'.seen
  .rw[aC m] at B;refine aS (in1 m) ?_;rcases hs:aR t with _|_
   .rcases t with _|⟨b,z⟩;show nomatch E
    .subst B;show Hd J rfl s.a2 T λs=>aN (dB (t:=.c b z))<|sH J (b9 J s λs=>q Kg.refl s)
    show nomatch hs;show nomatch hs
   have Y:((cV X.pl k c').1++(kO X.pl t (cV X.pl k c').2.1 (cV X.pl k c').2.2).1,(kO X.pl t (cV X.pl k c').2.1 (cV X.pl k c').2.2).2)=L:=by
    rw[<-B];rcases t with _|_
    .show(aI hs).elim
    .show(aI hs).elim
    all_goals rfl
   subst Y;show Hd J rfl s.a2 T λs=>dQ<|aS (dB.trans hs) (aCl J rfl s hs v.v S λC s=>q C s)
  rw[aB m] at B;refine aN (kI m)<|pw J s T ?_;rcases hs:aR t with _|_
  .rcases t with _|⟨b,z⟩;show nomatch E
   .have B:(if X.pl.void k=AB then([],c') else(.kU b z (bD X.pl k c').1::(U.settle X.pl k (bD X.pl k c').1 (bD X.pl k c').2).1,(U.settle X.pl k (bD X.pl k c').1 (bD X.pl k c').2).2):Wr)=L:=B
    by_cases hv:X.pl.void k=AB
    .rw[aC hv] at B;subst B;show aS hv<|aN (dB (t:=.c b z)) (q Kg.refl s)
    rw[aB hv] at B;subst B;show aN (Bool.eq_false_iff.mpr hv)<|xw J s T (aN (dB (t:=.c b z))<|sH J (b9 J s.fresh λs=>z9 J rfl s T λs=>q Kg.refl s))
   show nomatch hs;show nomatch hs
  have e:rK X.pl k t c'=if X.pl.void k=AB then dw X.pl t (tP c'.nt) c'.bh else((dw X.pl t (bD X.pl k c').1 (bD X.pl k c').2).1++(U.settle X.pl k (bD X.pl k c').1 (dw X.pl t (bD X.pl k c').1 (bD X.pl k c').2).2).1,(U.settle X.pl k (bD X.pl k c').1 (dw X.pl t (bD X.pl k c').1 (bD X.pl k c').2).2).2):=by
   rcases t with _|_
   .show(aI hs).elim
   .show(aI hs).elim
   all_goals rfl
  rw[e] at B;by_cases hv:X.pl.void k=AB
  .rw[aC hv] at B;show aS hv<|dQ (aS (dB.trans hs)<|tC J (xJ J hs v.v v.d B s.bh λC s=>q C s))
  rw[aB hv] at B;subst B;show aN (Bool.eq_false_iff.mpr hv)<|xw J s T (dQ<|aS (dB.trans hs) (xJ J hs v.v v.d rfl s.fresh.a2 λC s=>z9 J rfl s T λs=>q C s))
 refine J.fe MJ rfl ?_;refine cC 2<|dQ (aN I ?_);unfold mw at B;by_cases m:k∈c.seen
 .rw[aB λz=>z.1 m] at B;show aN (zK m)<|bL (Z Kg.refl B s q)
 refine aS (zM m) (R1 J P λ{A c2}=>?_);refine aBR (eN (k:=1)) ?_;have R:decide (k∈(cD [] t).2)=t.hasB k:=IW.mpr (by rw[kA,vA];show pB.trans<|vf eL)
 have M:Kg G<|app G [A,.lst<|ah (cD [] t).2,c2]:=λh=>dh h;have s2:St X (app G [A,.lst<|ah (cD [] t).2,c2]) d c<|w.1++r:=⟨⟨λk m=>(s.o.inf k m).elim λi z=>z.elim λfl z=>⟨i,fl,z.key,M z.at_,z.kind,z.slot,z.C8,z.last⟩,s.o.ex,s.o.kl,s.o.zR⟩,s.k,s.e⟩;by_cases hb:t.hasB k=AB
 .rw[aC ⟨m,hb⟩] at B;subst B;show aS (R.trans hb)<|yH J rfl s2.a2 T λs=>bL (Z M rfl s λC s=>q (M.trans C) s)
 rw[aB λz=>hb z.2] at B;show aN (R.trans<|Bool.eq_false_iff.mpr hb)<|bL (Z M B s2 λC s=>q (M.trans C) s)
end
def pQ(ps:List<|U.Tm×U.Tm):List<|U.Tm×U.Tm:=AO [] (λp y J=>cN p.1 p.2++J) ps
def oH(ps:List<|U.Tm×U.Tm):Nat:=AO 0 (λp y J=>p.1.aX+J) ps
def aGe:ps.length<=oH ps:=by
 induction ps with
 |nil=>show aV _|cons p ps J=>show aA (bj J)<|aA (bJ<|bQ _ 1) (bX p.1.kZ _)
def nL{x:U.Tm}(h:fZ X t)(m:x∈af t):fZ X x:=⟨λy q=>h.v y<|iG m q,λu J hs=>absurd hs (by
 cases hx:aR x with
 |true=>rw[h.d x m hx u J];show aI|false=>
  rcases x with _|_;show aW J;show aW J;show nomatch hx;show nomatch hx),SG h.wt x m⟩
variable{a b:U.Tm}
def ym{P:List<|U.Tm×U.Tm}{J:Wr}(B:fH X.pl (cN a b++P) c=w)(s:St X G d c<|w.1++r)(e:cN a b=[(a,b)])(D:jK X.pl (a,b) c=J):St X G d c (J.1++((fH X.pl P J.2).1++r))/\w.2=(fH X.pl P J.2).2:=by
 have C:fH X.pl ((a,b)::P) c=w:=by rw[<-B,e];rfl
 subst D C;show⟨s.a2,rfl⟩
def M7(h:t.bO=AB):∃j,t=.v j:=by
 rcases t with j|_
 .show⟨j,rfl⟩
 all_goals show(aI h).elim
def nV(h:t.bO=AD):¬t.bO=AB:=λz=>aI<|h.symm.trans z
variable{o6:Option V}
section
variable(J:bG W){k:Nat}
include J
def Ry(C:C7 X.pl k t c=w)(s:St X G d c<|w.1++r)(D:k∈X.ks)(v:fZ X t)(q:∀{B d},Kg G B->St X B d w.2 r->Q .none (hM X B d w.2)):Fi W (n+8) 33 [.obj 0,.int k,aE t] (hM X G d c) Q:=by
 rcases hv:t.bO with _|_
 .show aH2 J hv (by
  rcases t with _|_;show nomatch hv
  all_goals show C) s D v q
 rcases t with j|_
 .refine J.fe MJ rfl ?_;show aH3 J C s D (v.v j rfl) λs=>q Kg.refl s
 all_goals show(aI hv).elim
def aHf{P:List<|U.Tm×U.Tm}{Q:List (Option V)->AH->Prop}(T:a.bO=AD)(D:b.bO=AD)(C:fH X.pl (cN a b++P) c=w)(s:St X G d c<|w.1++r)(q:∀{c' B d} {o4 o5 o6:Option V},Kg G B->w.2=(fH X.pl P c').2->St X B d c' ((fH X.pl P c').1++r)->Q [AA<|.obj 0,x1,x2,AA<|.obj (i+10),o4,o5,o6] (hM X B d c'))(e:cN a b=[(a,b)])(ne:a≠b){o4 o5:Option V}:Fi W (n+9) 19 [.obj 0,.tup [.str [102,97,105,108]]] (hM X G d c) λz=>Q [AA<|.obj 0,x1,x2,AA<|.obj (i+10),o4,o5,o6]:=
 have y:=ym C s e<|(aB<|nV T).trans ((aB<|nV D).trans<|aB ne)
 b9 J y.1 λs=>q Kg.refl y.2 s
def aDx{Q:K2}{l:List<|U.Tm×U.Tm}{z:Nat}(E:fZ X a)(M:fZ X b)(v:∀p∈l,fZ X p.1/\fZ X p.2)(T:a.aX+oH l<=z+1)(g:z<=100)(C:aD G i=AA (.lst (l.map iT).reverse))(s:St X G d c<|w.1++r)(Z:fH X.pl (cN a b++pQ l) c=w)
  (q:∀{ps c' L d P} {o4 o5 o6:Option V},(∀p∈ps,fZ X p.1/\fZ X p.2)->oH ps<=z->fH X.pl (pQ ps) c'=P->w.2=P.2->aD L i=AA (.lst (ps.map iT).reverse)->Ke i G L->St X L d c' (P.1++r)->Q .aQ [AA<|.obj 0,x1,x2,AA<|.obj (i+10),o4,o5,o6] (hM X L d c')):aU W (n+9) (dp 1 Fw) [AA<|.obj 0,x1,x2,AA<|.obj (i+10),AA<|aE a,AA<|aE b,o6] (hM X G d c) Q:=by
 have I:oH l<=z:=gN<|aA (aA (bJ<|bQ _ 1)<|bX a.kZ _) T;have A:∀{c' L d} {o4 o5 o6:Option V},Kg G L->w.2=(fH X.pl (pQ l) c').2->St X L d c' ((fH X.pl (pQ l) c').1++r)->Q .aQ [AA<|.obj 0,x1,x2,AA<|.obj (i+10),o4,o5,o6] (hM X L d c'):=λY e s=>q v I rfl e (Y C) (λu u u h=>Y h) s;have K:∀{ps:List<|U.Tm×U.Tm},oH ps<=z->ps.length<aM:=λh=>bZ (aA aGe<|aA h g)<|lz rfl;rcases ha:a.bO with _|_
 .refine dQ<|aS (aF not<|cq.trans ha) ?_;rcases hb:b.bO with _|_
  .refine dQ<|aN (cq.trans hb) (dQ<|aN (cq.trans ha) ?_);have B:=λe (o4 o5 o6:Option V) ne=>aHf J (n:=n) ha hb Z s A e ne (Q:=Q .aQ) (o4:=o4) (o5:=o5) (o6:=o6);rcases a with _|⟨k,z⟩|⟨R,x⟩|⟨R,x,x2⟩;show nomatch ha
   .refine aN (dB (t:=.c k z))<|aN (dB (t:=.c k z)) ?_;rcases b with _|⟨N,z'⟩;show nomatch hb
    .refine aN (dB (t:=.c N z'))<|OH ?_;by_cases e:k=N/\z=z'
     .have y:=ym Z s rfl<|(aB<|nV ha).trans ((aB<|nV hb).trans<|aC (e.1▸e.2▸rfl));show aN (aF not<|a6 e)<|A Kg.refl y.2 y.1
     show aS (aF not<|bE e)<|B rfl _ _ _ λq=>e (by injection q with S D;show⟨S,D⟩)
    all_goals show B rfl _ _ _ nofun
   .rcases b with _|⟨k,z⟩|⟨g',y⟩|⟨g',y,O⟩;show nomatch hb;show aN (dB (t:=.c k z)) (B rfl _ _ _ nofun)
    .by_cases e:R=g'
     .have T:=gN<|aA (bJ (w5 _ _).symm) T;refine aS (a6<|aF _ e) (Ex.mk (v:=2)<|aS (hY C) (fP C (by rw[oT,aO];show K I) ?_))
      show q (ps:=(x,y)::l) (λp m=>(JJ.mp m).elim (λe=>e▸⟨nL E h_,nL M h_⟩)<|v p) T (by rw[<-Z];change _=fH X.pl ((if R=g' then cN x y else _)++pQ l) c;rw[aC e];rfl) rfl (da▸jw▸cf C) .set ⟨s.o.set C,s.k,s.e⟩
     show aN (bE λz=>e<|d6 z)<|B (aB e) _ _ _ λq=>e (by injection q)
    show aN (bE λe=>by have D:=M.wt.1;rw[<-d6 e,E.wt.1] at D;show absurd D ⋯) (B rfl _ _ _ nofun)
   rcases b with _|⟨k,z⟩|⟨g',y⟩|⟨g',y,O⟩;show nomatch hb;show aN (dB (t:=.c k z)) (B rfl _ _ _ nofun);show aN (bE λe=>by have S:=E.wt.1;rw[d6 e,M.wt.1] at S;show absurd S ⋯) (B rfl _ _ _ nofun)
   by_cases e:R=g'
   .have T:oH ((x,y)::(x2,O)::l)<=z:=gN (aA (bJ ((dX (x.aX+x2.aX) 1<|oH l).trans (aF (·+1)<|bH x.aX x2.aX (oH l))).symm) T);have hl:(l.map iT).reverse.length+1<aM:=by rw[oT,aO];show b6 (c5 _) (dc<|K T)
    have D:=cf (y:=.lst<|(l.map iT).reverse++[iT (x2,O)]) C;refine aS (a6<|aF _ e)<|Ex.mk (v:=3) (aS (hY C)<|fP C (D2 hl) (aS (hY D)<|fP D (a5▸hl) ?_));show q (λp m=>(JJ.mp m).elim (λe=>e▸⟨nL E h_,nL M h_⟩) λm=>(JJ.mp m).elim (λe=>e▸⟨nL E<|.tail _ h_,nL M<|.tail _ h_⟩)<|v p) T (by rw[<-Z];change fH X.pl (cN x y++(cN x2 O++pQ l)) c=fH X.pl ((if R=g' then cN x y++cN x2 O else _)++pQ l) c;rw[aC e,bp]) rfl (by rw[da,da,jw,jw];show cf D) (.trans .set .set) ⟨(s.o.set C).set D,s.k,s.e⟩
   show aN (bE λz=>e<|d6 z)<|B (aB e) _ _ _ λq=>e (by injection q)
  obtain⟨k,rfl⟩:=M7 hb;have y:=ym Z s (by rcases a with _|_<;>rfl)<|(aB<|nV ha).trans (aC rfl)
  show Ry J rfl y.1 (M.v k rfl) E λY s=>A Y y.2 s
 obtain⟨j,rfl⟩:=M7 ha;have y:=ym Z s rfl<|aC rfl;show Ry J rfl y.1 (E.v j rfl) M λY s=>A Y y.2 s
def aDz{Q:K2}:∀{f ps G d c w} {x1 x2 o4 o5 o6:Option V},fH X.pl (pQ ps) c=w->aD G i=AA (.lst (ps.map iT).reverse)->St X G d c (w.1++r)->(∀p∈ps,fZ X p.1/\fZ X p.2)->oH ps<=f->f<=100->(∀{F T d},Ke i G T->St X T d w.2 r->Q .aQ F (hM X T d w.2))->gG (bT W (n+9) Ni) (aU W (n+9) Fw) (f+1) [AA<|.obj 0,x1,x2,AA<|.obj (i+10),o4,o5,o6] (hM X G d c) Q:=by
 intro f
 induction f with
 |zero=>
  intro ps G d c w x1 x2 o4 o5 o6 hw B s v z C q;rcases ps with _|⟨p,ps⟩
  .subst hw;show iI B<|q .refl s
  show absurd (aA p.1.kZ<|aA (aY _ _) z)<|jy 0
 |succ f E=>
  intro ps G d c w x1 x2 o4 o5 o6 hw B s v hz C q;rcases ps with _|⟨p,l⟩
  .subst hw;show iI B<|q .refl s
  refine ki λK L=>iI B<|aS (mL.trans<|a6 (oT.symm▸Nat.succ_ne_zero _)) (aS (zw B)<|ye B ?_);show aDx J (v _ h_).1 (v _ h_).2 (λp m=>v p<|.tail _ m) hz (eT C) (cf B) ⟨s.o.set B,s.k,s.e⟩ hw λv hz hw e B M s=>L<|E hw B s v hz (eT C) λD s=>e▸q ((Ke.set.trans M).trans D) (e▸s)
def aHy(T:tj X.pl a b c=w)(s:St X G d c<|w.1++r)(B:fZ X a)(D:fZ X b)(q:∀{C d},St X C d w.2 r->Q .none (hM X C d w.2)):Fi W (n+10) 32 [.obj 0,aE a,aE b] (hM X G d c) Q:=by
 refine J.fe XR rfl ?_;refine eA (lz rfl)<|Ex.mk (v:=a.aX+1) ?_;show aDz J (G:=app G [.lst [iT (a,b)]]) (by rw[<-T];change fH X.pl (cN a b++[]) c=_;rw[fJ];rfl) cZ ⟨s.o.app,s.k,s.e⟩ (S6.mpr ⟨B,D⟩) (aV _) (aA (Qw B.d) ⋯) λy s=>q s
end
def wZ(X:Cx):Gl->Prop
 | .call _ as=>∀t∈as,fZ X t| .bi _ as=>∀t∈as,fZ X t| .fE l r=>fZ X l/\fZ X r
section
variable(J:bG W){g:Int}
include J
def aB9{Q:K2}:∀{D L w G d c} {x a b:Option V},jC X.pl g D (L+1) c=w->St X G d c (w.1++r)->(∀t∈D,fZ X t)->(∀{F G d},St X G d w.2 r->Q .aQ F (hM X G d w.2))->d5 4 (aU W (n+6) NH) (D.map aE) [AA<|.obj 0,x,AA<|.int g,AA<|.int L,a,b] (hM X G d c) Q:=by
 intro D
 induction D with
 |nil=>show λhw s v q=>by subst hw;show q s|cons t D T=>
  intro L w G d c x a b hw s v q;have B:=v t h_;have C:=λt h=>v t<|Du _ h;subst hw;rcases t with j|⟨b,y⟩|⟨f,y⟩|⟨f,y,z⟩;show e5 λK k=>aCB J rfl s.a2 (B.v j rfl) λs=>k<|T rfl s C q;show e5 λK k=>aN (cq (t:=.c b y))<|aN (dB (t:=.c b y)) (sH J<|b9 J s λs=>k (T rfl s C q));show e5 λK k=>xJ J rfl B.v B.d rfl s.a2 λM s=>k<|T rfl s C q;show e5 λK k=>xJ J rfl B.v B.d rfl s.a2 λM s=>k<|T rfl s C q
def OW(B:jC X.pl g D 1 c=w)(s:St X G d c<|w.1++r)(v:∀t∈D,fZ X t)(q:∀{G d},St X G d w.2 r->Q .none (hM X G d w.2)):Fi W (n+7) 41 [.obj 0,.tup<|D.map aE,.int g] (hM X G d c) Q:=by
 refine J.fe Xb rfl ?_;show aB9 J B s v λs=>q s
def MX{gl:Gl}(C:aD X.goals i=AA (a8 gl))(B:hG X.pl gl i c=w)(s:St X G d c<|w.1++r)(v:wZ X gl)(q:∀{G d},St X G d w.2 r->Q .none (hM X G d w.2)):Fi W (n+11) 44 [.obj 0,.int i] (hM X G d c) Q:=by
 refine J.fe Xd rfl ?_;refine ba C ?_;rcases gl with ⟨f,as⟩|⟨f,as⟩|⟨l,r⟩;show OW J B s v λs=>q s
 .subst B;show OW J rfl s.a2 v λs=>b9 J s λs=>q s
 show aHy J B s v.1 v.2 λs=>q s
def Yg(B:nU X.pl t p c=w)(s:St X G d c<|w.1++r)(C:aR t=AD)(v:∀x,t.has x->x∈X.ks)(q:∀{d},St X G d w.2 r->Q .none (hM X G d w.2)):Fi W (n+5) 24 [.obj 0,aE t,bY p] (hM X G d c) Q:=by
 refine J.fe XI rfl ?_;rcases t with j|⟨b,y⟩
 .have hj:=v j rfl;unfold nU at B
  dsimp only at B
  refine pw J s hj ?_;by_cases hv:X.pl.void j=AB
  .rw[aC hv] at B;subst B;show aS hv<|q s
  rw[aB hv] at B;refine aN (Bool.eq_false_iff.mpr hv) ?_;by_cases h:j∈c.seen
  .rw[aC h] at B;subst B;show aS (in1 h)<|eZ J s hj (b9 J s λs=>q s)
  rw[aB h] at B;subst B;refine aN (kI h) ⟨s.zs,⟨s.zl,?_⟩⟩;rw[nQ,nQ];show eZ J ((s.dA hj).lI hj) hj<|b9 J ((s.dA hj).lI hj) λs=>q s
 .subst B;show aN (cq (t:=.c b y))<|aN (dB (t:=.c b y)) (sH J<|b9 J s λs=>q s)
 .rcases C with _|_
 rcases C with _|_
def Yj{Q:K2}:∀{D B w d c} {x y z u v:Option V},hH X.pl D (B+1) c=w->St X G d c (w.1++r)->(∀t∈D,aR t=AD/\∀x,t.has x->x∈X.ks)->(∀{d B b},St X G d w.2 r->Q .aQ [AA<|.obj 0,x,y,AA<|.int (B:Nat),b,u,v] (hM X G d w.2))->d5 4 (aU W (n+7) NJ) (D.map aE) [AA<|.obj 0,x,y,AA<|.int B,z,u,v] (hM X G d c) Q:=by
 intro D
 induction D with
 |nil=>show λhw s v q=>by subst hw;show q s|cons t D C=>
  intro B w d c x y z u v hw s h q;subst hw;obtain⟨L,T⟩:=h t h_;show e5 λK k=>Yg J rfl s.a2 L T λs=>k<|C rfl s (λt m=>h t<|.tail _ m) q
end
variable{y:Option V}{N:Nat}{O:List U.Tm}{goals:List Gl}
section
variable(J:bG W){la:Nat->Nat}
include J
def aGi{g:Gl}{z:Option V}(C:aD X.goals i=AA (a8 g))(s:St X G d c<|(if X.ne=AB then[.jW] else[])++[qW g])(q:∀{d},St X G d c []->Q (.obj 1) (hM X G d c)):aU W (n+11) (dp 9 sZ) [AA<|.obj 0,AA<|.obj 4,AA<|.obj 8,x,y,AA<|.int (i:Nat),z] (hM X G d c)<|gJ Q:=by
 have B:∀{d},St X G d c [qW g]->aU W (n+11) (dp 1<|dp 9 sZ) [AA<|.obj 0,AA<|.obj 4,AA<|.obj 8,x,y,AA<|.int i,z] (hM X G d c) (gJ Q):=λs=>ba C (by
  rcases g with ⟨f,as⟩|_;show ba C<|b9 J s q;show b9 J s q;show b9 J s q)
 refine cC 1 ?_;by_cases h:X.ne=AB
 .rw[aC h] at s;show aS h<|b9 J s λs=>bL (B s)
 rw[aB h] at s;show aN (Bool.eq_false_iff.mpr h)<|bL (B s)
def YM(q:∀{G d c},St X G d c []->Q (.obj 1) (hM X G d c)):∀{gs:List Gl} {i c d G} {l:Int},X.goals.drop i=gs.map a8->gs≠[]->l+1=((i+gs.length:Nat):Int)->(∀g∈gs,wZ X g)->(∀j,i<=j->j+1<i+gs.length->aD X.live j=AA (.int (la j:Nat)))->St X G d c (iy X.pl la X.ne gs i c)->gG (bT W (n+11) Nj) (aU W (n+11) NK) gs.length [AA<|.obj 0,AA<|.obj 4,AA<|.obj 8,x,y,AA<|.int l,AA<|.int (i:Nat)] (hM X G d c) (mN (aU W (n+11)<|dp 8 sZ)<|gJ Q):=by
 intro gs
 induction gs with
 |nil=>show λz h=>absurd rfl h|cons g gs E=>
  intro i c d G l hg _ hl v B s;have C:aD X.goals i=AA (a8 g):=by
   have e:X.goals[i]?=(X.goals.drop i)[0]?:=by rw[JE];rfl
   rw[a9,e,hg];rfl
  have hd:X.goals.drop (i+1)=gs.map a8:=by rw[<-I7,hg];rfl
  have T:=v g h_;rcases gs with _|⟨R,gs⟩
  .obtain rfl:l=(i:Int):=by
    have hl:=hl;show(uH l 1).symm.trans ((aF (· -1) hl).trans<|uH i 1)
   refine aN (bE<|DZ _)<|cC 1 (MX J C rfl s T λs=>bL<|aGi J C s q)
  have L:(i:Int)<l:=by
   have:=hl▸Int.ofNat_lt.mpr (JW (Nat.succ_lt_succ<|jQ _) i)
   show Int.lt_of_add_lt_add_right this
  refine ki λK M=>aS (a6 L) (MX J C rfl s T λ{G d} s=>?_);have D:∀{d},St X G d (hG X.pl g i c).2 (iy X.pl la X.ne (R::gs) (i+1) (hG X.pl g i c).2)->K [AA<|.obj 0,AA<|.obj 4,AA<|.obj 8,x,y,AA<|.int l,AA<|.int ((i+1):Int)] (hM X G d (hG X.pl g i c).2) (mN (aU W (n+11)<|dp 8 sZ)<|gJ Q):=λs=>M<|E hd (jv _ _) (by rw[hl,fK,dX,bH]) (λg m=>v g<|.tail _ m) (λj O Z=>B j (eT O) (by rw[fK,<-bH,dX];show Z)) s
  have Y:=B i (aV _)<|JW (Nat.succ_lt_succ<|jQ _) i;refine ba C ?_;rcases g with ⟨f,as⟩|_;show ba C<|ba Y (b9 J s λs=>D s);show D s;show D s
def VJ(M:X.R=jV X.pl N la X.ne X.es O goals)(L:X.args=O.map aE)(D:X.goals=goals.map a8)(C:∀j,j+1<goals.length->aD X.live j=AA (.int (la j:Nat)))(E:goals≠[])(o:X.Ok G)(T:∀t∈O,aR t=AD/\∀x,t.has x->x∈X.ks)(v:∀g∈goals,wZ X g)(q:∀{G c},X.Ok G->Q (.obj 1) (hM X G X.R c)):Fi W (n+12) 45 [.obj 0] (hM X G [] ⟨[],[],N⟩) Q:=by
 refine J.fe Xe rfl ?_;have s:St X G [] ⟨[],[],N⟩<|jV X.pl N la X.ne X.es O goals:=⟨o,⟨d7,(λy m=>aW m),d7,λy m=>aW m⟩,M.symm⟩;have B:∀{d a b},St X G d ⟨[],[],N⟩ ((hH X.pl O 1 ⟨[],[],N⟩).1++iy X.pl la X.ne goals 0 (hH X.pl O 1 ⟨[],[],N⟩).2)->aU W (n+11) (dp 3 sZ) [AA<|.obj 0,AA<|.obj 4,AA<|.obj 8,a,b,AE,AE] (hM X G d ⟨[],[],N⟩) (gJ Q):=λs=>by
  refine cC 2 ?_;change d5 4 _ X.args _ _ _;rw[L];refine Yj J rfl s T λs=>bL<|Ex.mk (YM J (λs=>(fJ _).symm.trans s.e▸q s.o) D E ?_ v (λj y h=>C j (by rw[cT] at h;show h)) s)
  rw[D,aO,cT];show Si _ _
 refine cC 3 ?_;unfold jV at s;by_cases h:X.ne=AB
 .rw[aC h] at s;show aS h<|b9 J s λs=>bL (B s)
 rw[aB h] at s;show aN (Bool.eq_false_iff.mpr h)<|bL (B s)
end
section
variable(r:Nat->Nat)
mutual
noncomputable def mv:V->V
 | .none=>.none| .bool b=>.bool b| .int i=>.int i| .str s=>.str s| .tup l=>.tup (e9 l)| .lst l=>.lst (e9 l)| .obj i=>.obj<|r i
noncomputable def e9:List V->List V
 | []=>[]|x::l=>mv x::e9 l
end
@[reducible] def jF(l:List<|K×V):List<|K×V:=l.map λp=>(p.1,mv r p.2)
def mc(c:Cell):Cell:=Cell.casesOn c (λl=>.lst<|e9 r l) (λl st=>.dict (jF r l) st) (λl st=>.az (jF r l) st) .set<|λc l=>.inst c (jF r l)
theorem qw:∀{l:List V},(e9 r l).length=l.length
 | []=>rfl|_::l=>aF BB<|qw
theorem Gv:∀{l:List Atom},e9 r (l.map dG)=l.map dG
 | []=>rfl| .int _::l=>aF (B6 _) (Gv)| .str _::l=>aF (B6 _)<|Gv
end
variable{r:Nat->Nat}{μ μ1:Mu}{p:AJ×Option AJ}{c:Cell}
section
variable{h:AW}(hr:∀j,μ1.l[j]?=μ.l[r j]?)(hf:∀{a},a∈foot μ1↔a∈foot μ)
include hr hf
mutual
theorem lW:∀(v:V) {x:AF},VR μ1 h v x↔VR μ h (mv r v) x
 | .none=>.rfl| .bool _=>.rfl| .int _=>.rfl| .str _=>.rfl| .tup l=>⟨λJ=>J.casesOn λe C y z q=>⟨e,λm=>C<|hf.mpr m,y,(qw r).symm▸z,(oN l).mp q⟩,λJ=>J.casesOn λe C y z q=>⟨e,λm=>C<|hf.mp m,y,qw r▸z,(oN l).mpr q⟩⟩| .lst l=>⟨λJ=>J.casesOn λe C y z q=>⟨e,λm=>C<|hf.mpr m,y,(qw r).symm▸z,(oN l).mp q⟩,λJ=>J.casesOn λe C y z q=>⟨e,λm=>C<|hf.mp m,y,qw r▸z,(oN l).mpr q⟩⟩| .obj i=>⟨λJ=>J.casesOn λB=>B.casesOn λa b=>⟨⟨hr i▸a,b⟩⟩,λJ=>J.casesOn λB=>B.casesOn λa b=>⟨⟨(hr i).trans a,b⟩⟩⟩
theorem oN:∀(l:List V) {xs:List AF},aT μ1 h l xs↔aT μ h (e9 r l) xs
 | []=>.rfl|x::l=>⟨λJ=>J.casesOn λe p q=>⟨e,(lW x).mp p,(oN l).mp q⟩,λJ=>J.casesOn λe p q=>⟨e,(lW x).mpr p,(oN l).mpr q⟩⟩
end
def Py{l:List<|Atom×V}{J:List<|Atom×AF}:PR μ1 h l J↔PR μ h (jF r l) J:=by
 induction l generalizing J with
 |nil=>show⟨λq=>by rcases q with _|_;show .nil,λq=>by rcases q with _|_;show .nil⟩
 |cons p l B=>show⟨λq=>by cases q with|cons a b=>show .cons ((lW hr hf _).mp a)<|B.mp b,λq=>by cases q with|cons a b=>show .cons ((lW hr hf _).mpr a)<|B.mpr b⟩
def RW{l:List<|List Atom×V}{J:List<|List Atom×AJ×AF}:TR μ1 h l J↔TR μ h (jF r l) J:=by
 induction l generalizing J with
 |nil=>show⟨λq=>by rcases q with _|_;show .nil,λq=>by rcases q with _|_;show .nil⟩
 |cons p l B=>
  have e:mv r (.tup<|p.1.map dG)=.tup (p.1.map dG):=aF V.tup<|Gv r;show⟨λq=>by cases q with|cons a k b=>show .cons ((lW hr hf _).mp a) (e▸(lW hr hf _).mp k)<|B.mp b,λq=>by cases q with|cons a k b=>show .cons ((lW hr hf _).mpr a) ((lW hr hf _).mpr<|e.symm▸k)<|B.mpr b⟩
def ME{P:AR}{l:List<|Nat×V}{es:List AV}:FR P μ1 h l es↔FR P μ h (jF r l) es:=by
 induction l generalizing es with
 |nil=>show⟨λq=>by rcases q with _|_;show .nil,λq=>by cases q;show .nil⟩
 |cons p l J=>
  obtain⟨k,v⟩:=p;show⟨λq=>by cases q with|cons o a b=>show .cons o ((lW hr hf _).mp a)<|J.mp b,λq=>by
   generalize e:jF r ((k,v)::l)=l' at q
   cases q with
   |nil=>cases e|cons o a b=>
    injection e with e1 e2;injection e1 with C B;subst C B e2;show .cons o ((lW hr hf _).mpr a)<|J.mpr b⟩
def LC:CR W μ1 h p c↔CR W μ h p (mc r c):=by
 rcases c with l|⟨l,st⟩|⟨l,st⟩|q|⟨c,l⟩
 .show⟨λJ=>J.casesOn λe z x q=>⟨e,(qw r).symm▸z,x,(oN hr hf l).mp q⟩,λJ=>J.casesOn λe z x q=>⟨e,qw r▸z,x,(oN hr hf l).mpr q⟩⟩
 .show⟨λJ=>J.casesOn λe d q=>⟨e,d,(Py hr hf).mp q⟩,λJ=>J.casesOn λe d q=>⟨e,d,(Py hr hf).mpr q⟩⟩
 .show⟨λJ=>J.casesOn λe d q=>⟨e,d,(RW hr hf).mp q⟩,λJ=>J.casesOn λe d q=>⟨e,d,(RW hr hf).mpr q⟩⟩
 show .rfl;have e:(jF r l).map (·.1)=l.map (·.1):=gm;show⟨λJ=>J.casesOn λq hc hd i f nd=>⟨q,hc,hd,i,(ME hr hf).mp f,e.symm▸nd⟩,λJ=>J.casesOn λq hc hd i f nd=>⟨q,hc,hd,i,(ME hr hf).mpr f,e▸nd⟩⟩
end
section
variable(σ:List Nat)(m:Nat)
def rn(j:Nat):Nat:=(σ[j]?).getD<|m+(j-σ.length)
def nr(i:Nat):Nat:=if i∈σ then σ.idxOf i else i-m+σ.length
def Ip(i:Nat):Prop:=i∈σ\/m<=i
variable{σ m}
def pS(h:σ[j]?=AA i):rn σ m j=i:=by unfold rn;rw[h];rfl
def z5:rn σ m (σ.length+j)=m+j:=by unfold rn;rw[rX<|aY _ _,rh];rfl
variable(hs:∀i∈σ,i<m)
include hs
theorem Qc(h:Ip σ m i):rn σ m (nr σ m i)=i:=by
 unfold nr;by_cases J:i∈σ
 .rw[aC J];show pS<|(cK<|List.idxOf_lt_length_iff.mpr J).trans (aF AA<|p9 _)
 rw[aB J,bQ,z5];show JY<|h.resolve_left J
def G9(J:σ.Nodup):nr σ m (rn σ m j)=j/\Ip σ m (rn σ m j):=by
 unfold nr;rcases Jc j σ.length with h|h
 .rw[pS<|cK h,aC<|m8 h];show⟨(JF (List.idxOf_lt_length_iff.mpr<|m8 h) J).mp<|(cK<|List.idxOf_lt_length_iff.mpr (m8 h)).trans ((aF AA<|p9 _).trans (cK h).symm),.inl<|m8 h⟩
 obtain⟨k,rfl⟩:=D0 h;rw[z5,aB λq=>eU _<|bZ (aY m k) (hs _ q),rh,bQ];show⟨rfl,.inr<|aY _ _⟩
end
structure Bg(σ:List Nat)(H H1 H':AH):Prop where
 len:H'.length+σ.length=H.length+H1.length
 gI:∀{j:Nat} {c:Cell},H1[j]?=AA c->H'[rn σ H.length j]?=AA (mc (rn σ H.length) c)
 out:∀{i:Nat} {c:Cell},i∉σ->H[i]?=AA c->H'[i]?=AA c
def xI(σ:List Nat)(H H1:AH)(i:Nat):Cell:=if i∈σ\/H.length<=i then mc (rn σ H.length) ((H1[nr σ H.length i]?).getD<|.set []) else(H[i]?).getD (.set [])
def sC(σ:List Nat)(H H1:AH):AH:=(Av<|H.length+(H1.length-σ.length)).map<|xI σ H H1
variable{σ:List Nat}{H1:AH}
def KY:(sC σ H H1)[i]?=if i<H.length+(H1.length-σ.length) then AA (xI σ H H1 i) else AE:=by
 unfold sC;by_cases h:i<H.length+(H1.length-σ.length)
 .rw[f3,Dm h,aC h];rfl
 rw[aB h];show rX (by rw[aO,kq];show qF h)
section
variable(hs:∀i∈σ,i<H.length)(nd:σ.Nodup)
def Uq(J:σ.length<=H1.length)(h:H1[j]?=AA c):(sC σ H H1)[rn σ H.length j]?=AA (mc (rn σ H.length) c):=by
 obtain⟨e,i⟩:=G9 hs nd;have hj:=(List.getElem?_eq_some_iff.mp h).1;rw[KY,aC,xI,aC<|show _\/_ from i,e,h]
 rfl;rcases Jc j σ.length with q|q
 .rw[pS<|cK q];show b6 (hs _<|m8 q)<|aY _ _
 obtain⟨k,rfl⟩:=D0 q;rw[z5];show JW (Nat.lt_sub_of_add_lt<|bQ ..▸hj) _
def KZ(J:σ.length<=H1.length):Bg σ H H1<|sC σ H H1:=⟨by
 unfold sC;rw[aO,kq,bH,D8 J],Uq hs nd J,λn h=>by
 have B:=(List.getElem?_eq_some_iff.mp h).1;rw[KY,aC<|b6 B (aY _ _),xI,aB λq=>q.elim n<|Nat.not_le_of_lt B,h];rfl⟩
end
def kH(l:List<|AJ×Option AJ)(i:Nat):AJ×Option AJ:=(l[i]?).getD (0,AE)
def HF(σ:List Nat)(l:List<|AJ×Option AJ):List<|AJ×Option AJ:=((Av l.length).filter λi=>decide<|i∉σ).map<|kH l
variable{l:List (AJ×Option AJ)}
section
variable{new:List (AJ×Option AJ)}(hs:∀i∈σ,i<l.length)
theorem Fb(h:l[i]?=AA p):kH l i=p:=by unfold kH;rw[h];rfl
include hs
def Ek(J:σ.Nodup):(σ.map (kH l)++HF σ l).Perm l:=by
 have p:=(List.perm_ext_iff_of_nodup (JL.mpr ⟨J,Iz _ TQ,λa ha b hb e=>(dK (List.mem_filter.mp hb).2)<|e▸ha⟩) TQ).mpr λa=>
  ⟨λh=>(nA.mp h).elim (λh=>List.mem_range.mpr<|hs a h) λh=>(List.mem_filter.mp h).1,λh=>nA.mpr<|(lb<|a∈σ).imp id λq=>List.mem_filter.mpr ⟨h,a6 q⟩⟩
 have e:(Av l.length).map (kH l)=l:=I9 λi=>by
  rw[f3];by_cases h:i<l.length
  .rw[Dm h,cK h];show aF AA<|Fb (cK h)
  rw[rX<|kq▸qF h,rX<|qF h];rfl
 have p:=p.map<|kH l;rw[e,bw] at p;show p
def xS:(σ.map (kH l)++new)[j]?=(l++new)[rn σ l.length j]?:=by
 rcases Jc j σ.length with h|h
 .have hi:=hs _<|m8 h;rw[pS<|cK h,wj (by rw[aO];show h),wj hi,f3,cK h,cK hi]
  show aF AA<|Fb (cK hi)
 obtain⟨k,rfl⟩:=D0 h;rw[z5,rW (by rw[aO];show h),rW<|aY _ _,aO,rh,rh]
end
def xu{g:List AJ}{c u J:List<|AJ×Option AJ}{st st':Nat->Nat}(p:(c++u).Perm l):(foot ⟨g++u.flatMap adr,c++J,st⟩).Perm<|foot ⟨g,l++J,st'⟩:=by
 change((g++u.flatMap adr)++(c++J).flatMap adr).Perm<|g++(l++J).flatMap adr;rw[bp,uO,uO,<-bp<|u.flatMap adr];have p:=p.flatMap_right adr;rw[uO] at p;show((List.perm_append_comm.trans p).append_right _).append_left _
def Q1:stampOf (mc r c)=stampOf c:=by rcases c with _|_<;>rfl
variable{H1':AH}
section
variable{h:AW}(nd:σ.Nodup)(hl:H1.length=σ.length)(hc:∀{j i:Nat},σ[j]?=AA i->∃c,H1[j]?=AA c/\H[i]?=AA (mc (rn σ H.length) c))
def pI(σ:List Nat)(μ:Mu):Mu:=⟨μ.g++(HF σ μ.l).flatMap adr,σ.map (kH μ.l)++[],λj=>μ.st<|rn σ μ.l.length j⟩
def pH(σ:List Nat)(μ J:Mu)(B:List<|AJ×Option AJ):Mu:=⟨μ.g,μ.l++B,λi=>if i∈σ\/μ.l.length<=i then J.st (nr σ μ.l.length i) else μ.st i⟩
include hc in
theorem FN:∀i∈σ,i<H.length:=λi J=>by
 obtain⟨j,hj⟩:=List.mem_iff_getElem?.mp J;obtain⟨c,_,h⟩:=hc hj;show(List.getElem?_eq_some_iff.mp h).1
include nd hl hc
def Ww(N:bC W μ H h):bC W (pI σ μ) H1 h:=by
 have hs:=λi m=>N.len▸FN hc i m;have J:(foot<|pI σ μ).Perm<|foot ⟨μ.g,μ.l++[],μ.st⟩:=xu<|Ek hs nd;rw[fJ] at J;have hr:∀j,(pI σ μ).l[j]?=μ.l[rn σ μ.l.length j]?:=λj=>(xS hs).trans<|by rw[fJ]
 refine⟨N.base,λa m=>N.fresh a<|J.mem_iff.mp m,J.nodup_iff.mpr N.apart,λa m=>N.alive a<|J.mem_iff.mp (gF _ m),?_,λ{j c} e=>?_⟩
 .change(σ.map _++[]).length=_;rw[fJ,aO,hl]
 have hj:=hl▸(List.getElem?_eq_some_iff.mp e).1;obtain⟨c',T,B⟩:=hc<|cK hj;obtain rfl:=ai<|e.symm.trans T;rw[<-N.len] at B;obtain⟨C,L,st⟩:=N.dT B;have D:=pS (m:=μ.l.length)<|cK hj;show⟨(hr j).trans<|D.symm▸C,(LC hr J.mem_iff).mpr L,λk q=>(aF μ.st D).trans<|st k (Q1.trans q)⟩
theorem Wx{s s':AG}(N:bC W μ H s.heap)(S:cF W (pI σ μ) s H1' μ1 s'){J:List<|AJ×Option AJ}(R:σ.map (kH μ.l)++J=μ1.l)(M:σ.length<=H1'.length):cF W μ s (sC σ H H1') (pH σ μ μ1 J) s'/\(∀j,μ1.l[j]?=(pH σ μ μ1 J).l[rn σ H.length j]?)/\∀{a},a∈foot μ1↔a∈foot (pH σ μ μ1 J):=by
 have T:=FN hc;have hs:=λi m=>N.len▸T i m;have Q:=Ek hs nd;have G:(foot<|pI σ μ).Perm<|foot ⟨μ.g,μ.l++[],μ.st⟩:=xu Q;rw[fJ] at G;have D:(foot μ1).Perm<|foot (pH σ μ μ1 J):=by
  have e:foot μ1=foot ⟨μ.g++(HF σ μ.l).flatMap adr,σ.map (kH μ.l)++J,μ1.st⟩:=by unfold foot;rw[S.E.gs,R];rfl
  rw[e];show xu Q
 have L:∀j,μ1.l[j]?=(pH σ μ μ1 J).l[rn σ H.length j]?:=λj=>R▸N.len▸xS hs;have Y:=KZ T nd M;have K:∀{i p},i∉σ->μ.l[i]?=AA p->∀a∈adr p,a∈(pI σ μ).g:=λ{i p} n C a ha=>gn _<|List.mem_flatMap.mpr ⟨p,List.mem_map.mpr ⟨i,List.mem_filter.mpr ⟨List.mem_range.mpr (List.getElem?_eq_some_iff.mp C).1,a6 n⟩,Fb C⟩,ha⟩;have E:Ext μ s.heap (pH σ μ μ1 J) s'.heap:=⟨rZ _ _,rfl,λa ha=>(S.E.new a<|D.mem_iff.mpr ha).imp G.mem_iff.mp id,λb o e r X=>S.E.keep b o e (λm=>r<|G.mem_iff.mp m) X,λb o e=>((S.E.live b o e).casesOn λZ=>Z.casesOn λx y=>⟨⟨x,λm=>y<|G.mem_iff.mpr m⟩⟩),λi p C=>by
   by_cases B:i∈σ
   .have ej:=Qc hs (.inl B)
    have:=S.E.gE (nr σ μ.l.length i) p<|(xS hs).trans (by rw[fJ,ej];show C)
    rw[show(pI σ μ).st (nr σ μ.l.length i)=μ.st i from aF μ.st ej] at this
    rw[show(pH σ μ μ1 J).st i=μ1.st (nr σ μ.l.length i) from aC<|.inl B]
    show this
   rw[show(pH σ μ μ1 J).st i=μ.st i from aB λq=>q.elim B<|Nat.not_le_of_lt (List.getElem?_eq_some_iff.mp C).1]
   show⟨aV _,λu o e=>S.E.gk _ (K B C _ h_) o e⟩,λa m o e=>S.E.gk a (gF _ m) o e⟩
 refine⟨⟨S.g,S.o,E,S.N.base,λa m=>S.N.fresh a<|D.mem_iff.mpr m,D.nodup_iff.mp S.N.apart,λa m=>S.N.jf a<|S.E.gs▸gF _ m,?_,λ{i c} e=>?_⟩,L,D.mem_iff⟩
 .have h1:=Y.len;have I:=S.N.len;rw[<-R,a5,aO] at I;change(μ.l++J).length=_;rw[a5,N.len];show JX (m:=σ.length)<|by rw[h1,<-I,bH,bQ J.length]
 by_cases B:i∈σ\/H.length<=i
 .have ej:=Qc T (m:=H.length) B;have O:nr σ H.length i<H1'.length:=by
   have d:=(List.getElem?_eq_some_iff.mp e).1;have v:=Y.len;unfold nr;split
   .rename_i q;show b6 (List.idxOf_lt_length_iff.mpr q) M
   rename_i q;have:=B.resolve_left q;show Nat.lt_of_add_lt_add_left (n:=H.length) (by rw[<-bH,JY this,<-v];show Dz d _)
  have P:=cK O;have A:=Y.gI P;rw[ej,e] at A;obtain rfl:=ai A;obtain⟨C,w,st⟩:=S.N.dT P;refine⟨ej▸(L _).symm.trans C,(LC L D.mem_iff).mp w,λk q=>?_⟩;rw[<-N.len] at B;show(aC B).trans<|N.len.symm▸st k (Q1.symm.trans q)
 have hm:i<H.length:=D1 λq=>B<|.inr q;have f:=Y.out (λq=>B<|.inl q)<|cK hm;obtain rfl:=ai<|e.symm.trans f;show(N.dT<|cK hm).kp (E.kp .none) (λp C a ha o q=>S.E.gk a (K (λz=>B<|.inl z) C a ha) o q)<|aB (N.len.symm▸B)
def frame{f:Nat}(q:Fi W n f vs H1 λv H1'=>∀{H'},Bg σ H H1' H'->Q (mv (rn σ H.length) v) H'):Fi W n f (e9 (rn σ H.length) vs) H Q:=by
 rw[sS] at q ⊢;intro a ha A s μ Z R J hv k;have B:=FN hc;have hs:=λi m=>J.N.len▸B i m;have G:(foot<|pI σ μ).Perm<|foot ⟨μ.g,μ.l++[],μ.st⟩:=xu<|Ek hs nd;rw[fJ] at G;refine q ha ⟨J.wk,J.rm,Ww nd hl hc J.N⟩ ((oN (λj=>(xS hs).trans<|by rw[fJ,J.N.len]) G.mem_iff _).mpr hv) λ{v H1'} Y {O s' μ1} S T=>?_
 obtain⟨new,D⟩:=S.E.pre;have D:σ.map (kH μ.l)++new=μ1.l:=by rw[<-D];change _=(σ.map (kH μ.l)++[])++new;rw[fJ]
 have C:σ.length<=H1'.length:=by rw[<-S.N.len,<-D,a5,aO];show aY _ _
 obtain⟨S',L,M⟩:=Wx nd hl hc J.N S D C;show k (Y<|KZ B nd C) S'<|(lW L M v).mp T
end
structure In where
 kd:List Nat
 sl:Nat
 first:List Nat
 dt:Bool
 last:Int
 cnt:Nat
 fc:Nat
 lc:Nat
def f9(k:Nat)(i:In):List<|Nat×V:=[(24535410,.int k),('1',.str i.kd),(6231453556,.int i.sl),('.',.str i.first),(';',.bool i.dt),('M',.int i.last),('f',.int i.cnt),('!',.int i.fc),('&',.int i.lc)]
def bR(A:Nat->Nat):List Nat->List (Atom×V):=gw λk=>.obj<|A k+5
structure Sv(K:List Nat)(I:Nat->In)(A:Nat->Nat)(r:AH):Prop where
 at_:∀{k},k∈K->aD r (A k)=AA (.inst 7 (f9 k (I k)))
 inj:∀{j k},j∈K->k∈K->A j=A k->j=k
 nd:K.Nodup
 lt:∀{k},k∈K->k<60
 mem:∀{k},k∈K↔(I k).cnt≠0
def aDP(c:Cell):Bool:=vC AB c λy y=>AD
def p7(r J:AH):Prop:=∀{i x},aD r i=AA x->aDP x=AB->aD J i=AA x
variable{r:AH}
def p7.trans{B J:AH}(a:p7 r B)(b:p7 B J):p7 r J:=λh n=>b (a h n) n
def up(f:Nat->α)(k:Nat)(x:α):Nat->α:=λj=>if j=k then x else f j
section
variable{f:Nat->α}{k:Nat}{x:α}
def up_eq:up f k x k=x:=aC rfl
def kf(h:j≠k):up f k x j=f j:=aB h
end
variable{K:List Nat}{I:Nat->In}{A:Nat->Nat}{x:In}{a:Nat}
section
variable{k:Nat}(s:Sv K I A r)
theorem oo(h:k∈K):aa (bR A K) (.int (k:Int))=AA (.obj<|A k+5):=by
 induction K with
 |nil=>cases h|cons m l J=>
  by_cases e:m=k
  .subst e;show jj
  show(iH λq=>e<|nY _ _ q).trans<|J ((JJ.mp h).resolve_left λq=>e q.symm)
theorem Vs(h:k∉K):cB (bR A K) (.int (k:Int)) (.obj<|a+5)=bR (up A k a) (K++[k]):=by
 unfold bR;rw[sr<|Option.not_isSome_iff_eq_none.mp (by rw[sL,bE h];nofun)]
 unfold gw;rw[bw];show congr (aF _<|jO λj m=>aF (λn=>(Atom.int j,V.obj<|n+5)) (kf λe:j=k=>h<|e▸m).symm)<|aF (λn=>[(Atom.int k,V.obj<|n+5)]) up_eq.symm
include s
def Sv.len:K.length<=60:=by
 have:=pM s.nd λx hx=>List.mem_range.mpr<|s.lt hx
 rw[kq] at this;show this
def Sv.set(J:k∈K)(B:x.cnt≠0):Sv K (up I k x) A (a7 r (.inst 7<|f9 k x)<|A k) where
 at_:=λ{j} hj=>by
  by_cases e:j=k
  .subst e;rw[up_eq];show cf<|s.at_ hj
  rw[kf e];show fB (s.at_ hj) λq=>e<|s.inj hj J q.symm
 inj:=s.inj
 nd:=s.nd
 lt:=s.lt
 mem:=λ{j}=>by
  by_cases e:j=k
  .subst e;rw[up_eq];show⟨λy=>B,λy=>J⟩
  rw[kf e];show s.mem
omit s in
theorem aBF{J:List<|Nat×V}(h:aD r i=AA (.inst 7 J)):p7 r<|a7 r c i:=λhx n=>fB hx λe=>by
 subst e;rw[h] at hx;obtain rfl:=ai hx;rcases n with _|_
def Sv.new(D:k∉K)(C:k<60)(T:x.cnt≠0):Sv (K++[k]) (up I k x) (up A k<|aK r) (app r [.inst 7<|f9 k x]) where
 at_:=λ{j} hj=>by
  by_cases e:j=k
  .subst e;rw[up_eq,up_eq];show cZ
  rw[kf e,kf e];show gM<|s.at_ ((nA.mp hj).resolve_right λq=>e<|JK.mp q)
 inj:=λ{i j} B hj=>by
  have lt:∀{i},i∈K->A i≠aK r:=λm q=>by
   show eU _<|b6 (gC<|s.at_ m) (q▸dJ▸aV _)
  by_cases e:i=k
  .by_cases J:j=k;show λy=>e.trans J.symm;rw[e,up_eq,kf J];show λq=>absurd q.symm<|lt ((nA.mp hj).resolve_right λq=>J<|JK.mp q)
  have B:=(nA.mp B).resolve_right λq=>e<|JK.mp q;by_cases J:j=k
  .rw[J,up_eq,kf e];show λq=>absurd q<|lt B
  rw[kf e,kf J];show s.inj B<|(nA.mp hj).resolve_right λq=>J (JK.mp q)
 nd:=JL.mpr ⟨s.nd,List.nodup_cons.mpr ⟨eL,d7⟩,λa ha b hb e=>D<|(JK.mp hb)▸e▸ha⟩
 lt:=λhj=>(nA.mp hj).elim s.lt λq=>(JK.mp q)▸C
 mem:=λ{j}=>by
  by_cases e:j=k
  .subst e;rw[up_eq];show⟨λy=>T,λy=>gn _ h_⟩
  rw[kf e];show⟨λm=>s.mem.mp<|(nA.mp m).resolve_right λq=>e (JK.mp q),λm=>gF _<|s.mem.mpr m⟩
end
variable{Q:K2}
section
variable{c:Nat}{fl:List (Nat×V)}
section
variable(hc:aD H i=AA (.inst c fl))(h:iS c a=AD)
def iJ(z:Bm (aK fl) 800=AB)(q:Q .aQ F<|a7 H (.inst c<|u3 fl a v) i):r0 a (.obj i) v F H Q:=by
 change ob (aD H i) _ _;rw[hc];change Sel (iS c a) _<|Sel _ _ _;rw[h,z];show q
def UZ:atC H a (.obj i)=fh fl a:=by
 change ob (aD H i) _ _=_;rw[hc];change Aa (motive:=λy=>Option V) _ _ (iS c a)=_;rw[h]
end
def aBL{u:V}{e:ET}{o:Option V}(h:atC H a u=o)(q:ob o False λv=>e F H<|Nu a op u v F Q):GF a op e F Q u H:=by
 unfold GF;rw[h];show q
end
variable{Q:K1}
def Fi.mono{f:Nat}{J:K1}(q:Fi W n f vs H Q)(k:∀v H,Q v H->J v H):Fi W n f vs H J:=sS▸FA q k
def Uo(J:i<H.length)(b:Bg [i] H [c] H'):H'=a7 H (mc (rn [i] H.length) c) i:=I9 λj=>by
 rw[dm];by_cases e:i=j
 .subst e;rw[S9 J];show b.gI (j:=0) rfl
 rw[S8 e];by_cases l:j<H.length
 .rw[cK l];show b.out (λm=>e (JK.mp m).symm)<|cK l
 rw[rX<|qF l,rX<|aA (bJ<|JX b.len) (qF l)]
def MF{f:Nat}(J:aD H i=AA (mc (rn [i] H.length) c))(q:Fi W n f vs [c] λv H1=>Ex λc'=>bP (H1=[c'])<|Q (mv (rn [i] H.length) v) (a7 H (mc (rn [i] H.length) c') i)):Fi W n f (e9 (rn [i] H.length) vs) H Q:=
 frame (List.nodup_cons.mpr ⟨eL,d7⟩) rfl (λ{j k} e=>by
  rcases j with _|j
  .obtain rfl:=ai e;show⟨c,rfl,a9▸J⟩
  .rcases e with _|_) (q.mono λv H1 x {H'} b=>by
  obtain⟨⟨rfl,x⟩⟩:=x;rw[Uo (gC J) b];show x)
@[reducible] def hD(C B J:Cell)(aJ:List<|Atom×V)(st:Nat)(r:AH):AH:=C::B::J::.inst 9 [('L',.obj 4)]::.dict aJ st::r
structure Me where
 k:Nat
 first:List Nat
 goal:Int
 chunk:Nat
 c:Nat
def gB(x:In)(m:Me):In:=if x.cnt=0 then⟨Aae,0,m.first,AD,m.goal,m.c,m.chunk,m.chunk⟩ else {x with cnt:=x.cnt+m.c,last:=m.goal,lc:=m.chunk}
def stI(I:Nat->In)(m:Me):Nat->In:=up I m.k<|gB (I m.k) m
variable{m:Me}
def aCr(h:m.c≠0):(gB x m).cnt≠0:=by
 unfold gB;split
 show h;show λe=>h<|Nat.eq_zero_of_add_eq_zero_left e
variable{B0 B1 B2:Cell}
section
variable(J:bG W)
theorem Ot(B:aa aJ (.int (m.k:Int))=AA (.obj<|a+5))(h:aD r a=AA (.inst 7<|f9 m.k x))(q:Q .none<|hD B0 B1 B2 aJ st (a7 r (.inst 7<|f9 m.k {x with cnt:=x.cnt+m.c,last:=m.goal,lc:=m.chunk}) a)):
  aU W n (dp 1 NM) [AA<|.obj 3,AA<|.int (m.k:Int),x2,AA<|.int m.goal,AA<|.int (m.chunk:Int),AA<|.int (m.c:Int),x6] (hD B0 B1 B2 aJ st r) (gJ Q):=by
 have J:=h;refine ba B ?_;refine aBL (UZ J rfl)<|iJ J rfl rfl (iJ (cf J) rfl rfl ?_);rw[iK];refine iJ (cf J) rfl rfl ?_;rw[iK];show q
include J
def aIA{k:Nat}{first:List Nat}(h:aD H i=AA (.inst 7 []))(q:Q .none<|a7 H (.inst 7<|f9 k ⟨Aae,0,first,AD,-1,0,0,0⟩) i):Fi W (n+1) 50 [.obj i,.int (k:Int),.str first] H Q:=by
 refine MF (c:=.inst 7 []) (vs:=[.obj 0,.int k,.str first]) h ?_
 refine J.fe Xj rfl ?_;show⟨rfl,q⟩
def Oq(s:Sv K I A r)(C:m.k<60)(L:m.c≠0)
  (q:∀{K' A' B st'},Sv K' (stI I m) A' B->p7 r B->Q .none (hD B0 B1 B2 (bR A' K') st' B)):
  Fi W (n+2) 59 [.obj 3,.int (m.k:Int),.str m.first,.int m.goal,.int (m.chunk:Int),.int (m.c:Int)] (hD B0 B1 B2 (bR A K) st r) Q:=by
 refine J.fe Xn rfl ?_;refine cC 1 ?_;have D:=aCr (x:=I m.k) L;by_cases hk:m.k∈K
 .have h:=s.at_ hk;have S:=s.set hk D;have e:gB (I m.k) m={I m.k with cnt:=(I m.k).cnt+m.c,last:=m.goal,lc:=m.chunk}:=aB<|s.mem.mp hk;have q:=q (st':=st) S<|aBF h;rw[e] at q;show aN (by unfold bR;rw[sL,a6 hk];rfl)<|bL (Ot (oo hk) h q)
 have M:(I m.k).cnt=0:=ij λe=>hk<|s.mem.mpr e;have S:=s.new hk C D;have e:cB (bR A K) (.int (m.k:Int)) (.obj<|aK (hD B0 B1 B2 (bR A K) st r))=bR (up A m.k<|aK r) (K++[m.k]):=Vs hk;have g:aa (bR (up A m.k<|aK r)<|K++[m.k]) (.int (m.k:Int))=AA (.obj<|aK r+5):=(oo<|gn _ h_).trans<|up_eq▸rfl;have T:gB (I m.k) m=⟨Aae,0,m.first,AD,m.goal,m.c,m.chunk,m.chunk⟩:=aC M
 refine aS (by unfold bR;rw[sL,bE hk];rfl)<|aIA J cZ ?_
 rw[lQ];refine⟨rfl,⟨by unfold bR gw;rw[aO];show aA s.len<|lz rfl,?_⟩⟩
 rw[e];refine ba g<|iJ (c:=7) (cZ) rfl rfl (bL<|Ot (r:=a7 (app r [.inst 7<|f9 m.k ⟨Aae,0,m.first,AD,-1,0,0,0⟩]) (.inst 7<|f9 m.k ⟨Aae,0,m.first,AD,-1,0,m.chunk,0⟩)<|aK r) g (cf cZ) ?_)
 rw[iK,lQ];rw[T] at S;have z:=q (K':=K++[m.k]) (A':=up A m.k<|aK r) (st':=st+1) (by unfold stI;rw[T];show S) λh y=>gM h
 rw[show 0+m.c=m.c from cT _]
 show z
end
def Sv.app(s:Sv K I A r):Sv K I A<|app r g:=⟨λh=>dh<|s.at_ h,s.inj,s.nd,s.lt,s.mem⟩
section
variable(Z:List Nat)(goal:Int)(chunk:Nat)
def uz(t:U.Tm):List Me:=match t with
 | .v k=>[⟨k,Z++[95,97,114,103],goal,chunk,1⟩]|t=>(cD [] t).2.map λk=>⟨k,Z++Aah,goal,chunk,cg k t⟩
def eD(D:List U.Tm):List Me:=D.flatMap<|uz Z goal chunk
end
variable{d w:Nat}{Q:K2}
section
variable(J:bG W){chunk:Nat}{goal:Int}{Z:List Nat}
include J
def aC8{B:Nat}{all:List V}(Y:∀k:Nat,aa aJ (.int (k:Int))=vS (cg k t))(T:Z.length<=100):∀{ks:List Nat} {K I A st r o},Sv K I A r->aD r d=AA (.dict aJ B)->aD r w=AA (.lst all)->(∀k∈ks,k<60/\cg k t≠0)->
  (∀{K' A' C st' o},Sv K' ((ks.map λk=>(⟨k,Z++Aah,goal,chunk,cg k t⟩:Me)).foldl stI I) A' C->p7 r C->Q .aQ [AA<|.obj 3,x1,AA<|.str Z,AA<|.int goal,AA<|.int (chunk:Int),x5,AA<|.obj (d+5),o] (hD B0 B1 B2 (bR A' K') st' C))->
  gj (It .lst (.obj<|w+5) all) 7 (aU W (n+2) NN) (ks.map λk:Nat=>V.int (k:Int)) [AA<|.obj 3,x1,AA<|.str Z,AA<|.int goal,AA<|.int (chunk:Int),x5,AA<|.obj (d+5),o] (hD B0 B1 B2 (bR A K) st r) Q:=by
 intro ks
 induction ks with
 |nil=>show λs hd hw y q=>⟨dD hw,q s λh y=>h⟩|cons k ks G=>
  intro K I A st r o s hd hw hk q;obtain⟨L,M⟩:=hk _ h_;refine gx (dD hw) λX E=>?_;refine gD (nD.str<|aA (bX T _) (lz rfl))<|yc hd ((Y k).trans<|aB M) ?_;refine Oq J (m:=⟨k,Z++Aah,goal,chunk,cg k t⟩) s L M λS kp=>E ?_;show G S (kp hd rfl) (kp hw rfl) (λj m=>hk j<|.tail _ m) λS' D=>q S'<|kp.trans D
def aG2(s:Sv K I A r)(D:Z.length<=100)(T:(∀k,t.has k->k<60)/\t.aX<aM)
  (q:∀{K' A' C st' x6 x7},Sv K' ((uz Z goal chunk t).foldl stI I) A' C->Q .aQ [AA<|.obj 3,x1,AA<|.str Z,AA<|.int goal,AA<|.int (chunk:Int),AA<|aE t,x6,x7] (hD B0 B1 B2 (bR A' K') st' C)):
  aU W (n+3) yQ [AA<|.obj 3,x1,AA<|.str Z,AA<|.int goal,AA<|.int (chunk:Int),AA<|aE t,x6,x7] (hD B0 B1 B2 (bR A K) st r) Q:=by
 have L:∀{k},cg k t≠0↔t.has k:=⟨λh=>ij λz=>h<|PQ z,λh e=>by have:=gW h;rw[e] at this;show jy _ this⟩
 have B:t.bO=AD->(∀{K' A' C st' x6 x7},Sv K' (((cD [] t).2.map λk=>(⟨k,Z++Aah,goal,chunk,cg k t⟩)).foldl stI I) A' C->Q .aQ [AA<|.obj 3,x1,AA<|.str Z,AA<|.int goal,AA<|.int chunk,AA<|aE t,x6,x7] (hD B0 B1 B2 (bR A' K') st' C))->aU W (n+3) yQ [AA<|.obj 3,x1,AA<|.str Z,AA<|.int goal,AA<|.int chunk,AA<|aE t,x6,x7] (hD B0 B1 B2 (bR A K) st r) Q:=λh q=>by
  refine dQ<|aN (cq.trans h) ?_;refine aDf J T.2 λM=>?_;refine R1 J T.2 λ{c c'}=>?_;rw[gQ];have nm:∀{k},k∈(cD [] t).2->t.has k:=λh=>(pB.mp h).resolve_left λh=>aW h;have e:ah (cD [] t).2=(cD [] t).2.map λk:Nat=>V.int k:=by unfold ah cI;rw[gm];rfl
  rw[e,len_app];show⟨dD<|eN (k:=3),aC8 J (w:=aK r+3) M D s.app iF eN (λk m=>⟨T.1 k<|nm m,L.mpr<|nm m⟩) λS kp=>q S⟩
 rcases t with k|_;show gD (nD.str<|aA (bX D _) (lz rfl)) (Oq J s (T.1 k rfl) Jg λS kp=>q S);show B rfl q;show B rfl q;show B rfl q
def aG3(B:Z.length<=100):∀{D:List U.Tm} {K I A st r x5 x6 x7},Sv K I A r->(∀t∈D,(∀k,t.has k->k<60)/\t.aX<aM)->
  (∀{K' A' C st' F},Sv K' ((eD Z goal chunk D).foldl stI I) A' C->Q .aQ F (hD B0 B1 B2 (bR A' K') st' C))->
  d5 5 (aU W (n+3) yQ) (D.map aE) [AA<|.obj 3,x1,AA<|.str Z,AA<|.int goal,AA<|.int (chunk:Int),x5,x6,x7] (hD B0 B1 B2 (bR A K) st r) Q:=by
 intro D
 induction D with
 |nil=>show λs y q=>q s|cons t D L=>show λs ht q=>e5 λX T=>aG2 J s B (ht _ h_) λS=>T<|L S (λt m=>ht t<|.tail _ m) λS'=>q (by unfold eD;rw[JC,wi];show S')
def RP(s:Sv K I A r)(B:Z.length<=100)(T:∀t∈D,(∀k,t.has k->k<60)/\t.aX<aM){Q:K1}
  (q:∀{K' A' C st'},Sv K' ((eD Z goal chunk D).foldl stI I) A' C->Q .none (hD B0 B1 B2 (bR A' K') st' C)):
  Fi W (n+4) 60 [.obj 3,.tup<|D.map aE,.str Z,.int goal,.int (chunk:Int)] (hD B0 B1 B2 (bR A K) st r) Q:=by
 refine J.fe Xo rfl ?_;show aG3 J B s T λS=>q S
end
def kdOf(x:In):List Nat:=if x.cnt=1 then Aal else if x.fc<x.lc then Aai else Aae
def yU(x:In):In:={x with kd:=kdOf x}
def mi(K:List Nat):List Nat:=(rC<|cI K).map Int.toNat
def Co:cI (mi K)=rC (cI K):=by
 unfold mi cI;rw[gm]
 conv=>rhs;rw[<-List.map_id<|rC _]
 refine jO λx hx=>?_;obtain⟨y,_,e⟩:=List.mem_map.mp<|List.mem_mergeSort.mp hx;rw[<-e];rfl
def LX{k:Nat}{l:List Nat}:(k:Int)∈cI l↔k∈l:=⟨λh=>let ⟨_,J,e⟩:=List.mem_map.mp h;d6 e▸J,λh=>List.mem_map.mpr ⟨k,h,rfl⟩⟩
def Hr{k:Nat}:k∈mi K↔k∈K:=by rw[<-LX,Co,<-LX];show List.mem_mergeSort
def aF7(h:K.Nodup):(mi K).Nodup:=by
 have B:(cI<|mi K).Nodup:=by
  rw[Co];show(TP (cI K) _).nodup_iff.mpr<|List.Pairwise.map _ (λa b J e=>J<|d6 e) h
 show List.Pairwise.of_map _ (λa b J e=>J<|e▸rfl) B
def Q0:(mi K).length=K.length:=by
 have J:(cI<|mi K).length=(cI K).length:=Co▸TK _;unfold cI at J;rw[aO,aO] at J;show J
variable{l:List V}
section
variable{Q:K1}
def aBc{z:Int}(J:aD H i=AA (.lst l))(e:z=(j:Nat))(h:aD l j=AA v)(q:Q v H):ir W (.obj i) (.int z) H Q:=e▸hJ J h q
def aFE(J:aD H w=AA (.lst l)):at_ AD H (.obj w) (λy c=>n7 .insert c)=AB:=by
 change ob (aD H w) AD _=AB;rw[J];rfl
def aBS(J:aD H i=AA (.lst l))(e:j<=l.length)(z:l.length<aM)(q:Q .none<|a7 H (.lst<|l.take j++v::l.drop j) i):k6 W .insert (.obj i) Q [.int (j:Nat),v] H:=by
 change ob (aD H i) _ _;rw[J];rw[dm] at q;show(⟨c6.insert (a9▸J) e z,q⟩:Seq (c6 W .insert [.obj i,.int j,v] H) Q)
def aBA(J:bG W){k:Nat}(h:aD H i=AA (.inst 7<|f9 k x))(q:Q (.str<|kdOf x) H):Fi W (n+1) 61 [.obj i] H Q:=by
 refine MF (c:=.inst 7<|f9 k x) (vs:=[.obj 0]) h ?_;have B:∀{s},kdOf x=s->Ex λc'=>bP ([Cell.inst 7<|f9 k x]=[c'])<|Q (.str s) (a7 H (mc (rn [i] H.length) c') i):=λe=>⟨rfl,by rw[mZ (x:=mc _<|.inst 7 _) h,<-e];show q⟩
 unfold kdOf at B;refine J.fe Xp rfl ?_;by_cases D:x.cnt=1
 .rw[aC D] at B;show aS (a6<|aF Bb D)<|B rfl
 rw[aB D] at B;refine aN (bE λe=>D<|d6 e) ?_;by_cases C:x.fc<x.lc
 .rw[aC C] at B;show aS (a6<|Int.ofNat_lt.mpr C)<|B rfl
 rw[aB C] at B;show aN (bE λe=>C<|Int.ofNat_lt.mp e)<|B rfl
end
section
variable(J:bG W){J_:Nat->In}
theorem N4{a b:Nat->In}(h:∀k,J_ k=if k∈K/\k∉([]:List Nat) then a k else b k):J_=λk=>if k∈K then a k else b k:=funext λk=>by
 rw[h k];by_cases m:k∈K
 .rw[aC ⟨m,eL⟩,aC m]
 rw[aB λz=>m z.1,aB m]
theorem Ft:It (.dict st) (.obj 4) (K.map λk:Nat=>V.int (k:Int))<|hD B0 B1 B2 (bR A K) st r:=by
 have:It (.dict st) (.obj 4) ((bR A K).map λp=>dG p.1)<|hD B0 B1 B2 (bR A K) st r:=.dict rfl
 unfold bR gw at this;rw[gm] at this;show this
include J
def aBC{f:Option V->Fa}(C:∀{o v},ed (f o) 9 v=f (AA v))(L:∀{o},ob (aD (f o) 9) AE id=o)(M:∀{o},ob (aD (f o) 8) AE id=AA (.obj 4)):∀{ks:List Nat} {J_:Nat->In} {r:AH} {o:Option V},ks.Nodup->(∀k∈ks,k∈K)->Sv K J_ A r->(∀k,J_ k=if k∈K/\k∉ks then yU (I k) else I k)->(∀{D o},Sv K (λk=>if k∈K then yU (I k) else I k) A D->Q .aQ (f o) (hD B0 B1 B2 (bR A K) st D))->
  gj (It (.dict st) (.obj 4)<|K.map λk:Nat=>V.int (k:Int)) 9 (aU W (n+1) NQ) (ks.map λk:Nat=>V.int (k:Int)) (f o) (hD B0 B1 B2 (bR A K) st r) Q:=by
 intro ks
 induction ks with
 |nil=>show λi i s h q=>⟨Ft,q (by rw[N4 h] at s;show s)⟩|cons k ks Z=>
  intro J_ r o nd hk s h q;obtain⟨G,E⟩:=List.nodup_cons.mp nd;have B:=hk k h_;have T:=s.at_ B;have O:=(h k).trans (aB λz=>z.2 h_);refine gx Ft λX Y=>?_;rw[C];refine ba M<|ba L (ba (oo B)<|aBA J T (ba M<|ba L (ba (oo B)<|iJ T rfl rfl ?_)));have S:=s.set B (x:=yU<|J_ k)<|s.mem.mp B;refine Y<|Z E (λj m=>hk j<|.tail _ m) S (λj=>?_) q;by_cases e:j=k
  .rw[e,up_eq,aC ⟨B,G⟩,O]
  rw[kf e,h j];by_cases m:j∈K/\j∉ks
  .rw[aC m,aC ⟨m.1,λz=>(JJ.mp z).elim e m.2⟩]
  rw[aB m,aB λz=>m ⟨z.1,λy=>z.2<|.tail _ y⟩]
end
variable{ks:List Nat}
def ot:ah ks=ks.map λk:Nat=>V.int (k:Int):=by unfold ah cI;rw[gm];rfl
variable{l:List Nat}
def jZ:(ah l).length=l.length:=by rw[ot,aO]
def sN{k:Nat}(h:l[i]?=AA k):aD (ah l) i=AA (.int (k:Int)):=by rw[ot,a9,f3,h];rfl
def LY{k:Nat}:ah l++[V.int (k:Int)]=ah (l++[k]):=by rw[ot,ot,bw];rfl
variable{x y:Cell}
def YV:a7 (hD B0 B1 B2 aJ st<|app r [x]) y (aK r+5)=hD B0 B1 B2 aJ st (app r [y]):=aF (hD B0 B1 B2 aJ st) lQ
def iX(Lf:Nat->Int)(acc:List Nat)(k:Nat):Nat->Nat
 |0=>0|n+1=>if Lf ((acc[n]?).getD 0)<Lf k then iX Lf acc k n else n+1
variable{acc:List Nat}
def HQ{Lf:Nat->Int}{k:Nat}:iX Lf acc k (n+1)=if Lf ((acc[n]?).getD 0)<Lf k then iX Lf acc k n else n+1:=rfl
def jg(Lf:Nat->Int)(acc:List Nat)(k:Nat):List Nat:=acc.take (iX Lf acc k acc.length)++k::acc.drop (iX Lf acc k acc.length)
def aEi{Lf:Nat->Int}{k:Nat}:∀{n:Nat},iX Lf acc k n<=n:=λ{n}=>by
 induction n with
 |zero=>show aV _|succ n J=>
  rw[HQ];split
  show eM J;show aV _
def Mr{Lf:Nat->Int}{k:Nat}:(jg Lf acc k).length=acc.length+1:=by
 unfold jg;rw[a5,fK,<-bH,<-a5,Dv]
def Fh{Lf:Nat->Int}{k:Nat}:j∈jg Lf acc k↔j=k\/j∈acc:=by
 unfold jg;rw[nA,JJ,or_left_comm,<-nA,Dv]
section
variable(J:bG W)
def yK(I:Nat->In)(k:Nat):Bool:=eO (I k).kd Aai
variable(s:Sv K I A r)
include s
theorem aEm{k:Nat}(C:k∈K)(T:∀j∈acc,j∈K)(q:Q .aQ [AA<|.obj 4,AA<|.obj (aK r+5),AA<|.int (k:Nat),AA<|.obj (A k+5),AA<|.int (iX (λk=>(I k).last) acc k acc.length:Nat)]<|hD B0 B1 B2 (bR A K) st (app r [.lst<|ah acc])):∀{m},m<=acc.length->iX (λk=>(I k).last) acc k m=iX (λk=>(I k).last) acc k acc.length->gG (bT W n Nl) (aU W n NO) (m+1) [AA<|.obj 4,AA<|.obj (aK r+5),AA<|.int (k:Nat),AA<|.obj (A k+5),AA<|.int (m:Nat)] (hD B0 B1 B2 (bR A K) st<|app r [.lst<|ah acc]) Q:=λ{m}=>by
 have D:aD (hD B0 B1 B2 (bR A K) st<|app r [.lst<|ah acc]) (A k+5)=_:=dh<|s.at_ C;have hl:aD (hD B0 B1 B2 (bR A K) st<|app r [.lst<|ah acc]) (aK r+5)=AA (.lst<|ah acc):=cZ
 induction m with
 |zero=>
  intro _ e;rw[<-e] at q;show q
 |succ m B=>
  intro h e;have hm:=cK h;have x1:=T _<|m8 h;have hj:aD (hD B0 B1 B2 (bR A K) st<|app r [.lst<|ah acc]) (A acc[m]+5)=_:=dh<|s.at_ x1;have e:(if (I<|(acc[m]?).getD 0).last<(I k).last then iX (λk=>(I k).last) acc k m else m+1)=iX (λk=>(I k).last) acc k acc.length:=e
  rw[hm] at e;refine ki λX J=>aS (mL.trans<|a6 (Nat.succ_ne_zero m))<|aBc hl (uH m 1) (sN hm) (ba (oo x1)<|jA hj rfl rfl (jA D rfl rfl ?_));by_cases c:(I acc[m]).last<(I k).last
  .rw[aC<|show(I<|(AA acc[m]).getD 0).last<(I k).last from c] at e
   refine aS (a6 c) ?_;have z:=J<|B (eT h) e;rw[<-uH m 1] at z;show z
  rw[aB<|show ¬(I<|(AA acc[m]).getD 0).last<(I k).last from c] at e
  rw[<-e] at q;show aN (bE c) q
theorem aDu:∀{ks acc:List Nat} {x2 x3 x4:Option V},(∀k∈ks,k∈K)->(∀k∈acc,k∈K)->acc.length+ks.length<=60->(∀{x2 x3 x4},Q .aQ [AA<|.obj 4,AA<|.obj (aK r+5),x2,x3,x4]<|hD B0 B1 B2 (bR A K) st (app r [.lst<|ah ((ks.filter<|yK I).foldl (jg λk=>(I k).last) acc)]))->
  d5 2 (aU W n NP) (ks.map λk:Nat=>V.int (k:Int)) [AA<|.obj 4,AA<|.obj (aK r+5),x2,x3,x4] (hD B0 B1 B2 (bR A K) st<|app r [.lst<|ah acc]) Q:=by
 intro ks
 induction ks with
 |nil=>show λy y y q=>q|cons k ks D=>
  intro acc x2 x3 x4 hk ha hz q;have B:=hk k h_;have T:aD (hD B0 B1 B2 (bR A K) st<|app r [.lst<|ah acc]) (A k+5)=_:=dh<|s.at_ B;have hl:aD (hD B0 B1 B2 (bR A K) st<|app r [.lst<|ah acc]) (aK r+5)=AA (.lst<|ah acc):=cZ;have J:acc.length+1+ks.length<=60:=by rw[bH,bQ 1];show hz
  refine e5 λX C=>ba (oo B)<|jA T rfl rfl ?_;rcases hpk:yK I k with _|_
  .rw[uM<|hpk▸aI] at q;show aN hpk<|C (D (λj m=>hk j<|.tail _ m) ha (aA (b7 (b8 _) _) hz) q)
  rw[uN hpk] at q;refine aS hpk<|iI hl ?_;rw[jZ];refine Ex.mk<|aEm s B ha ?_ (aV _) rfl;refine aS (aFE hl)<|aBS hl (jZ▸aEi) (jZ▸bZ (aA (aY _ _)<|aA (aY _ _) J) (lz rfl)) ?_;rw[YV,show(ah acc).take (iX (λk=>(I k).last) acc k acc.length)++V.int k::(ah acc).drop (iX (λk=>(I k).last) acc k acc.length)=ah (jg (λk=>(I k).last) acc k) by rw[ot,ot];unfold jg;rw[bw,da,Dt,JI]]
  show C<|D (λj m=>hk j<|.tail _ m) (λj m=>(Fh.mp m).elim (λe=>e▸B)<|ha j) (Mr▸J) q
def zj(I:Nat->In)(K:List Nat):List Nat:=((mi K).filter<|yK I).foldl (jg λk=>(I k).last) []
include J
def aDv{Q:K1}(q:Q (.obj<|aK r+5)<|hD B0 B1 B2 (bR A K) st (app r [.lst<|ah (zj I K)])):Fi W (n+1) 62 [.obj 4] (hD B0 B1 B2 (bR A K) st r) Q:=by
 refine J.fe Xq rfl ?_;refine eA (lz rfl)<|gY (Tu.dict (ns:=cI K) rfl (by unfold bR gw cI;rw[gm,gm];rfl) (by unfold bR gw;rw[aO];show bZ s.len<|lz rfl) .val) ?_
 rw[<-Co,show(cI<|mi K).map V.int=(mi K).map λk:Nat=>V.int k from ot]
 show aDu s (λk m=>Hr.mp m) (λy m=>aW m) (by rw[Q0,m9,cT];show s.len) q
end
def Mi{k:Nat}(J:l.Nodup)(h:l[i]?=AA k):l.idxOf k=i:=by
 have m:=List.idxOf_lt_length_iff.mpr<|eK h;show(JF m J).mp<|(cK m).trans ((aF AA<|p9 _).trans h.symm)
def mf(J:List Nat)(k:Nat)(x:In):In:={x with sl:=J.idxOf k+1,dt:=eO x.first Aaf}
def jl(Lf:Nat->Int)(g:Int):List Nat->Nat
 | []=>0|k::ks=>if g<Lf k then jl Lf g ks+1 else 0
def yt{Lf:Nat->Int}{g:Int}{k:Nat}:jl Lf g (k::l)=if g<Lf k then jl Lf g l+1 else 0:=rfl
variable{ord:List Nat}{x3 x9 x12 x11:Option V}
section
variable(J:bG W)
theorem aF4(Y:ord.Nodup)(N:∀k∈ord,k∈K){C:Option V}{L:Nat}:∀{ks:List Nat} {J:Nat} {J_:Nat->In} {r:AH} {x5 x11:Option V},ord.drop J=ks->aK r=L->Sv K J_ A r->(∀k,J_ k=if k∈ord/\k∉ks then mf ord k (I k) else I k)->
  (∀{r x5 x11},aK r=L->Sv K (λk=>if k∈ord then mf ord k (I k) else I k) A r->Q .aQ [x0,x1,x2,x3,x4,x5,x6,x7,AA<|.obj 4,x9,AA<|.obj (L+5),x11,x12,C] (hD B0 B1 B2 (bR A K) st<|app r [.lst<|ah ord]))->
  d5 5 (aU W n NR) ((Af J ks.length).map λi:Nat=>V.int (i:Int)) [x0,x1,x2,x3,x4,x5,x6,x7,AA<|.obj 4,x9,AA<|.obj (L+5),x11,x12,C] (hD B0 B1 B2 (bR A K) st<|app r [.lst<|ah ord]) Q:=by
 intro ks
 induction ks with
 |nil=>show λo hl s h q=>q hl ((N4 h)▸s)|cons k ks P=>
  intro J J_ r x5 x11 hd hl s h q;subst hl;obtain⟨T,Z⟩:=ur hd;rw[a9] at T;have M:=N k<|eK T;have D:=s.at_ M;have B:aD (hD B0 B1 B2 (bR A K) st<|app r [.lst<|ah ord]) (A k+5)=_:=dh D;have u:=(h k).trans (aB λz=>z.2 h_);have G:=Mi Y T;refine e5 λX R=>hJ cZ (sN T)<|ba (oo M) (iJ B rfl rfl<|jA (cf B) rfl rfl (iJ (cf B) rfl rfl ?_));rw[iK];have S:=s.set M (x:=mf ord k<|J_ k)<|s.mem.mp M;have e:a7 (hD B0 B1 B2 (bR A K) st<|app r [.lst<|ah ord]) (.inst 7<|f9 k (mf ord k<|J_ k)) (A k+5)=hD B0 B1 B2 (bR A K) st (app (a7 r (.inst 7<|f9 k (mf ord k<|J_ k))<|A k) [.lst<|ah ord]):=aF (hD B0 B1 B2 (bR A K) st)<|UR (gC D);rw[show f9 k (mf ord k<|J_ k)=f9 k {J_ k with sl:=J+1,dt:=eO (J_ k).first Aaf} by unfold mf;rw[G]] at e
  refine(show ∀H,H=_->X _ H Q from λH e=>e▸R (P Z aBv S (λj=>?_) q)) _<|e.trans ((show f9 k (mf ord k<|J_ k)=f9 k {J_ k with sl:=J+1,dt:=eO (J_ k).first Aaf} by unfold mf;rw[G])▸rfl)
  have O:k∉ks:=λm=>by
   obtain⟨i,D⟩:=List.mem_iff_getElem?.mp m;rw[<-Z,JE] at D;show absurd ((Mi Y D).symm.trans G)<|iC (b6 (c5 _)<|aY _ _)
  by_cases E:j=k
  .rw[E,up_eq,aC ⟨eK T,O⟩,u]
  rw[kf E,h j];by_cases m:j∈ord/\j∉ks
  .rw[aC m,aC ⟨m.1,λz=>(JJ.mp z).elim E m.2⟩]
  rw[aB m,aB λz=>m ⟨z.1,λy=>z.2<|.tail _ y⟩]
variable(s:Sv K I A r)(C:∀k∈ord,k∈K){lv:Cell}
include s C
theorem aB5{g:Nat}:∀{m l:Nat},l+m=ord.length->(Q .aQ [x0,x1,x2,x3,x4,AA<|.int (g:Nat),x6,x7,AA<|.obj 4,x9,AA<|.obj (aK r+5),x11,x12,AA<|.int (l+jl (λk=>(I k).last) g (ord.drop l):Nat)]<|hD B0 B1 B2 (bR A K) st (app r [.lst<|ah ord,lv]))->
  gG (bT W n Nm) (aU W n NS) (m+1) [x0,x1,x2,x3,x4,AA<|.int (g:Nat),x6,x7,AA<|.obj 4,x9,AA<|.obj (aK r+5),x11,x12,AA<|.int (l:Nat)] (hD B0 B1 B2 (bR A K) st<|app r [.lst<|ah ord,lv]) Q:=by
 intro m
 induction m with
 |zero=>
  intro l e q;have e:l=ord.length:=e;rw[Dk<|bJ e.symm] at q;show iI iF<|aN (vM.trans<|bE (jZ▸e▸eU _)) q
 |succ m D=>
  intro l e q;have hl:=e▸ri (jQ m);have J:=C _<|m8 hl;have hj:aD (hD B0 B1 B2 (bR A K) st<|app r [.lst<|ah ord,lv]) (A ord[l]+5)=_:=dh<|s.at_ J;rw[Dj hl] at q;have q:Q .aQ [x0,x1,x2,x3,x4,AA<|.int g,x6,x7,AA<|.obj 4,x9,AA<|.obj (aK r+5),x11,x12,AA<|.int (l+(if g<(I ord[l]).last then jl (λk=>(I k).last) g (ord.drop<|l+1)+1 else 0):Nat)]<|hD B0 B1 B2 (bR A K) st (app r [.lst<|ah ord,lv]):=q
  refine ki λX B=>iI iF<|aS (vM.trans<|a6 (jZ▸hl)) (hJ iF (sN<|cK hl)<|ba (oo J) (jA hj rfl rfl ?_));by_cases c:g<(I ord[l]).last
  .rw[aC c] at q;show aS (a6 c)<|B (D (by rw[<-e,bH,bQ 1]) (by rw[bH,bQ 1];show q))
  rw[aB c] at q;show aN (bE c) q
end
def dU:List Gl->Nat->List Nat
 | [],_=>[]|g::gs,c=>c::dU gs (if U.isCall g=AB then c+1 else c)
def f6:List Gl->Nat->Nat->List Me
 | [],_,_=>[]|g::gs,i,c=>eD Aab i c (cY g)++f6 gs (i+1) (if U.isCall g=AB then c+1 else c)
def dk:List Gl->Bool
 | []=>AD|g::gs=>(U.isCall g&&!gs.isEmpty)||dk gs
variable{Q:K1}{g:Gl}
section
variable(J:bG W)
include J
def YU(q:Q (.tup<|(cY g).map aE) H):Fi W (n+1) 48 [a8 g] H Q:=by
 refine J.fe Xh rfl ?_;rcases g with _|_;show q;show q;show q
def YT(q:Q (.int<|-1) H):Fi W (n+1) 49 [a8 g] H Q:=by
 refine J.fe Xi rfl ?_;rcases g with _|_;show q;show q;show q
theorem VF{all:List Gl}{Q:K2}:∀{gs:List Gl} {acc:List Nat} {c:Nat} {o:Option V},acc.length+gs.length<=100->(∀{x o},Q .aQ [AA<|.obj 1,AA<|.obj 2,x,o] [B0,.lst<|all.map a8,.lst<|ah (acc++dU gs c)])->gj (It .lst (.obj 1)<|all.map a8) 3 (aU W n Fy) (gs.map a8) [AA<|.obj 1,AA<|.obj 2,AA<|.int (c:Nat),o] [B0,.lst<|all.map a8,.lst<|ah acc] Q:=by
 intro gs
 induction gs with
 |nil=>show λ{acc c o} y q=>⟨dD rfl,by rw[show dU [] c=[] from rfl,fJ] at q;show q⟩|cons g gs T=>
  intro acc c o z q;have B:acc.length+1+gs.length<=100:=by rw[bH,bQ 1];show z
  rw[show acc++dU (g::gs) c=(acc++[c])++dU gs (if U.isCall g=AB then c+1 else c) by rw[bp];rfl] at q
  have D:=T (o:=AA<|a8 g) (a5▸B) q;refine gx (dD rfl) λK C=>?_;have J:=C D;rw[<-LY] at J;have t:k6 W .append (.obj 2) (λv H=>bP True<|aU W n (dp 1 Fy) [AA<|.obj 1,AA<|.obj 2,AA<|.int c,AA<|a8 g] H (i6 K Q)) [.int c] [B0,.lst<|all.map a8,.lst<|ah acc]:=fP rfl (jZ▸bZ (aA (aY _ _) z) (lz rfl)) ⟨trivial,?_⟩
  .show⟨t.1,t.2.2⟩
  rcases g with _|_;show J;show J;show J
def VE{all:List Gl}(z:all.length<=100)(q:Q (.obj 2) [B0,.lst<|all.map a8,.lst<|ah (dU all 0)]):Fi W (n+1) 57 [.obj 1] [B0,.lst<|all.map a8] Q:=by
 refine J.fe Xl rfl ?_;show eA (lz rfl) ⟨dD rfl,VF J (acc:=[]) (by rw[m9,cT];show z) q⟩
end
section
variable{KE GL CH:Cell}{g:AH}
def MY:app (hD KE GL CH aJ st<|app r g) [x]=hD KE GL CH aJ st (app r<|g++[x]):=aF (hD KE GL CH aJ st) gQ
def MZ:aK (hD KE GL CH aJ st<|app r g)=aK r+(aK g+5):=(aF (·+5) len_app).trans<|bH ..
def YW{k:Nat}:a7 (hD KE GL CH aJ st<|app r g) x (aK r+(k+5))=hD KE GL CH aJ st (app r<|a7 g x k):=aF (hD KE GL CH aJ st) r8
end
def DG:In:=⟨[],0,[],AD,-1,0,0,0⟩
def sv0:Sv [] (λy=>DG) A r:=⟨λh=>aW h,λh=>aW h,d7,λh=>aW h,⟨λh=>aW h,λh=>absurd rfl h⟩⟩
def zr(ne:Bool)(es lv:Nat):List<|Nat×V:=[('L',.obj 4),('P',.obj 2),('E',.bool ne),('S',.int es),('B',.obj lv)]
def wX(g:Gl):Prop:=(∀k,e6 k g->k<60)/\∀t∈cY g,t.aX<aM
variable{lv es:Nat}{ne:Bool}
section
variable(J:bG W)
include J
def aFx(q:Q .none<|hD B0 B1 B2 [] 0 []):Fi W (n+1) 58 [.obj 3] [B0,B1,B2,.inst 9 []] Q:=by
 refine J.fe Xm rfl ?_;show mO q
def aEC(h:aD H i=AA (.inst 8 []))(q:Q .none<|a7 H (.inst 8<|zr ne es lv) i):Fi W (n+1) 51 [.obj i,.obj 4,.obj 2,.bool ne,.int (es:Nat),.obj lv] H Q:=by
 refine J.fe Xk rfl ?_;refine iJ h rfl rfl<|iJ (cf h) rfl rfl (iJ (cf<|cf h) rfl rfl<|iJ (cf<|cf (cf h)) rfl rfl (iJ (cf<|cf (cf<|cf h)) rfl rfl ?_));rw[iK,iK,iK,iK];show q
def YK{all:List Gl}{D:Cell}{Q:K2}:∀{gs:List Gl} {i c:Nat} {K:List Nat} {I:Nat->In} {A:Nat->Nat} {st:Nat} {r:AH} {ne:Bool} {o x6 x7:Option V},all.drop i=gs->(dU all 0).drop i=dU gs c->Sv K I A r->(∀g∈gs,wX g)->
  (∀{K' A' C st' o x6 x7},Sv K' ((f6 gs i c).foldl stI I) A' C->Q .aQ [AA<|.obj 0,AA<|.obj 1,AA<|.obj 2,AA<|.obj 3,AA<|.bool (ne||dk gs),o,x6,x7,AE,AE,AE,AE,AE,AE] (hD D (.lst<|all.map a8) (.lst<|ah (dU all 0)) (bR A' K') st' C))->
  d5 5 (aU W (n+5) Fz) ((Af i gs.length).map λi:Nat=>V.int (i:Int)) [AA<|.obj 0,AA<|.obj 1,AA<|.obj 2,AA<|.obj 3,AA<|.bool ne,o,x6,x7,AE,AE,AE,AE,AE,AE] (hD D (.lst<|all.map a8) (.lst<|ah (dU all 0)) (bR A K) st r) Q:=by
 intro gs
 induction gs with
 |nil=>show λy y s y q=>by rw[show dk []=AD from rfl,wM] at q;show q s|cons g gs G=>
  intro i c K I A st r ne o x6 x7 hd hc s hg q;obtain⟨Z,Y⟩:=ur hd;obtain⟨O,c2⟩:=ur<|hc;have gg:=hg g h_;refine e5 λX E=>?_;have L:∀{K A r st x7},Sv K I A r->aU W (n+5) (dp 3 Fz) [AA<|.obj 0,AA<|.obj 1,AA<|.obj 2,AA<|.obj 3,AA<|.bool ne,AA<|.int (i:Nat),AA<|a8 g,x7,AE,AE,AE,AE,AE,AE] (hD D (.lst<|all.map a8) (.lst<|ah (dU all 0)) (bR A K) st r) (i6 X Q):=λ{K A r st x7} s=>by
   refine YU J<|hJ (W:=W) (i:=2) (H:=hD D (.lst<|all.map a8) (.lst<|ah (dU all 0)) (bR A K) st r) rfl (sN<|a9▸O) ?_;refine RP J (n:=n+1) (goal:=i) s (lz rfl) (λt m=>⟨λk h=>gg.1 k ⟨t,m,h⟩,gg.2 t m⟩) λ{K' A' C st'} s=>?_;have M:∀{K' A' C st' o x6 x7},Sv K' ((f6 gs (i+1)<|if U.isCall g=AB then c+1 else c).foldl stI<|(eD Aab i c<|cY g).foldl stI I) A' C->Q .aQ [AA<|.obj 0,AA<|.obj 1,AA<|.obj 2,AA<|.obj 3,AA<|.bool ((ne||(U.isCall g&&!gs.isEmpty))||dk gs),o,x6,x7,AE,AE,AE,AE,AE,AE] (hD D (.lst<|all.map a8) (.lst<|ah (dU all 0)) (bR A' K') st' C):=λs=>by
    rw[<-wi] at s;rw[Bool.or_assoc];show q s
   have B:X [AA<|.obj 0,AA<|.obj 1,AA<|.obj 2,AA<|.obj 3,AA<|.bool (ne||(U.isCall g&&!gs.isEmpty)),AA<|.int (i:Nat),AA<|a8 g,x7,AE,AE,AE,AE,AE,AE] (hD D (.lst<|all.map a8) (.lst<|ah (dU all 0)) (bR A' K') st' C) Q:=E<|G Y c2 s (λg m=>hg g<|.tail _ m) M;have T:all.length=i+1+gs.length:=by
    have e:=aF A8 hd;rw[oS,fK] at e;show(JY<|dc (Tc (by rw[e];show jQ _))).symm.trans<|by rw[e,bQ gs.length,<-bH]
   rcases g with ⟨f,as⟩|_
   .have el:decide ((i:Int)+1<((all.map a8).length:Nat))=!gs.isEmpty:=by
     rw[aO,T];rcases gs with _|⟨g,gs⟩;show bE λh=>DZ _ h;show a6<|Int.ofNat_lt.mpr (ri<|jQ _)
    rw[show U.isCall (.call f as)=AB from rfl,IY] at B
    rcases hz:gs.isEmpty with _|_
    .rw[hz,Bool.not_false,IX] at B;show aS (el.trans (by rw[hz];rfl)) B
    rw[hz,Bool.not_true,wM] at B;show aN (el.trans (by rw[hz];rfl)) B
   .rw[show U.isCall (.bi _ _)=AD from rfl,t8,wM] at B;show B
   rw[show U.isCall (.fE _ _)=AD from rfl,t8,wM] at B;show B
  refine hJ (W:=W) (i:=1) (H:=hD D (.lst<|all.map a8) (.lst<|ah (dU all 0)) (bR A K) st r) rfl (pO Z)<|YT J (cC 1<|bL (L s))
end
section
variable(O:List U.Tm)(gs:List Gl)
def kB:List Me:=eD [104,101,97,100] (-1) 0 O++f6 gs 0 0
def bf:Nat->In:=(kB O gs).foldl stI λy=>DG
def j8(K:List Nat)(k:Nat):In:=if k∈K then yU (bf O gs k) else bf O gs k
def oO(K:List Nat):List Nat:=zj (j8 O gs K) K
def iw(K:List Nat)(k:Nat):In:=if k∈oO O gs K then mf (oO O gs K) k (j8 O gs K k) else j8 O gs K k
def fR(K:List Nat):List Nat:=(Av gs.length).map λi:Nat=>jl (λk=>(iw O gs K k).last) i<|oO O gs K
end
@[reducible] def si(fn J:V)(O:List U.Tm):Cell:=.inst 6 [('a',fn),('w',.tup<|O.map aE),('m',.obj 1),('f',J)]
def Ms{Lf:Nat->Int}:∀{acc:List Nat},j∈ks.foldl (jg Lf) acc↔j∈acc\/j∈ks:=by
 induction ks with
 |nil=>show⟨.inl,λh=>h.elim id λh=>aW h⟩|cons k ks J=>show J.trans<|by rw[Fh,JJ,or_comm (a:=j=k),or_assoc]
def Y1{Lf:Nat->Int}:∀{acc:List Nat},(ks.foldl (jg Lf) acc).length=acc.length+ks.length:=by
 induction ks with
 |nil=>show rfl|cons k ks J=>show J.trans<|by rw[Mr,fK,bH,bQ 1]
def Y2{Lf:Nat->Int}:∀{acc:List Nat},acc.Nodup->ks.Nodup->(∀k∈ks,k∉acc)->(ks.foldl (jg Lf) acc).Nodup:=by
 induction ks with
 |nil=>show λh y y=>h|cons k ks D=>
  intro acc L T J;obtain⟨C,B⟩:=List.nodup_cons.mp T;refine D ?_ B λj m z=>(Fh.mp z).elim (λe=>C<|e▸m)<|J j (.tail _ m);refine List.perm_middle.nodup_iff.mpr ?_;rw[Dv];show List.nodup_cons.mpr ⟨J k h_,L⟩
variable{gs:List Gl}
section
variable(J:bG W)
theorem aB6(s:Sv K I A r)(C:∀k∈ord,k∈K){Q:K2}:∀{m a:Nat} {lvs:List Nat} {x5 J:Option V},lvs.length+m<=100->(∀{x5 J},Q .aQ [x0,x1,x2,x3,x4,x5,x6,x7,AA<|.obj 4,x9,AA<|.obj (aK r+5),x11,AA<|.obj (aK r+6),J]<|hD B0 B1 B2 (bR A K) st (app r [.lst<|ah ord,.lst<|ah (lvs++(Af a m).map λi:Nat=>jl (λk=>(I k).last) i ord)]))->
  d5 5 (aU W n NT) ((Af a m).map λi:Nat=>V.int (i:Int)) [x0,x1,x2,x3,x4,x5,x6,x7,AA<|.obj 4,x9,AA<|.obj (aK r+5),x11,AA<|.obj (aK r+6),J] (hD B0 B1 B2 (bR A K) st<|app r [.lst<|ah ord,.lst<|ah lvs]) Q:=by
 intro m
 induction m with
 |zero=>show λ{a lvs x5 J} y q=>by rw[show(Af a 0).map (λi:Nat=>jl (λk=>(I k).last) i ord)=[] from rfl,fJ] at q;show q|succ m T=>
  intro a lvs x5 J z q;have B:lvs.length+1+m<=100:=by rw[bH,bQ 1];show z
  rw[TS] at q ⊢;refine e5 λX D=>Ex.mk<|aB5 s C (cT _) ?_;rw[cT,uL];refine aS (hY<|eN)<|fP (eN) (jZ▸bZ (aA (aY _ _) z) (lz rfl)) ?_;rw[YW,LY];show D (T (a5▸B) λ{x5 J}=>by
   rw[bp];show q)
include J
variable{fn cnt:V}
def VI(Y:∀t∈O,(∀k,t.has k->k<60)/\t.aX<aM)(G:∀g∈gs,wX g)(B:gs.length<=100)
  (q:∀{K A r st},Sv K (iw O gs K) A r->K.Nodup->(∀k,k∈K↔(bf O gs k).cnt≠0)->Q (.obj<|aK r+7) (hD (si fn cnt O) (.lst<|gs.map a8) (.lst<|ah (dU gs 0)) (bR A K) st<|app r [.lst<|ah (oO O gs K),.lst<|ah (fR O gs K),.inst 8<|zr (dk gs) (oO O gs K).length (aK r+6)])):
  Fi W (n+6) 63 [.obj 0] [si fn cnt O,.lst<|gs.map a8] Q:=by
 refine J.fe Xr rfl ?_;refine cC 5<|VE J B (aFx J ⟨rfl,?_⟩);refine RP J (n:=n+1) (goal:=-1) (chunk:=0) (D:=O) (A:=λy=>0) (K:=[]) (st:=0) (r:=[]) sv0 (lz rfl) Y λ{K A r st} s=>bL<|cC 1 ?_;refine⟨by rw[aO];show aA B<|lz rfl,?_⟩
 rw[aO,nz];refine YK J (all:=gs) (gs:=gs) (i:=0) (c:=0) (ne:=AD) uL uL s G λ{K A r st o x6 x7} s=>bL ?_;rw[<-wi,DK] at*;have s:=s;have T:K.Nodup/\∀k,k∈K↔(bf O gs k).cnt≠0:=⟨s.nd,λk=>s.mem⟩;have nd:(oO O gs K).Nodup:=Y2 d7 (Iz _<|aF7 s.nd) λy y m=>aW m;have C:∀k∈oO O gs K,k∈K:=λk m=>(Ms.mp m).elim (λm=>aW m) λm=>Hr.mp (List.mem_filter.mp m).1;have E:(oO O gs K).length<=60:=aA (bJ<|Y1.trans (cT _))<|aA (TJ _ _) (aA (bJ Q0) s.len);refine cC 2 ⟨Ft,aBC (n:=n+4) J (st:=st) (f:=λo=>[AA<|.obj 0,AA<|.obj 1,AA<|.obj 2,AA<|.obj 3,AA<|.bool (dk gs),_,x6,x7,AA<|.obj 4,o,AE,AE,AE,AE]) rfl rfl rfl (ks:=K) (o:=AE) s.nd (λy m=>m) s (λk=>(aB λz=>z.2 z.1).symm) λ{r o} s=>bL<|cC 1 (aDv J s<|bL (cC 1<|iI (i:=aK r+5) cZ ⟨jZ▸aA E (lz rfl),?_⟩))⟩;rw[jZ,nz];refine aF4 nd C uL rfl s (λk=>(aB λz=>z.2 z.1).symm) λ{M x5 x11} e s=>bL ?_;rw[<-e];refine eA (lz rfl) ?_;rw[MY,MZ];refine⟨by rw[aO];show aA B<|lz rfl,?_⟩
 rw[aO,nz];refine aB6 (n:=n+5) s C (lvs:=[]) (m:=gs.length) (a:=0) (by rw[m9,cT];show B) λ{x5 L}=>?_
 refine iI (i:=aK M+5) iF ?_;rw[jZ];refine aEC J (i:=aK _) cZ ?_;rw[lQ,MY,MZ];refine⟨rfl,?_⟩;have z:=q (st:=st) s T.1 T.2;unfold fR at z;rw[TU] at z;show z
end
variable{c m p:Nat}
section
variable(J:bG W)
theorem aBZ{f:Nat}{J:List<|Nat×V}{P:Nat->Prop}(B:aD H i=AA (.inst c J))(h:fh J m=AE)(e:y9 c m=AA f)(q:P f):Dw W m (.obj i) H P:=by
 change ob (aD H i) _ _;rw[B];change ob (fh J m) _ _;rw[h];rw[e];show q
theorem GV{J:List<|Nat×V}{Q:K2}(h:iS c a=AD)(z:Bm (aK J) 800=AB)(q:Q .aQ F<|app H (.inst c (u3 J a v)::(r++[y]))):r0 a (.obj<|aK H) v F (app (app H<|.inst c J::r) [y]) Q:=by
 rw[gQ];refine iJ iF h z ?_;change Q .aQ F<|a7 (app H<|.inst c J::(r++[y])) _ (aK H);rw[r7];show q
include J
def VG{z:Nat}{D:List<|Nat×V}{B:V}(T:aD H z=AA (.inst 6 D))(C:fh D 'f'=AA B)(q:Q .none<|app H [.inst 5 [('C',.obj z),('8',.obj p),('>',.obj<|aK H+1),('7',.obj<|aK H+2),('-',.obj<|aK H+3),('p',B)],.lst [],.set [],.set []]):
  Fi W (n+1) 18 [.obj<|aK H,.obj z,.obj p] (app H [.inst 5 []]) Q:=by
 refine J.fe XC rfl ?_;refine iJ iF rfl rfl ?_;rw[r7];refine iJ iF rfl rfl ?_;rw[r7];refine eA (lz rfl)<|GV rfl rfl (GV rfl rfl<|GV rfl rfl (jA (dh T) rfl C<|iJ iF rfl rfl ?_));rw[r7,len_app,len_app,len_app];show q
end
section
variable{r:Nat->Nat}
theorem eY{J:α->V}(h:∀x,mv r (J x)=J x):∀{l:List α},e9 r (l.map J)=l.map J
 | []=>rfl|x::l=>(aF (·::e9 r (l.map J))<|h x).trans (aF (J x::·)<|eY h)
def kQ:mv r (aE t)=aE t:=by
 induction t with
 |v n=>rfl|c k z=>rfl|s1 f x J=>show aF (λy=>V.tup [.str [115],.int f,.tup [y]]) J|s2 f x y C B=>show congr (aF (λy z=>V.tup [.str [115],.int f,.tup [y,z]]) C) B
def s8:mv r (a8 g)=a8 g:=by
 rcases g with ⟨f,as⟩|⟨f,as⟩|⟨l,r⟩;show aF (λl=>V.tup [.str Aaa,.int f,.tup l]) (eY λq=>kQ);show aF (λl=>V.tup [.str Aad,.int f,.tup l]) (eY λq=>kQ);show congr (aF (λy z=>V.tup [.str [117,110,105,102,121],y,z]) kQ) kQ
def zA:e9 r (ah l)=ah l:=ot▸eY λy=>rfl
def Oz{i:bN}:mv r (jY i)=jY i:=by rcases i with _|_<;>rfl
end
def iN(P:Nat->Cell->Prop):List Nat->AH->Prop
 | [],[]=>True|i::σ,c::H=>bP (P i c) (iN P σ H)|_,_=>False
section
variable{P:Nat->Cell->Prop}
theorem iN.at_:∀{σ:List Nat} {H:AH} {j i:Nat},iN P σ H->σ[j]?=AA i->∃c,H[j]?=AA c/\P i c
 |_::_,c::_,0,_,⟨p,_⟩,e=>⟨c,rfl,ai e▸p⟩|_::σ,_::H,j+1,_,⟨_,q⟩,e=>iN.at_ (H:=H) q e
theorem iN.len:∀{σ:List Nat} {H:AH},iN P σ H->H.length=σ.length
 | [],[],_=>rfl|_::_,_::_,⟨_,q⟩=>aF BB<|iN.len q
theorem iN.map{f:α->Nat}{g:α->Cell}:∀{l:List α},(∀x∈l,P (f x)<|g x)->iN P (l.map f) (l.map g)
 | []=>λz=>trivial|x::l=>λh=>⟨h x h_,iN.map λy m=>h y<|.tail _ m⟩
end
def u4(C:σ.Nodup)(B:iN (λi c=>aD H i=AA (mc (rn σ H.length) c)) σ H1){f:Nat}(q:Fi W n f vs H1 λv H1'=>∀{H'},Bg σ H H1' H'->Q (mv (rn σ H.length) v) H'):Fi W n f (e9 (rn σ H.length) vs) H Q:=
 frame C B.len (λe=>(B.at_ e).elim λc J=>J.elim λa b=>⟨c,a,a9▸b⟩) q
def Vu{f:Nat->V}{k:Nat}(h:k∈K):aa (gw f K) (.int (k:Int))=AA (f k):=by
 induction K with
 |nil=>cases h|cons m l J=>
  by_cases e:m=k
  .subst e;show jj
  show(iH λq=>e<|nY _ _ q).trans<|J ((JJ.mp h).resolve_left λq=>e q.symm)
structure Pc(H:AH)(z gl p d lv ch st N es:Nat)(fn:Int)(ne:Bool)(O:List U.Tm)(goals:List Gl)(lives dU K:List Nat)(I:Nat->In)(A:Nat->Nat):Prop where
 yX:aD H z=AA (.inst 6 [('a',.int fn),('w',.tup (O.map aE)),('m',.obj gl),('f',.int (N:Nat))])
 FZ:aD H gl=AA (.lst (goals.map a8))
 q7:aD H p=AA (.inst 8 [('L',.obj d),('P',.obj ch),('E',.bool ne),('S',.int (es:Nat)),('B',.obj lv)])
 Et:aD H d=AA (.dict (gw (λk=>.obj (A k)) K) st)
 Ge:aD H lv=AA (.lst (ah lives))
 um:aD H ch=AA (.lst (ah dU))
 inf:∀k∈K,aD H (A k)=AA (.inst 7 (f9 k (I k)))
 nd:(p::d::lv::z::gl::ch::K.map A).Nodup
def q6(m p d lv z gl J:Nat)(B:List Nat):List Nat:=m::(m+1)::(m+2)::(m+3)::p::d::lv::z::gl::J::B
def zk(Z:Pl)(K J dU:List Nat)(st N es:Nat)(fn:Int)(ne:Bool)(O:List U.Tm)(goals:List Gl)(R:List bN):Cx:=⟨Z,K,gw (λk=>.obj<|K.idxOf k+10) K,st,ne,es,ah J,.int fn,O.map aE,.int N,goals.map a8,ah dU,R⟩
variable{gl ch:Nat}{fn:Int}{lives:List Nat}{R:List bN}
section
variable{z:Nat}{dU:List Nat}(P:Pc H z gl p d lv ch st N es fn ne O goals lives dU K I A)
include P
def Pc.lt:∀x∈p::d::lv::z::gl::ch::K.map A,x<H.length:=λx m=>by
 simp only[JJ] at m;rcases m with rfl|rfl|rfl|rfl|rfl|rfl|m;show gC P.q7;show gC P.Et;show gC P.Ge;show gC P.yX;show gC P.FZ;show gC P.um;obtain⟨k,hk,rfl⟩:=List.mem_map.mp m;show gC<|P.inf k hk
def Pc.nodup:(q6 (aK H) p d lv z gl ch<|K.map A).Nodup:=JL.mpr ⟨List.nodup_range' (n:=4),P.nd,λa ha b hb e=>by
 have:=P.lt b hb
 rw[<-e,<-dJ] at this;show eU _<|b6 this (List.mem_range'_1.mp ha).1⟩
def Pc.all{B:AH}(C:B=app H [.inst 5 [('C',.obj z),('8',.obj p),('>',.obj<|aK H+1),('7',.obj<|aK H+2),('-',.obj<|aK H+3),('p',.int (N:Nat))],.lst [],.set [],.set []])(D:K.Nodup):
  iN (λi c=>aD B i=AA (mc (rn (q6 (aK H) p d lv z gl ch<|K.map A) m) c)) (q6 (aK H) p d lv z gl ch<|K.map A) (hM (zk Z K lives dU st N es fn ne O goals R) (K.map λk=>(aD H<|A k).getD<|.set []) [] ⟨[],[],N⟩):=by
 have e:jF (rn (q6 (aK H) p d lv z gl ch<|K.map A) m) (gw (λk=>.obj<|K.idxOf k+10) K)=gw (λk=>.obj<|A k) K:=by
  unfold jF gw;rw[gm];refine jO λk hk=>?_;have J:=cK<|List.idxOf_lt_length_iff.mpr hk;rw[p9] at J
  have:=(f3).trans<|aF (Bl A) J
  show aF (λi=>(Atom.int k,V.obj i))<|pS this
 subst C;refine⟨iF,eN,eN,eN,dh P.q7,dh<|P.Et.trans (aF (λl=>AA<|Cell.dict l st) e.symm),dh<|P.Ge.trans (aF (λl=>AA<|Cell.lst l) zA.symm),dh<|P.yX.trans (aF (λl=>AA<|Cell.inst 6 [('a',.int fn),('w',.tup l),('m',.obj gl),('f',.int N)]) (eY λy=>kQ).symm),dh<|P.FZ.trans (aF (λl=>AA<|Cell.lst l) (eY λy=>s8).symm),dh<|P.um.trans (aF (λl=>AA<|Cell.lst l) zA.symm),iN.map λk hk=>?_⟩;have h:=P.inf k hk;rw[h];show dh h
end
def ten{P:Nat->Prop}(h0:P 0)(h1:P 1)(h2:P 2)(h3:P 3)(h4:P 4)(h5:P 5)(h6:P 6)(h7:P 7)(h8:P 8)(h9:P 9)(h:∀k,P<|k+10)(j:Nat):P j:=by
 rcases j with _|_|_|_|_|_|_|_|_|_|j;show h0;show h1;show h2;show h3;show h4;show h5;show h6;show h7;show h8;show h9;show h j
structure Pk(Z:Pl)(K:List Nat)(I:Nat->In):Prop where
 nK:K.Nodup
 kl:K.length<4000
 kd:∀k∈K,(I k).kd=kindS Z k
 sl:∀k∈K,Z.perm k=AB->(I k).sl=Z.slot k
 un:∀k∈K,(I k).dt=Z.dt k
 la:∀k∈K,(I k).last=Z.last k
 ex:∀k∈K,Z.void k=AB->Z.perm k=AD
section
variable(J:bG W){z:Nat}{dU:List Nat}(P:Pc H z gl p d lv ch st N es fn ne O goals lives dU K I A)(k:Pk Z K I)
include P k
theorem Pc.ok(B:R.length<=aM):(zk Z K lives dU st N es fn ne O goals R).Ok<|K.map λk=>(aD H<|A k).getD (.set []):=⟨λj (hj:j∈K)=>by
 have h:=P.inf j hj;have J:=cK<|List.idxOf_lt_length_iff.mpr hj;rw[p9] at J;refine⟨K.idxOf j,f9 j<|I j,Vu hj,?_,aF (λs=>AA<|V.str s)<|k.kd j hj,λe=>aF (λs:Nat=>AA<|V.int s)<|k.sl j hj e,aF (λs=>AA<|V.bool s)<|k.un j hj,aF (λs=>AA<|V.int s)<|k.la j hj⟩;rw[a9,f3,J];change AA ((aD H<|A j).getD _)=_;rw[h];rfl,k.ex,k.kl,B⟩
include J
def VO{C:Nat->Nat}{s:V}(T:∀j,j+1<goals.length->aD (ah lives) j=AA (.int (C j:Nat)))(h1:goals≠[])(Y:(jV Z N C ne es O goals).length<=aM)(S:∀t∈O,aR t=AD/\∀x,t.has x->x∈K)
  (v:∀g∈goals,wZ (zk Z K lives dU st N es fn ne O goals<|jV Z N C ne es O goals) g) {Q:K1}
  (q:∀{H'},aD H' (aK H+1)=AA (.lst<|(jV Z N C ne es O goals).map jY)->(∀{i x},aD H i=AA x->i∉K.map A->aD H' i=AA x)->Q (.obj<|aK H+1) H'):Fi W (n+13) 46 [s,.obj z,.obj p] H Q:=by
 refine J.fe Xf rfl ?_;refine VG J P.yX rfl ⟨rfl,aBZ iF rfl rfl ?_⟩;have nd:=P.nodup;generalize M:app H [.inst 5 [('C',.obj z),('8',.obj p),('>',.obj<|aK H+1),('7',.obj<|aK H+2),('-',.obj<|aK H+3),('p',.int N)],.lst [],.set [],.set []]=HB;have all:=P.all (Z:=Z) (R:=jV Z N C ne es O goals) (m:=HB.length) M.symm k.nK;have I:∀{i x},aD H i=AA x->aD HB i=AA x:=λh=>M▸dh h;refine u4 nd all<|VJ J rfl rfl rfl T h1 (P.ok k Y) S v λ{G c} o {H'} b=>q ?_ λ{i x} L X=>?_
 .rw[a9,<-eY λu=>Oz];show b.gI (j:=1) rfl
 rw[a9];have hx:=I L;by_cases m:i∈q6 (aK H) p d lv z gl ch (K.map A)
 .obtain⟨j,hj⟩:=List.mem_iff_getElem?.mp m;obtain⟨E,h0,h3⟩:=all.at_ hj;obtain rfl:=ai<|h3.symm.trans hx;have B:∀k,i≠aK H+k:=λk e=>eU _<|bZ (aA (aY _ k)<|bJ e.symm) (dJ▸gC L);have D:∀{j y},(q6 (aK H) p d lv z gl ch<|K.map A)[j]?=AA i->(hM (zk Z K lives dU st N es fn ne O goals<|jV Z N C ne es O goals) G (jV Z N C ne es O goals) c)[j]?=AA y->y=E->H'[i]?=AA (mc (rn (q6 (aK H) p d lv z gl ch<|K.map A) HB.length) E):=λhj a e=>by
   have:=b.gI a
   rw[pS hj,e] at this;show this
  induction j using ten with
  |h0=>show absurd (ai hj).symm (B 0)|h1=>show absurd (ai hj).symm (B 1)|h2=>show absurd (ai hj).symm (B 2)|h3=>show absurd (ai hj).symm (B 3)|h k=>show absurd (eK<|show(K.map A)[k]?=AA i from hj) X|_=>show D hj rfl<|ai h0
 show b.out m<|a9▸hx
end
variable{x:Int}
def sD(B:0<=x)(h:x<2 ^ 64):A3 x<=4096:=by
 unfold A3;split
 show bK _;rename_i hx;have hn:x.natAbs≠0:=λq=>hx (by rw[Int.natAbs_eq_zero.mp q];rfl)
 have J:=Sg B h;show aA ((Nat.log2_lt hn).mpr J) ⋯
def Lz{m:Int}(h:0<m):0<=Bv x m/\Bv x m<m:=⟨Int.fmod_nonneg_of_pos x h,Int.fmod_lt_of_pos x h⟩
def WX(h:0<m):∃r:Nat,Bv x (m:Int)=(r:Int)/\r<m:=by
 obtain⟨J,B⟩:=Lz<|Int.ofNat_lt.mpr h;show⟨(Bv x m).toNat,(Sj J).symm,Int.ofNat_lt.mp<|(Sj J).symm▸B⟩
def aCv{b:Int}(C:0<=x)(h:x<'K')(B:0<=b)(J:b<='Q'):(0<=x+104729*b+17/\x+104729*b+17<2 ^ 64)/\(0<='9'+2*b/\'9'+2*b<2 ^ 64):=
 ⟨⟨Iu (Iu C<|Int.mul_nonneg ⋯ B) ⋯,Dc (Int.add_lt_add_right (Int.add_lt_add_of_lt_of_le h<|Sf J ⋯) 17) ⋯⟩,⟨Iu ⋯<|Int.mul_nonneg ⋯ B,rU (Int.add_le_add_left (Sf J ⋯) _) ⋯⟩⟩
@[reducible] def Z2:aL:=(.cons (.cW (.var 0) (.const<|.int 0)<|.op (.bin .Mod) (.cons (.op (.bin .Mult)<|.cons (.op (.bin .Add)<|.cons (.op (.bin .Add)<|.cons (.op (.bin .Mod)<|.cons (.var 3) (.cons (.const<|.int 'K') .nil)) (.cons (.op (.bin .Mult)<|.cons (.const<|.int 104729) (.cons (.var 2) .nil)) .nil)) (.cons (.const<|.int 17) .nil)) (.cons (.op (.bin .Add)<|.cons (.const<|.int '9') (.cons (.op (.bin .Mult)<|.cons (.const<|.int 2) (.cons (.var 2) .nil)) .nil)) .nil))<|.cons (.const<|.int 'K') .nil)) .nil)
def VC{d:Prop}{t:Bool}{a b:BT}{Q:K2}(q:b F H Q):cBool d (.bool t) λy=>N0 a b F Q (.bool AD) H:=q
@[reducible] def gU(R:AH)(S:List Int)(a:Int)(b:Nat):AH:=.lst [.int a,.int b,.lst<|S.map .int]::R
variable{R:AH}{b:Nat}{S:List Int}{a:Int}
section
variable(J:bG W)(hS:S≠[])(hb:b<='Q')(hm:0<m)(hm2:m<1073741824) (q:∀{r:Nat} {a':Int} {b':Nat},r<m->b'<=b+1->Q (.int (r:Int)) (gU R S a' b'))
theorem LN(E:b<='Q'){J:Int}{B:Nat}{K:K2}(k:∀{G},K .aQ [AA<|.obj 0,x1,AA<|.int (b:Int),AA<|.int J,x4]<|gU R S G B):aU W n Z2 [AA<|.obj 0,x1,AA<|.int (b:Int),AA<|.int J,x4] (gU R S a B) K:=by
 obtain⟨x1,x2⟩:=Lz (m:='K') ⋯
 have C:=eI b;have B:=Int.ofNat_le.mpr E;obtain⟨⟨M,L⟩,T,D⟩:=aCv x1 x2 C B;have b2:(b:Int)<2 ^ 64:=rU B ⋯
 show gD (uV.int ⋯)<|gD (EB.int (sD ⋯ ⋯)<|sD C b2) (gD (EB.int (sD ⋯ ⋯)<|sD C b2)<|gD (EB.int (sD M L)<|sD T D) (gD (uV.int ⋯) ⟨lz rfl,k⟩))
include hm hm2 q
theorem LO{C:Int}{B:Nat}(J:B<=b+1):aU W n (dp 1 F3) [AA<|.obj 0,AA<|.int (m:Int),x2,x3,AE] (gU R S C B)<|gJ Q:=by
 obtain⟨r,e,hr⟩:=WX hm;refine gD (uV.int<|Int.ofNat_lt.mpr hm) ?_;rw[e];show gD (Ti.int (Int.ofNat_lt.mpr hm)<|Int.ofNat_lt.mpr hm2) ⟨lz rfl,q hr J⟩
include J hS hb
theorem jX:Fi W (n+1) 64 [.obj 0,.int (m:Int)] (gU R S a b) Q:=by
 have C:=List.length_pos_iff.mpr hS;refine J.fe Xs rfl ?_;refine cC 1 ?_;by_cases ha:a<'$'
 .refine aS (a6 ha) ⟨lz rfl,GS rfl (aF Bb<|aO _) C ?_⟩;have hj:b % S.length<S.length:=wz _ C;refine ba (pO<|a9▸cK hj) ?_;generalize S[b % S.length]=cell;by_cases hc:cell=0;show aS (a6 hc)<|q hm (aV _);refine aN (bE hc) ?_;have B:∀{L:Int},Stop (aU W n<|dp 1 F3) [AA<|.obj 0,AA<|.int m,AA<|.int b,AA<|.int cell,AE] (gU R S L<|b+1)<|gJ Q:=bL<|LO hm hm2 q (aV _);by_cases T:b<(S.map V.int).length
  .refine aS (a6<|Int.ofNat_lt.mpr T) (gD (EC.int ⋯ ⋯) ?_)
   by_cases D:(10 ^ (18:Int).toNat:Int)<=cell;show aS (a6 D)<|gD (EC.int ⋯ ⋯) (gD (uV.int ⋯) ⟨lz rfl,B⟩)
   show aN (bE D)<|LN hb B
  show aN (bE λe=>T<|Int.ofNat_lt.mp e)<|VC (LN hb B)
 show aN (bE ha)<|bL (LO hm hm2 q<|b8 _)
end
structure Tz(d:Nat)(ns:List Nat)(t:U.Tm):Prop where
 wt:t.WT
 vs:∀x,t.has x->x∈ns
 dp:t.dep<=d
 sz:t.aX+1<=2 ^ (d+1)
def Tz.leaf{ns:List Nat}(J:t.WT)(vs:∀x,t.has x->x∈ns)(C:t.dep=0)(B:t.aX=1):Tz d ns t:=⟨J,vs,C▸bK _,by rw[B,D7];show Td 2<|Nat.one_le_two_pow⟩
section
variable{b' b1 b2 P X t u:Nat}
def RI(h:b+(P+P)<='Q')(p:3<=P):b+2<='Q':=aA (b7 (aA (eT p)<|aY P P) b) h
def RJ(p:3<=P)(h:b'<=b+2):b'+1<=b+(P+P):=aA (bj h)<|b7 (aA p<|aY P P) b
def tb4(J:b+(P+P)<='Q')(p:3<=P)(h:b'<=b+1):b'+P<='Q':=aA (bX (aA h<|b7 (aA ⋯ p) b) P) (by rw[bH];show J)
def tb5(p:3<=P)(h:b'<=b+1)(J:b1+1<=b'+P):b1+1<=b+(P+P):=aA J (by rw[<-bH];show bX (aA h<|b7 (aA ⋯ p) b) P)
def Hw(h:b'<=b+1)(J:b1+1<=b'+P):b1<=b+P:=gN<|aA J (by rw[<-w5];show bX h P)
def tb7(h:b1<=b+P)(J:b2+1<=b1+P):b2+1<=b+(P+P):=aA J (by rw[<-bH];show bX h P)
def RK(J:b+(P+P)<='Q')(h:b1<=b+P):b1+P<='Q':=aA (bX h P) (by rw[bH];show J)
def tz1(h:t+1<=X):t+1+1<=X*2:=by rw[Jd];show bW h<|aA (bU 1 t) h
def tz2(h:t+1<=X)(k:u+1<=X):t+u+1+1<=X*2:=by rw[Jd,bH t,dX t<|u+1];show bW h k
end
def oP(na:Nat):V:=.lst [.int na,.int 32,.int 33]
variable{na:Nat}
section
variable(J:bG W)(hS:S≠[]){ns:List Nat}
include J hS
def Hy(T:b<='Q'){D:V}(q:∀{t a' b'},Tz d ns t->b'<=b+1->Q (aE t) (gU R S a' b')):bT W (n+1) (.op .tup<|.cons (.const<|.str [105]) (.cons (.op .sub<|.cons (.op .lst<|.cons (.const<|.int 0) (.cons (.const<|.int 1)<|.cons (.const<|.int (-1)) (.cons (.op (.bin .Pow)<|.cons (.const<|.int 10) (.cons (.const<|.int 30) .nil)) .nil))) (.cons (.call 64<|.cons (.var 0) (.cons (.const<|.int 4) .nil)) .nil)) .nil)) [AA<|.obj 0,x1,AA D,x3,x4,x5] (gU R S a b) Q:=by
 refine gD (EC.int ⋯ ⋯)<|kY (lz rfl) (jX J hS T ⋯ ⋯ λ{r a' b'} hr B=>?_)
 have C:∀{z:Int},Tz d ns<|.c AD z:=.leaf trivial (λx h=>h.elim) rfl rfl;rcases r with _|_|_|_|r;show q C B;show q C B;show q C B;show q C B;show absurd hr<|Nat.not_lt.mpr (bU 4 r)
variable(hns:ns≠[])(hn:ns.length<'$')
include hns hn
def RO{z:Option V}(T:b+2<='Q')(q:∀{t a' b'},(∀d,Tz d ns t)->b'<=b+2->Q (aE t) (gU R S a' b'))(k:∀{r:Nat} {a' b'},4<=r->r<8->b'<=b+1->aU W (n+1) (dp 3 GB) [AA<|.obj 0,AA<|oP na,z,AA<|.lst (ah ns),AA<|.int (r:Nat),AE] (gU R S a' b') (gJ Q)):
  aU W (n+1) GB [AA<|.obj 0,AA<|oP na,z,AA<|.lst (ah ns),AE,AE] (gU R S a b) (gJ Q):=by
 refine cC 3<|jX J hS (aA (aY _ 2) T) ⋯ ⋯ λ{r a' b'} hr C=>?_
 have B:=aA C<|eT T;by_cases h:r<3
 .refine aS (a6<|Int.ofNat_lt.mpr h) (jX J hS B (jZ▸List.length_pos_iff.mpr hns) (jZ▸iB hn ⋯) λ{r L b2} hr B=>?_)
  rw[jZ] at hr;show ba (sN<|cK hr)<|q (t:=.v ns[r]) (λd=>.leaf trivial (λx h=>(h)▸m8 hr) rfl rfl) (aA B<|bj C)
 refine aN (bE λe=>h<|Int.ofNat_lt.mp e) ?_;by_cases D:r=3
 .refine aS (a6<|aF Bb D) (kY (lz rfl)<|jX J hS B ⋯ ⋯ λ{r L b2} hr B=>?_)
  rcases r with _|_|r;show q (t:=.c AB 0) (λd=>.leaf trivial (λx h=>h.elim) rfl rfl)<|aA B (bj C);show q (t:=.c AB na) (λd=>.leaf trivial (λx h=>h.elim) rfl rfl)<|aA B (bj C);show absurd hr<|Nat.not_lt.mpr (bU 2 r)
 show aN (bE λe=>D<|d6 e)<|bL (k (Tb (qF h) λe=>D e.symm) hr C)
def C4:∀{d:Nat} {a:Int} {b:Nat} {Q:K1},b+3*2 ^ d<='Q'->(∀{t a' b'},Tz d ns t->b'+1<=b+3*2 ^ d->Q (aE t) (gU R S a' b'))->Fi W (n+2+d) 79 [.obj 0,oP na,.int (d:Nat),.lst<|ah ns] (gU R S a b) Q:=by
 intro d
 induction d with
 |zero=>
  intro a b Q hb q;generalize hz:((0:Nat):Int)=z;refine J.fe ML rfl ?_;refine RO J hS hns hn (eT hb) (λht B=>q (ht 0)<|bj B) λ{r a' b'} y y B=>?_;have G:b'<='Q':=aA B<|eT (eT hb);by_cases Y:r=4;show aS (a6<|aF Bb Y) (Hy (d:=0) J hS G λht h=>q ht<|bj (aA h<|bj B));show aN (bE λe=>Y<|d6 e)<|aS (a6 hz.symm) (Hy (d:=0) J hS G λht h=>q ht<|bj (aA h<|bj B))
 |succ d I=>
  intro a b Q hb q;rw[show n+2+d=n+1+d+1 by rw[dX n 1 d,dX n 2 d]] at I
  rw[show n+2+(d+1)=n+1+d+1+1 by rw[dX n 1 d,<-bH,dX n 2 d]]
  have L:∀{z:Int} {a:Int} {b:Nat} {Q:K1},z=d->b+3*2 ^ d<='Q'->(∀{t a' b'},Tz d ns t->b'+1<=b+3*2 ^ d->Q (aE t) (gU R S a' b'))->Fi W (n+1+d+1) 79 [.obj 0,oP na,.int z,.lst<|ah ns] (gU R S a b) Q:=λe=>e▸I;have e2:3*2 ^ (d+1)=3*2 ^ d+3*2 ^ d:=by rw[D7,<-Nat.mul_assoc,Jd]
  have M:=TZ 3<|Nat.two_pow_pos d;rw[e2] at hb q;have E:((d+1:Nat):Int)≠0:=λe=>nomatch d6 e;have D:((d+1:Nat):Int)-1=d:=uH d 1;generalize ((d+1:Nat):Int)=z at E D ⊢;refine J.fe ML rfl ?_;refine RO (b:=b) J hS hns hn (RI hb M) (λht B=>q (ht _)<|RJ M B) λ{r a' b'} y y B=>?_;by_cases Y:r=4;show aS (a6<|aF Bb Y) (Hy (d:=d+1) (b:=b') J hS (aA (eM B)<|RI hb M) λht h=>q ht<|RJ M (aA h<|bj B));refine aN (bE λe=>Y<|d6 e)<|aN (bE E) (L D (tb4 hb M B) λ{P k b1} C O=>?_);by_cases N:r=5
  .refine aS (a6<|aF Bb N)<|q (t:=.s1 32 P) ⟨⟨rfl,C.wt⟩,C.vs,bj C.dp,?_⟩ (tb5 M B O);rw[D7 2<|d+1];show tz1 C.sz
  refine aN (bE λe=>N<|d6 e) ?_;have Z:∀{f:Nat},f=0\/f=33->∀{A X b2},Tz d ns A->b2+1<=b1+3*2 ^ d->Q (aE<|.s2 f P A) (gU R S X b2):=λ{f} hf {A X b2} T j=>by
   refine q ⟨⟨hf,C.wt,T.wt⟩,λx h=>h.elim (C.vs x)<|T.vs x,bj<|Nat.max_le.mpr ⟨C.dp,T.dp⟩,?_⟩<|tb7 (Hw B O) j;rw[D7 2<|d+1];show tz2 C.sz T.sz
  by_cases K:r=6;show aS (a6<|aF Bb K)<|L D (RK hb<|Hw B O) (Z<|.inl rfl);show aN (bE λe=>K<|d6 e)<|L D (RK hb<|Hw B O) (Z<|.inr rfl)
end
def o3(s:List Nat):Atom:=.str s
def oy(p:Nat×Nat):List Atom:=[.int p.1,.int p.2]
def GJ(a b:List Nat)(h:o3 a=o3 b):a=b:=Atom.str.inj h
def GH(a b:Nat×Nat)(h:oy a=oy b):a=b:=by
 injection h with B J;injection J with J;show iD (d6<|Atom.int.inj B)<|d6 (Atom.int.inj J)
def oq(p:Nat×Nat):V:=.tup [.int p.1,.int p.2]
@[reducible] def e7(p:Cell)(R:AH)(D:List<|List Nat)(fs:List<|Nat×Nat)(s s':Nat):AH:=p::.inst 0 [('4',.obj 2),('q',.obj 3),('H',.obj 4),('o',.obj 5)]::.lst (D.map V.str)::.dict (de o3 0 D) s::.lst (fs.map oq)::.az (de oy 0 fs) s'::R
def dR[DecidableEq α](l:List α)(x:α):List α:=if x∈l then l else l++[x]
def iz[DecidableEq α](l:List α)(x:α):Nat:=0+l.idxOf x
def Mg[DecidableEq α]{tb:List α}{n:α}(h:n∉tb):iz (tb++[n]) n=tb.length:=by unfold iz;rw[JG,aB h,Dq,cT,cT]
variable{s' a:Nat}{fs:List (Nat×Nat)}{t:List Nat}
section
variable(J:bG W){p:Cell}{s:Nat}{D:List (List Nat)}
include J
def ER(z:D.length<'$')(q:∀{s},Q (.int (iz (dR D t) t:Nat))<|e7 p R (dR D t) fs s s'):Fi W (n+1) 4 [.obj 1,.str t] (e7 p R D fs s s') Q:=by
 unfold dR at q;refine J.fe g4 rfl<|cC 1 ?_;change Stop (aU W n<|dp 1 j4) [AA<|.obj 1,AA<|.str t,AA<|(aa (de o3 0 D)<|o3 t).getD (.int<|-1),AE] (e7 p R D fs s s')<|gJ Q;by_cases m:t∈D
 .rw[aC m] at q;rw[sM GJ m];show bL q
 have el:(D.map V.str).length=D.length:=aO _;rw[aB m,Mg m] at q;have q:=q (s:=s+1);unfold e7 at q;rw[<-E0 GJ m,bw,<-el] at q;rw[uu GJ m];show bL ⟨el▸iB z ⋯,⟨by rw[qU];show aA (dc z)<|lz rfl,q⟩⟩
def W5{k:Nat}(z:fs.length<'$')(q:∀{s'},Q (.int (iz (dR fs (a,k)) (a,k):Nat))<|e7 p R D (dR fs (a,k)) s s'):Fi W (n+1) 6 [.obj 1,.int (a:Nat),.int (k:Nat)] (e7 p R D fs s s') Q:=by
 unfold dR at q;refine J.fe g6 rfl<|cC 2 ?_;change Stop (aU W n<|dp 2 j6) [AA<|.obj 1,AA<|.int a,AA<|.int k,AA<|.tup [.int a,.int k],AA<|(aa (de oy 0 fs)<|oy (a,k)).getD (.int<|-1),AE] (e7 p R D fs s s')<|gJ Q;by_cases m:(a,k)∈fs
 .rw[aC m] at q;rw[sM GH m];show bL q
 have el:(fs.map oq).length=fs.length:=aO _;rw[aB m,Mg m] at q;have q:=q (s':=s'+1);unfold e7 at q;rw[<-E0 GH m,bw,<-el] at q;rw[uu GH m];show bL ⟨el▸iB z ⋯,⟨by rw[qU];show aA (dc z)<|lz rfl,q⟩⟩
def MH{k:Nat}(z:D.length<'$')(B:fs.length<'$')(q:∀{s s'},Q (.int (iz (dR fs (iz (dR D t) t,k)) (iz (dR D t) t,k):Nat))<|e7 p R (dR D t) (dR fs (iz (dR D t) t,k)) s s'):Fi W (n+2) 7 [.obj 1,.str t,.int (k:Nat)] (e7 p R D fs s s') Q:=by
 refine J.fe g7 rfl ?_;show ER J z<|W5 J B q
end
def H7:List<|List Nat:=[[91,93],[46],[123,125],[45],[43],[42],[47],[44],[124],[59],[45,62],[92,43],[58,45],[63,45],[45,45,62],[33],[116,114,117,101],[102,97,105,108],[102,97,108,115,101],Aaa,[61],[94],[101,114,114,111,114],[],[101,110,100,95,111,102,95,102,105,108,101],[115,121,115,116,101,109],[36,86,65,82],[99,97,116,99,104],[116,104,114,111,119]]
def L0:List<|List Nat×Nat:=[([46],2),([44],2),([59],2),([45,62],2),([92,43],1),([58,45],2),([58,45],1),([63,45],1),([45,45,62],2),([123,125],1),([61],2),([94],2),([45],1),([45],2),([43],2),([47],2),([101,114,114,111,114],2),([36,86,65,82],1),([99,97,116,99,104],3),([116,104,114,111,119],1),([33],0),([116,114,117,101],0),([102,97,105,108],0),([102,97,108,115,101],0),(Aaa,1),(Aaa,2),(Aaa,3),(Aaa,4),(Aaa,5),(Aaa,6),(Aaa,7),(Aaa,8)]
def iR(p:List (List Nat)×List (Nat×Nat))(r:List Nat×Nat):List (List Nat)×List (Nat×Nat):=(dR p.1 r.1,dR p.2 (iz (dR p.1 r.1) r.1,r.2))
def r6[DecidableEq α]{l:List α}{x:α}:(dR l x).length<=l.length+1:=by
 unfold dR;split
 show b8 _;show bJ a5
def v8:List (List Nat)×List (Nat×Nat):=L0.foldl iR (H7.foldl dR [],[])
def Wh[DecidableEq α]{l:List α}:∀{D:List α},(l.foldl dR D).length<=D.length+l.length:=by
 induction l with
 |nil=>show aV _|cons t l J=>show aA J<|aA (bX r6 _) (by rw[bH,bQ 1];show aV _)
variable{Q:K2}
section
variable(J:bG W){P0:Cell}
include J
def aG4:∀{l D:List<|List Nat} {s:Nat} {o:Option V},D.length+l.length<=900->(∀{s o},Q .aQ [AA<|.obj 1,o,AE]<|e7 P0 R (l.foldl dR D) fs s s')->d5 1 (aU W (n+1) NF) (l.map V.str) [AA<|.obj 1,o,AE] (e7 P0 R D fs s s') Q:=by
 intro l
 induction l with
 |nil=>show λy q=>q|cons t l B=>show λz q=>e5 λK k=>ER J (bZ (aA (aY _ _) z) ⋯) λ{s}=>k<|B (aA (bX r6 _) (by rw[bH,bQ 1];show z)) q
def aFT{x:Option V}:∀{l:List<|List Nat×Nat} {p:List (List Nat)×List (Nat×Nat)} {s s':Nat} {o:Option V},p.1.length+l.length<=900->p.2.length+l.length<=900->(∀{s s' o},Q .aQ [AA<|.obj 1,x,o]<|e7 P0 R (l.foldl iR p).1 (l.foldl iR p).2 s s')->d5 2 (aU W (n+2) NG) (l.map λr:List Nat×Nat=>V.tup [.str r.1,.int (r.2:Nat)]) [AA<|.obj 1,x,o] (e7 P0 R p.1 p.2 s s') Q:=by
 intro l
 induction l with
 |nil=>show λy y q=>q|cons r l D=>show λC B q=>e5 λK k=>MH J (bZ (aA (aY _ _) C) ⋯) (bZ (aA (aY _ _) B) ⋯) λ{s s'}=>k<|D (aA (bX r6 _) (by rw[bH,bQ 1];show C)) (aA (bX r6 _) (by rw[bH,bQ 1];show B)) q
def aGY{Q:K1}(q:∀{s s'},Q .none<|e7 P0 [] v8.1 v8.2 s s'):Fi W (n+3) 3 [.obj 1] [P0,.inst 0 []] Q:=by
 refine J.fe g3 rfl ?_;refine eA (lz rfl)<|mO (eA (lz rfl)<|vN ?_);refine J.fe g1 rfl ?_;refine aG4 J (l:=H7) (D:=[]) (fs:=[]) (lz rfl) ?_;refine J.fe g2 rfl ?_;show aFT J (l:=L0) (p:=(H7.foldl dR [],[])) (aA (bX (Wh (D:=[])) _)<|lz (b:=900) rfl) (lz rfl) q
end
def i7(p:U.Place):List Atom:=[.str [p.1],.int p.2]
variable{p:U.Place}
def GI{q:U.Place}(h:i7 p=i7 q):p=q:=by
 injection h with B J;injection J with J;show iD (p8<|Atom.str.inj B).1<|d6 (Atom.int.inj J)
def bz(l:List<|U.Place×U.Tm):List<|List Atom×V:=l.map λp=>(i7 p.1,aE p.2)
def encL(J:Nat->Int)(l:List Nat):List<|Atom×V:=l.map λx:Nat=>(Atom.int x,V.int<|J x)
variable{l:List (U.Place×U.Tm)}{t:U.Tm}{x:Nat}
section
variable{lf:Nat->Int}
def E3:aa (bz l) (i7 p)=(aa l p).map aE:=by
 induction l with
 |nil=>rfl|cons q l J=>
  obtain⟨k,u⟩:=q;by_cases e:k=p
  .subst e;show jj.trans<|aF (Bl aE) jj.symm
  show(iH λq=>e<|GI q).trans<|J.trans (aF (Bl aE) (iH e).symm)
def LV:cB (bz l) (i7 p) (aE t)=bz (cB l p t):=by
 have e:((bz l).any λq=>decide<|q.1=i7 p)=l.any λq=>decide<|q.1=p:=by
  unfold bz;rw[List.any_map];show aF (l.any ·)<|funext λq=>decide_eq_decide.mpr ⟨GI,aF i7⟩
 unfold cB;rw[e];rcases l.any λq=>decide (q.1=p) with _|_
 .rw[aB aI,aB aI];unfold bz;rw[bw];rfl
 rw[aC rfl,aC rfl];unfold bz;rw[gm,gm];refine jO λq y=>?_;obtain⟨k,u⟩:=q;change(if i7 k=i7 p then _ else _)=(i7 (if k=p then(k,t) else(k,u)).1,aE (if k=p then(k,t) else(k,u)).2)
 by_cases h:k=p
 .rw[aC h,aC<|aF i7 h]
 rw[aB h,aB λq=>h<|GI q]
def ux:aa (encL lf L) (.int (x:Int))=if x∈L then AA (.int<|lf x) else AE:=by
 unfold encL
 induction L with
 |nil=>show(aB eL).symm|cons y L J=>
  by_cases e:y=x
  .subst e;show jj.trans (aC h_).symm
  refine(iH λq=>e<|d6 (Atom.int.inj q)).trans<|J.trans ?_;by_cases m:x∈L
  .rw[aC m,aC<|.tail _ m]
  rw[aB m,aB λq=>(JJ.mp q).elim (λq=>e q.symm) m]
def Vx:qe (encL lf L) (.int (x:Int))=encL lf (L.filter λn=>decide<|U.Tm.v x≠.v n):=by
 unfold qe encL;rw[List.filter_map];refine aF (List.map _)<|Sz λy z=>decide_eq_decide.mpr ⟨λh q=>h<|aF (λn:Nat=>Atom.int n) (U.Tm.v.inj q).symm,λh q=>h<|aF U.Tm.v (d6<|Atom.int.inj q).symm⟩
def Vy{z:Int}(h:x∉L):cB (encL lf L) (.int (x:Int)) (.int z)=encL (λm=>if m=x then z else lf m) (L++[x]):=by
 rw[sr<|by rw[ux,aB h]]
 unfold encL;rw[bw];show congr (aF _<|jO λj m=>aF (λz=>(Atom.int j,V.int z)) (aB λe:j=x=>h<|e▸m).symm)<|aF (λz=>[(Atom.int x,V.int z)]) (aC rfl).symm
end
structure Fx where
 c1:Cell
 c2:Cell
 fs:List (Nat×Nat)
 c4:Cell
 code:List bN
 call:List U.Tm
 picks:List Nat
@[reducible] def hF(X:Fx)(b:Bd)(st:Nat)(evs:List U.Ev)(ks:List U.Tm)(G:AH):AH:=.inst 0 [('4',.obj 1),('q',.obj 2),('H',.obj 3),('o',.obj 4)]::X.c1::X.c2::.lst (X.fs.map oq)::X.c4::.lst (X.code.map jY)::.dict (d9 b) st::.lst (X.call.map aE)::.lst (evs.map fM)::.lst (ks.map aE)::G
@[reducible] def fF(X:Fx)(h r J:Nat)(lv:Int)(x8 x10 x11:Option V)(t:Fa):Fa:=AA (.obj 0)::AA (.obj 5)::AA (.obj 6)::AA (.obj 7)::AA (.lst<|fN X.picks)::AA (.obj 8)::AA (.obj 9)::AA (.obj<|h+10)::x8::AA (.obj 11)::x10::x11::AA (.obj<|r+10)::AA (.int J)::AA (.int lv)::t
structure Sd(G:AH)(h r:Nat)(l:List (U.Place×U.Tm))(hd:U.Place->Option U.Tm)(L:List Nat)(lf:Nat->Int)(rs:List U.Tm):Prop where
 hh:∃s,aD G h=AA (.az (bz l) s)
 hk:∀p,hd p=aa l p
 ll:∃s,aD G 1=AA (.dict (encL lf L) s)
 rr:aD G r=AA (.lst (rs.map aE))
variable{X:Fx}{ks rs rs':List U.Tm}{r:Nat}{L':List Nat}
section
variable{b:Bd}{h:Nat}{hd:U.Place->Option U.Tm}{lf:Nat->Int}
def kR{c d:Cell}(B:aD G i=AA c)(J:aD G j=AA d)(h:c≠d):i≠j:=λe=>h<|ai (B.symm.trans<|e▸J)
section
variable(s:Sd G h r l hd L lf rs)
def Sd.put{k:Nat}:Sd (a7 G (.az (bz<|cB l p t) k) h) h r (cB l p t) (U.pt hd p t) L lf rs:=
 let ⟨_,J⟩:=s.hh
 let ⟨_,B⟩:=s.ll
 ⟨⟨_,cf J⟩,λq=>by unfold U.pt;rw[sq,s.hk],⟨_,fB B<|kR J B Cell.noConfusion⟩,fB s.rr<|kR J s.rr Cell.noConfusion⟩
def Sd.app{g:AH}:Sd (app G g) h r l hd L lf rs:=⟨s.hh.elim λy a=>⟨_,dh a⟩,s.hk,s.ll.elim λy a=>⟨_,dh a⟩,dh s.rr⟩
def Sd.new:Sd (Mine.app G [.lst<|rs'.map aE]) h (aK G) l hd L lf rs':=⟨(s.app).hh,s.hk,(s.app).ll,eN (k:=0)⟩
def Sd.rest:Sd (a7 G (.lst<|rs'.map aE) r) h r l hd L lf rs':=
 let ⟨_,B⟩:=s.hh
 let ⟨_,J⟩:=s.ll
 ⟨⟨_,fB B<|kR s.rr B Cell.noConfusion⟩,s.hk,⟨_,fB J<|kR s.rr J Cell.noConfusion⟩,cf s.rr⟩
def Sd.pop{k:Nat}:Sd (a7 G (.dict (encL lf L') k) 1) h r l hd L' lf rs:=
 let ⟨_,B⟩:=s.hh
 let ⟨_,J⟩:=s.ll
 ⟨⟨_,fB B<|kR J B Cell.noConfusion⟩,s.hk,⟨_,cf J⟩,fB s.rr<|kR J s.rr Cell.noConfusion⟩
end
section
variable{Q:K1}
section
variable(s:Sd G h r l hd L lf rs)
def lF(e:hd p=AA t)(q:Q (aE t)<|hF X b st evs ks G):ir W (.obj<|h+10) (bY p) (hF X b st evs ks G) Q:=by
 obtain⟨_,J⟩:=s.hh;change ob (aD G h) _ _;rw[J];change iQ (aa (bz l)<|i7 p) _ _;rw[E3,<-s.hk,e];show q
def OC(e:hd p=AA t)(q:Q (.bool AD)<|hF X b st evs ks G):iO W .NotIn (bY p) (.obj<|h+10) (hF X b st evs ks G) Q:=by
 obtain⟨_,J⟩:=s.hh;have z:xV .NotIn (hF X b st evs ks G) (bY p) (.obj<|h+10)=AA AD:=by
  change ob (ob (aD G h) AE _) AE _=_;rw[J];change AA (!(aa (bz l)<|i7 p).isSome)=_;rw[E3,<-s.hk,e];rfl
 unfold iO;rw[z];show q
def o9{Q:K2}(z:l.length<=aM)(q:∀{J},Sd J h r (cB l p t) (U.pt hd p t) L lf rs->Q .aQ F (hF X b st evs ks J)):oZ W (.obj<|h+10) (bY p) (aE t) F (hF X b st evs ks G) Q:=by
 obtain⟨k,B⟩:=s.hh;have q:=q<|s.put (k:=k+1);rw[<-LV] at q;change ob (aD G h) _ _;rw[B];show⟨by unfold bz;rw[aO];show z,q⟩
def yd(q:Q (.bool<|decide (x∈L))<|hF X b st evs ks G):iO W .In (.int x) (.obj 11) (hF X b st evs ks G) Q:=by
 obtain⟨_,J⟩:=s.ll;have z:xV .In (hF X b st evs ks G) (.int x) (.obj 11)=AA (decide<|x∈L):=by
  change ob (aD G 1) AE _=_;rw[J];change AA (aa (encL lf L)<|.int x).isSome=_;rw[ux];by_cases m:x∈L
  .rw[aC m,a6 m];rfl
  rw[aB m,bE m];rfl
 unfold iO;rw[z];show q
def aBX(m:x∈L)(q:Q (.int<|lf x)<|hF X b st evs ks G):ir W (.obj 11) (.int x) (hF X b st evs ks G) Q:=by
 obtain⟨_,J⟩:=s.ll;change ob (aD G 1) _ _;rw[J];change iQ (aa (encL lf L)<|.int x) _ _;rw[ux,aC m];show q
def GR(q:Q (.int<|if x∈L then lf x else -3)<|hF X b st evs ks G):k6 W .f7 (.obj 11) Q [.int x,.int<|-3]<|hF X b st evs ks G:=by
 obtain⟨_,J⟩:=s.ll;change ob (aD G 1) _ _;rw[J];change Q ((aa (encL lf L)<|.int x).getD<|.int (-3)) _;rw[ux];by_cases m:x∈L
 .rw[aC m] at q ⊢;show q
 rw[aB m] at q ⊢;show q
def aBW(m:x∈L)(z:L.length<=aM)(q:∀{J},Sd J h r l hd (L.filter λn=>decide<|U.Tm.v x≠.v n) lf rs->Q (.int<|lf x) (hF X b st evs ks J)):k6 W .gv (.obj 11) Q [.int x]<|hF X b st evs ks G:=by
 obtain⟨k,B⟩:=s.ll;have q:=q<|s.pop (k:=k+1);rw[<-Vx] at q;change ob (aD G 1) _ _;rw[B];refine⟨by unfold encL;rw[aO];show z,?_⟩
 rw[ux,aC m];show q
def Sd.aCP{J:Nat->Int}{k:Nat}:Sd (a7 G (.dict (encL J L') k) 1) h r l hd L' J rs:=
 let ⟨_,C⟩:=s.hh
 let ⟨_,B⟩:=s.ll
 ⟨⟨_,fB C<|kR B C Cell.noConfusion⟩,s.hk,⟨_,cf B⟩,fB s.rr<|kR B s.rr Cell.noConfusion⟩
def aBV{z:Int}{Q:K2}(m:x∉L)(B:L.length<=aM)(q:∀{J},Sd J h r l hd (L++[x]) (λm=>if m=x then z else lf m) rs->Q .aQ F (hF X b st evs ks J)):oZ W (.obj 11) (.int x) (.int z) F (hF X b st evs ks G) Q:=by
 obtain⟨k,C⟩:=s.ll;have q:=q<|s.aCP (k:=k+1);rw[<-Vy m] at q;change ob (aD G 1) _ _;rw[C];show⟨by unfold encL;rw[aO];show B,q⟩
end
end
end
def O5:bN->List U.Place
 | .getVar _ q=>[q]| .kG p q=>[p,q]| .kE _ _ q=>[q]| .oC p=>[p]| .pV p=>[p]| .jI p _=>[p]| .lP p _=>[p]| .yC q=>[q]| .yD _ q=>[q]| .ph p=>[p]| .pf p=>[p]|_=>[]
def Fq:bN->Bool
 | .kb _=>AB| .pf _=>AB| .ph _=>AB| .oJ _ _=>AB| .oL _=>AB| .oD _=>AB| .pV _=>AB| .oC _=>AB| .oB _ _=>AB| .oE _=>AB|_=>AD
def OK(i:bN):V:=(lG<|.str (qx i)::xF i).getD .none
def eq1:eO [a] [b]=decide (a=b):=by
 change Aa (motive:=λy=>Bool) AD AB (Ao a b)=_;by_cases e:a=b
 .rw[a6 e,Nat.beq_eq.mpr e]
 rw[bE e,Bool.eq_false_iff.mpr λq=>e<|Nat.beq_eq.mp q]
variable{i:bN}
def aBh:aD (V.str (qx i)::xF i) (xF i).length=AA (OK i):=by rcases i with _|_<;>rfl
def aHv:(eO ((qx i).take 6) [117,110,105,102,121,95]||eO ((qx i).take 4) [115,101,116,95])=Fq i:=by rcases i with _|_<;>rfl
def mS:(qx i).length<=aM:=by rcases i with _|_<;>show lz rfl
structure Nk(l:List (U.Place×U.Tm))(F:U.FS)(m:Nat):Prop where
 sp:F.aG+2*m<=140000
 hz:l.length+2*m<=8000
 kz:F.kept.length+100*m<='Q'
 ez:F.evs.length+m<'$'
 rz:F.rest.length<=2
 oz:F.loose.length+m<=4000
 lv:-1<=F.living
def QA{k:Nat}:((k+1:Nat):Int)-1=k:=by rw[Int.natCast_add];show uH _ _
variable{QQ:K2}{is:List bN}{F:U.FS}{Q:K1}{b:Bd}{sp:Nat}{lv:Int}{x10 x15 x16 x17 x18 x19 x21 x22 x23 x24 x25 x26 x27 x28 x29 x30:Option V}
section
variable(J:bG W)
theorem aBT{l:List V}{z:Int}(e:z=j)(h:aD l j=AA v)(q:Q v H):ir W (.tup l) (.int z) H Q:=e▸ba h q
def Rd(W:Wd)(n:Nat)(X:Fx)(J:K2)(is:List bN)(F:U.FS):Prop:=∀⦃l h r a st G x8 x10 x11 x15 x16 x17 x18 x19 x20 x21 x22 x23 x24 x25 x26 x27 x28 x29 x30⦄,Sd G h r l F.hold F.loose F.ls F.rest->Nk l F is.length->X.code.drop a=is->
 d5 15 (aU W (n+155) yR) ((Af a is.length).map λi:Nat=>V.int i) (fF X h r F.aG F.living x8 x10 x11 [x15,x16,x17,x18,x19,x20,x21,x22,x23,x24,x25,x26,x27,x28,x29,x30]) (hF X F.b st F.evs F.kept G) J
include J
def aDF(q:Q (.lst<|(O5 i).map bY) H):Fi W (n+1) 74 [jY i] H Q:=by
 refine J.fe Xz rfl ?_;rcases i with _|_<;>show kY (lz rfl) q
def GY{k:Bool}{z:Int}(q:Q (aE<|.c k z) H):Fi W (n+1) 75 [encC k z] H Q:=by
 refine J.fe X1 rfl ?_;rcases k with _|_<;>show q
omit J
theorem aDG{h:Nat}{J:U.Place->Option U.Tm}{B:Nat->Int}{Q:K2}(s:Sd G h r l J L B rs){ps:List U.Place}:∀{x20:Option V},(∀p∈ps,∃t,J p=AA t)->(∀{x20},Q .aQ (fF X h r sp lv x8 x10 x11 [x15,x16,x17,x18,x19,x20,x21,x22,x23,x24,x25,x26,x27,x28,x29,x30])<|hF X b st evs ks G)->d5 20 (aU W n Nb) (ps.map bY) (fF X h r sp lv x8 x10 x11 [x15,x16,x17,x18,x19,x20,x21,x22,x23,x24,x25,x26,x27,x28,x29,x30]) (hF X b st evs ks G) Q:=by
 induction ps with
 |nil=>show λy q=>q|cons p ps D=>
  intro x20 C q;obtain⟨t,ht⟩:=C p h_;show e5 λK k=>OC s ht<|k (D (λp m=>C p<|.tail _ m) q)
include J
def eP(Y:∀p∈O5 i,∃t,F.hold p=AA t)(E:Fq i=!gV F.rest)
  (q:∀{l h r a st G x8 x10 x11 x20 x21 x22 x23 x24 x25 x26 x27 x28 x29 x30} (K:BT),Sd G h r l F.hold F.loose F.ls F.rest->Nk l F (is.length+1)->aD X.code a=AA i->X.code.drop (a+1)=is->(∀{M H},d5 15 (aU W (n+155) yR) ((Af (a+1) is.length).map λi:Nat=>V.int (i:Int)) M H QQ->K M H QQ)->aU W (n+155) (dp 6 yR) (fF X h r F.aG F.living x8 x10 x11 [AA<|.int a,AA<|jY i,AA<|.str (qx i),AA<|OK i,AA<|.bool AB,x20,x21,x22,x23,x24,x25,x26,x27,x28,x29,x30]) (hF X F.b st F.evs F.kept G) (i6 K QQ)):Rd W n X QQ (i::is) F:=by
 intro l h r a st G x8 x10 x11 x15 x16 x17 x18 x19 x20 x21 x22 x23 x24 x25 x26 x27 x28 x29 x30 s T hd;obtain⟨C,L⟩:=ur hd;refine e5 λK k=>cC 1<|ba (pO C) (bL<|cC 4 ?_);refine aBT QA aBh<|aDF J (aDG s Y λ{x20}=>bL<|cC 1 ?_);refine pU (dv.tV mS) ?_;have D:=s.rr;have e:=aHv (i:=i);have B:∀{x:Bool},x=Fq i->(!(x == !gV (F.rest.map aE)))=AD:=λh=>by rw[h,E,Gz];rcases gV F.rest with _|_<;>rfl
 refine dP (λe1=>?_) λe1=>?_
 .rw[e1,IZ] at e;refine GU D<|n9 k5.bool (aN (B e)<|bL (q K s T C L k))
 rw[e1,DK] at e;refine pU (dv.tV mS)<|GU D (n9 k5.bool<|aN (B e) (bL<|q K s T C L k))
end
def Sd.eq{h:Nat}{B:U.Place->Option U.Tm}{J:Nat->Int}(s:Sd G h r l B L J rs)(e:rs=rs'):Sd G h r l B L J rs':=e▸s
def p2:a+1+1+2*m<=a+2*(m+1):=by
 rw[jP,<-bH,dX (a+1) 1,dX a 1];show aV _
variable{r:List U.Tm}
section
variable{h:U.Place->Option U.Tm}
def Nk.lt(k:Nk l F m):l.length<=aM:=aA (aY _ _)<|aA k.hz (lz rfl)
def Nk.le(k:Nk l F<|m+1):Nk l F m:=⟨aA (b7 (dY 2<|b8 m) _) k.sp,aA (b7 (dY 2<|b8 m) _) k.hz,aA (b7 (dY 100<|b8 m) _) k.kz,D2 k.ez,k.rz,eT k.oz,k.lv⟩
def Nk.put(k:Nk l F<|m+1):Nk (cB l p t) {F with hold:=h} m:=⟨k.le.sp,aA (bX o8 _)<|aA (bJ<|uT _ _) (aA (b7 (b8 _) _) k.hz),k.le.kz,k.le.ez,k.rz,k.le.oz,k.lv⟩
def Nk.tl(k:Nk l F m)(h:F.rest=t::r):r.length<=2:=eT<|aA (bJ<|aF A8 h.symm) k.rz
def Nk.set(k:Nk l F m)(J:rs.length<=2)(B:L.length+m<=4000):Nk l {F with b:=b,rest:=rs,loose:=L} m:=⟨k.sp,k.hz,k.kz,k.ez,J,B,k.lv⟩
end
variable{S:Sb}{c:Bool}
section
variable(J:bG W){q:U.Place}
include J
section
variable(hr:F.rest=[])
def aE2(C:F.hold q=AA t)(D:Rd W n X QQ is {F with hold:=U.pt F.hold p t}):Rd W n X QQ (.getVar p q::is) F:=
 eP J (λx m=>JK.mp m▸⟨t,C⟩) (by rw[hr];rfl) λK s B L T k=>lF s C<|o9 s B.lt λs=>k (D s B.put T)
def aE8(C:F.hold p=AA t)(D:Rd W n X QQ is {F with hold:=U.pt F.hold q t}):Rd W n X QQ (.jI p q::is) F:=
 eP J (λx m=>JK.mp m▸⟨t,C⟩) (by rw[hr];rfl) λK s B L T k=>lF s C<|o9 s B.lt λs=>k (D s B.put T)
def aEx(C:Rd W n X QQ is {F with living:=-1}):Rd W n X QQ (.jW::is) F:=
 eP J (λy m=>aW m) (by rw[hr];rfl) λK s B T D k=>k<|C s ⟨B.le.sp,B.le.hz,B.le.kz,B.le.ez,B.le.rz,B.le.oz,wb _⟩ D
end
omit J in
theorem jB{i:Nat}{l:List U.Tm}(J:aD H i=AA (.lst<|l.map aE))(q:Q (.obj<|aK H)<|app H [.lst<|(l.drop j).map aE]):Seq (Prim W .je [.obj i,.int j] H) Q:=by
 rw[dJ,dC,JI] at q;show tR (dv.aCS (.cell<|a9▸J) .cell) q
def QO{i:U.Place->bN}(D:i=.kb\/i=.oD)(C:F.rest=t::r)(T:Rd W n X QQ is {F with hold:=U.pt F.hold p t,rest:=r}):Rd W n X QQ (i p::is) F:=by
 rcases D with rfl|rfl<;>show eP J (λy m=>aW m) (by rw[C];rfl) λK s B M L k=>by
  have s:=s.eq C;show hJ s.rr rfl<|o9 s B.lt λs=>jB s.rr (k<|T (s.new) (B.put.set (B.tl C) B.le.oz) L)
def QP{i:Nat->bN}(D:i=.oL\/i=.oE)(L:F.rest≠[])(C:m<=F.rest.length)(T:Rd W n X QQ is {F with rest:=F.rest.drop m}):Rd W n X QQ (i m::is) F:=by
 rcases D with rfl|rfl<;>show eP J (λy m=>aW m) (by cases h:F.rest with|nil=>show absurd h L|cons=>rfl) λK s B E M k=>by
  show iI s.rr<|aN (by rw[aO];show vM.trans<|bE (Nat.not_lt.mpr C)) (jB s.rr<|k (T (s.new) (B.le.set (aA (bJ oS)<|aA (nB _ _) B.rz) B.le.oz) M))
def jk{s:U.Tm}(M:ay F.b S)(B:BQ (aZ F.aG) F.b)(z:F.aG<=140000)(E:aZ F.aG s)(L:aZ F.aG t)(C:∀{b' S' st g},U.Met F.b S s t b' S'->Q (.bool AB) (hF X b' st F.evs F.kept<|app G g))(D:eh F.b s t->∀{b st g},Q (.bool AD)<|hF X b st F.evs F.kept (app G g)):Fi W (n+3) 71 [.obj 6,aE s,aE t] (hF X F.b st F.evs F.kept G) Q:=
 have z':=aA z ⋯
 have T:=b6 ⋯<|bU 10 G.length
 Gk J T (λp m=>⟨(B p m).1.mono z',(B p m).2.mono z'⟩) (E.mono z') (L.mono z') M rfl (λm y=>C m) D
omit J in
theorem Nk.z(k:Nk l F m):F.aG<=140000:=aA (aY _ _) k.sp
variable{Fl:List U.Ev->Prop}(hF:∀{evs},Fl evs->∀{b st ks G Fr},QQ (.ret (.tup [.obj 8,.obj 9,.str Aac])) Fr (Mine.hF X b st evs ks G))
include hF
def aE0{z:Int}(L:F.rest=[])(C:F.hold q=AA t)(M:ay F.b S)(G:BQ (aZ F.aG) F.b)(T:aZ F.aG t)(D:∀{b' S'},U.Met F.b S t (.c c z) b' S'->Rd W n X QQ is {F with b:=b'})(q0:eh F.b t (.c c z)->Fl F.evs):Rd W n X QQ (.kE c z q::is) F:=
 eP J (λx m=>JK.mp m▸⟨t,C⟩) (by rw[L];rfl) λK s B Y E k=>
  lF s C<|GY J (jk J M G B.z T .c (λm=>k<|D m s.app (B.le.set B.rz B.le.oz) E) λu=>hF<|q0 u)
def QN{i:Bool->Int->bN}(L:i=.oJ\/i=.oB){z:Int}(C:F.rest=t::r)(M:ay F.b S)(G:BQ (aZ F.aG) F.b)(T:aZ F.aG t)(D:∀{b' S'},U.Met F.b S t (.c c z) b' S'->Rd W n X QQ is {F with b:=b',rest:=r})(q0:eh F.b t (.c c z)->Fl F.evs):Rd W n X QQ (i c z::is) F:=by
 rcases L with rfl|rfl<;>show eP J (λy m=>aW m) (by rw[C];rfl) λK s B Y E k=>by
  have s:=s.eq C;show hJ s.rr rfl<|GY J (jk J M G B.z T .c (λm=>jB s.app.rr<|k (D m (s.app.new) (B.le.set (B.tl C) B.le.oz) E)) λu=>jB s.app.rr<|hF (q0 u))
end
variable{r:Nat}
section
variable{i k:Nat}
def aFD(J:aD H i=AA (.dict aJ k)):at_ AD H (.obj i) (λy c=>n7 .gv c)=AB:=by
 change ob (aD H i) AD _=AB;rw[J];rfl
def jJ(e:u=.v m)(q:Q (.int (m:Nat)) H):ir W (aE u) (.int 1) H Q:=e▸q
def zS(h:∀m,u=.v m->m∉L):(L.filter λn=>decide<|u≠.v n)=L:=List.filter_eq_self.mpr λn m=>a6 λe=>h n e m
def zV(h:u.bO=AD)(m:Nat)(e:u=.v m){P:Prop}:P:=nomatch h.symm.trans (aF U.Tm.bO e)
def Sd.xk{h:Nat}{B:U.Place->Option U.Tm}{J:Nat->Int}(s:Sd G h r l B L J rs)(e:L'=L):Sd G h r l B L' J rs:=e▸s
def Rf{h:Nat}{B:U.Place->Option U.Tm}{J:Nat->Int}(e:u=.v m)(s:Sd G h r l B L J rs)(D:m∈L)(z:L.length<=4000)(q:∀{C},Sd C h r l B (L.filter λn=>decide<|u≠.v n) J rs->Q (.int<|J m) (hF X b st evs ks C)):k6 W .gv (.obj 11) Q [.int m]<|hF X b st evs ks G:=aBW s D (aA z<|lz rfl)<|e▸q
def QT{h:Nat}{B:U.Place->Option U.Tm}{J:Nat->Int}(s:Sd G h r l B L J rs):at_ AD (hF X b st evs ks G) (.obj 11) (λy c=>n7 .gv c)=AB:=s.ll.elim λy e=>aFD e
end
variable{i:U.Place->bN}
section
variable(J:bG W){q:U.Place}{x:U.Tm}{r:List U.Tm}{Fl:List U.Ev->Prop}(hF:∀{evs},Fl evs->∀{b st ks G Fr},QQ (.ret (.tup [.obj 8,.obj 9,.str Aac])) Fr (Mine.hF X b st evs ks G))
include J hF
def aFC(O:i=.ph\/i=.oC)(B:F.rest=x::r)(C:F.hold p=AA t)(w:U.Walk F.b t u)(Z:∀n,u=.v n->n∉F.loose)(M:ay F.b S)(Y:BQ (aZ F.aG) F.b)(E:aZ F.aG u)(L:aZ F.aG x)(T:∀{b' S'},U.Met F.b S x u b' S'->Rd W n X QQ is {F with b:=b',rest:=r})(q0:eh F.b x u->Fl F.evs):Rd W n X QQ (i p::is) F:=by
 rcases O with rfl|rfl<;>show eP J (λx m=>JK.mp m▸⟨t,C⟩) (by rw[B];rfl) λK s D A G k=>lF s C (js J rfl w (dQ (dP
   (λe1=>gA (cq.symm.trans e1) λm e=>jJ e<|yd s (aN (bE<|Z m e)<|hJ (s.eq B).rr rfl (jk J M Y D.z L E (λm=>jB (s.eq B).app.rr<|k (T m (s.app.new) (D.le.set (D.tl B) D.le.oz) G)) λu=>jB (s.eq B).app.rr<|hF (q0 u))))
   λR=>hJ (s.eq B).rr rfl<|jk J M Y D.z L E (λm=>jB (s.eq B).app.rr<|k (T m (s.app.new) (D.le.set (D.tl B) D.le.oz) G)) λu=>jB (s.eq B).app.rr (hF<|q0 u))))
omit J hF in
theorem Nk.HJ(k:Nk l F m):F.loose.length<=4000:=aA (aY _ _) k.oz
omit J hF in
theorem Nk.tM{f:Nat->Bool}(k:Nk l F<|m+1):(F.loose.filter f).length+m<=4000:=aA (bX (TJ _ _) _) k.le.oz
def aE3(P:i=.pf\/i=.pV)(D:F.rest=x::r)(C:F.hold p=AA t)(w:U.Walk F.b t u)(M:ay F.b S)(Z:BQ (aZ F.aG) F.b)(E:aZ F.aG u)(L:aZ F.aG x)(T:∀{b' S'},U.Met F.b S x u b' S'->Rd W n X QQ is {F with b:=b',rest:=r,loose:=F.loose.filter λn=>decide<|u≠.v n})(q0:eh F.b x u->Fl F.evs):Rd W n X QQ (i p::is) F:=by
 rcases P with rfl|rfl<;>show eP J (λx m=>JK.mp m▸⟨t,C⟩) (by rw[D];rfl) λK s B N Y k=>lF s C (js J rfl w (dQ (dP
   (λe1=>gA (cq.symm.trans e1) λm e=>jJ e (yd s (dP
    (λR=>aS (QT s)<|jJ e (Rf e s (dK R) B.HJ λs=>hJ (s.eq D).rr rfl<|jk J M Z B.z L E (λm=>jB (s.eq D).app.rr<|k (T m ((s).app.new) (B.le.set (B.tl D) B.tM) Y)) λu=>jB (s.eq D).app.rr (hF<|q0 u)))
    λA=>hJ (s.eq D).rr rfl<|jk J M Z B.z L E (λm=>jB (s.eq D).app.rr<|k (T m ((s.xk<|zS λO G=>U.Tm.v.inj (e.symm.trans G)▸vX A).app.new) (B.le.set (B.tl D) B.tM) Y)) λu=>jB (s.eq D).app.rr (hF<|q0 u))))
   λI=>hJ (s.eq D).rr rfl<|jk J M Z B.z L E (λm=>jB (s.eq D).app.rr<|k (T m ((s.xk<|zS λO G=>zV (cq.symm.trans I) O G).app.new) (B.le.set (B.tl D) B.tM) Y)) λu=>jB (s.eq D).app.rr (hF<|q0 u))))
end
def Ha{h:Nat}{B:U.Place->Option U.Tm}{J:Nat->Int}(s:Sd G h r l B L J rs):at_ AD (hF X b st evs ks G) (.obj 11) (λy c=>n7 .f7 c)=AB:=s.ll.elim λy e=>QS e
variable{r:List U.Tm}
section
variable(J:bG W){q:U.Place}{t' u':U.Tm}{Fl:List U.Ev->Prop}(hF:∀{evs},Fl evs->∀{b st ks G Fr},QQ (.ret (.tup [.obj 8,.obj 9,.str Aac])) Fr (Mine.hF X b st evs ks G))
include J hF
def aE1(f:F.rest=[])(C:F.hold p=AA t)(r:F.hold q=AA u)(d:U.Walk F.b t t')(o:U.Walk F.b u u')(M:ay F.b S)(E:BQ (aZ F.aG) F.b)(Y:aZ F.aG t')(G:aZ F.aG u')
  (j:∀{R s2},(R=u'/\s2=t'/\(∃x,u'=.v x)/\U.fR F t'<U.fR F u')\/(R=t'/\s2=u'/\∀x,u'=.v x->U.fR F u'<=U.fR F t')->(∀{b' S'},U.Met F.b S R s2 b' S'->Rd W n X QQ is {F with b:=b'})/\(eh F.b R s2->Fl F.evs)):Rd W n X QQ (.kG p q::is) F:=
 eP J (λx m=>(JJ.mp m).elim (λe=>e▸⟨t,C⟩) λm=>JK.mp m▸⟨u,r⟩) (by rw[f];rfl) λK s B i L k=>by
  have Z:∀{P:Prop},(∃x,u'=.v x)->U.fR F t'<U.fR F u'->(((∀{b' S'},U.Met F.b S u' t' b' S'->Rd W n X QQ is {F with b:=b'})/\(eh F.b u' t'->Fl F.evs))->P)->P:=λx h z=>z<|j (.inl ⟨rfl,rfl,x,h⟩);have A:∀{P:Prop},(∀x,u'=.v x->U.fR F u'<=U.fR F t')->(((∀{b' S'},U.Met F.b S t' u' b' S'->Rd W n X QQ is {F with b:=b'})/\(eh F.b t' u'->Fl F.evs))->P)->P:=λh z=>z<|j (.inr ⟨rfl,rfl,h⟩);have T:∀{y w},w=.v y->U.fR F w=if y∈F.loose then F.ls y else -3:=λe=>by rw[e];rfl
  have l3:t'.bO=AD->U.fR F t'=-3:=λh=>by
   rcases t' with _|_;show nomatch h
   all_goals rfl
  show lF s C (js J rfl d (lF s r (js J rfl o (dQ (dP
   (λe1=>gA (cq.symm.trans e1) λy Q=>aS (Ha s) (jJ Q (GR s (dQ (dP
    (λI=>gA (cq.symm.trans I) λx D=>aS (Ha s) (jJ D (GR s (dP
     (λh=>Z ⟨x,D⟩ (by rw[T D,T Q];show dK h) λz=>jk J M E B.z G Y (λm=>k<|z.1 m s.app (B.le.set B.rz B.le.oz) L) λu=>hF<|z.2 u)
     λh=>A (λx' O=>by rw[T D,T Q];show Int.not_lt.mp<|vX h) λz=>jk J M E B.z Y G (λm=>k<|z.1 m s.app (B.le.set B.rz B.le.oz) L) λu=>hF<|z.2 u))))
    λN=>A (λx' O=>zV (cq.symm.trans N) x' O) λz=>jk J M E B.z Y G (λm=>k<|z.1 m s.app (B.le.set B.rz B.le.oz) L) λu=>hF<|z.2 u)))))
   λg=>dQ (dP
    (λI=>gA (cq.symm.trans I) λx D=>aS (Ha s) (jJ D (GR s (dP
     (λh=>Z ⟨x,D⟩ (by rw[T D,l3<|cq.symm.trans g];show dK h) λz=>jk J M E B.z G Y (λm=>k<|z.1 m s.app (B.le.set B.rz B.le.oz) L) λu=>hF<|z.2 u)
     λh=>A (λx' O=>by rw[T D,l3<|cq.symm.trans g];show Int.not_lt.mp<|vX h) λz=>jk J M E B.z Y G (λm=>k<|z.1 m s.app (B.le.set B.rz B.le.oz) L) λu=>hF<|z.2 u))))
    λN=>A (λx' O=>zV (cq.symm.trans N) x' O) λz=>jk J M E B.z Y G (λm=>k<|z.1 m s.app (B.le.set B.rz B.le.oz) L) λu=>hF<|z.2 u))))))
end
def p1:a+1+2*m<=a+2*(m+1):=by
 rw[jP,<-bH,dX a 1];show b8 _
def xh{f k:Nat}:V.tup [.str [115],.int f,.tup<|(af<|bo f k).map aE]=aE (bo f k):=by
 unfold bo;by_cases e:f=32
 .rw[aC e];rfl
 rw[aB e];rfl
section
variable{i:Nat}{l:List V}
def yi(J:aD H i=AA (.lst l))(q:Q (.tup l) H):uC W .tuple (.obj i) H Q:=by
 change ob (ob (aD H i) AE _) _ _;rw[J];show q
def OF(q:Q (.obj<|aK H)<|app H [.lst l]):Seq (Prim W (.f1 .list) [.tup l] H) Q:=by rw[dJ,dC] at q;show gY (k4.tup .cell) q
end
variable{rr:Nat}{Q:K2}{x20:Option V}{l':List (U.Place×U.Tm)}
section
variable(J:bG W){q:U.Place}{f:Nat}
def Ar(X:Fx):Prop:=∀{f},(f=32\/f=0\/f=33)->∃a,aD X.fs f=AA (a,U.ar f)
theorem pA{h:Nat}{B:U.Place->Option U.Tm}{J:Nat->Int}{D:Fa}(e:v=aE t)(s:Sd G h rr l B L J rs)(z:l.length<=aM)(q:∀{C},Sd C h rr (cB l p t) (U.pt B p t) L J rs->Q .aQ D (hF X b st evs ks C)):oZ W (.obj<|h+10) (bY p) v D (hF X b st evs ks G) Q:=e▸o9 s z q
theorem OB{J:Fa}(e:v=aE t)(B:b.at m=AE)(z:b.length<=aM)(q:Q .aQ J<|hF X (b++[(m,t)]) (st+1) evs ks G):oZ W (.obj 6) (.int m) v J (hF X b st evs ks G) Q:=by
 rw[e];refine⟨by unfold d9;rw[aO];show z,?_⟩
 rw[Ez B];show q
include J
def qQ{k:Nat}{Q:K1}(h:aD X.fs f=AA (a,k))(q:Q (.int (k:Nat))<|hF X b st evs ks G):Fi W (n+1) 9 [.obj 0,.int (f:Nat)] (hF X b st evs ks G) Q:=by
 refine J.fe g9 rfl ?_;show ba (pO h) q
omit J
theorem zI{h:Nat}{C:U.Place->Option U.Tm}{B:Nat->Int}(s:Sd G h rr l C L B [])(q:∀{x8 D},Sd D h rr l C L B (af<|bo f sp)->Q .aQ (fF X h rr (sp+U.ar f) lv x8 x10 x11 [x15,x16,x17,x18,x19,x20,x21,x22,x23,x24,x25,x26,x27,x28,x29,x30]) (hF X b st evs ks D)):d5 8 (aU W n Nc) (nq<|U.ar f) (fF X h rr sp lv x8 x10 x11 [x15,x16,x17,x18,x19,x20,x21,x22,x23,x24,x25,x26,x27,x28,x29,x30]) (hF X b st evs ks G) Q:=by
 unfold U.ar bo at*;by_cases e:f=32
 .rw[aC e,aC e] at q;rw[aC e];show aS (hY s.rr)<|fP s.rr (lz rfl) (q<|s.rest (rs':=[.v<|sp+1]))
 rw[aB e,aB e] at q;rw[aB e];have J:=s.rest (rs':=[.v<|sp+1]);show aS (hY s.rr)<|fP s.rr (lz rfl) (aS (hY J.rr)<|fP J.rr (lz rfl) (q<|J.rest (rs':=[.v<|sp+1,.v<|sp+2])))
theorem Nk.new{h:U.Place->Option U.Tm}{k:Nat}(z:Nk l F<|k+1)(B:l'.length<=l.length+1)(J:rs.length<=2):Nk l' {F with b:=b,hold:=h,rest:=rs,aG:=F.aG+U.ar f} k:=⟨by
 have h:=z.sp;unfold U.ar
 have:F.aG+2+2*k<=140000:=by rw[bH,bQ 2];show h
 by_cases e:f=32
 .rw[aC e];show aA (bX (b8 _) _) this
 rw[aB e];show this,aA (bX B _)<|aA p1 z.hz,z.le.kz,z.le.ez,J,z.le.oz,z.lv⟩
theorem Nk.zb{k:Nat}(z:Nk l F k)(M:ay F.b S)(J:BQ (aZ F.aG) F.b):F.b.length<=aM:=aA (HW M λp m=>have z':=aA z.z ⋯;⟨(J p m).1.mono z',(J p m).2.mono z'⟩)<|lz rfl
theorem zH{k:Nat}:(af<|bo f k).length<=2:=by
 unfold bo;by_cases e:f=32
 .rw[aC e];show b8 1
 rw[aB e];show aV 2
include J
omit J in
theorem xE:U.ar f<=aM:=by
 unfold U.ar;by_cases e:f=32
 .rw[aC e];show lz rfl
 rw[aB e];show lz rfl
omit J in
theorem KI(u:U.Tm):(af u).length<=2:=by rcases u with _|_<;>show lz rfl
def aE5(C:Ar X)(L:f=32\/f=0\/f=33)(D:F.rest=[])(M:Rd W n X QQ is {F with hold:=U.pt F.hold q<|bo f F.aG,rest:=af<|bo f F.aG,aG:=F.aG+U.ar f}):Rd W n X QQ (vm f q::is) F:=by
 unfold vm;by_cases E:f=0
 .subst E;rw[aC rfl];show eP J (λy m=>aW m) (by rw[D];rfl) λK s B G T k=>by
   obtain⟨a,ha⟩:=C L;refine tR (dv.Cr mS)<|qQ J ha ⟨xE,zI (s.eq D) λs=>?_⟩;show yi s.rr<|pU (dv.tV mS) (pA xh s B.lt λs=>k<|M s (B.new o8 zH) T)
 rw[aB E];show eP J (λy m=>aW m) (by rw[D];rfl) λK s B G T k=>by
  obtain⟨a,ha⟩:=C L;refine tR (dv.Cr mS)<|qQ J ha ⟨xE,zI (s.eq D) λs=>?_⟩;show yi s.rr<|pU (dv.tV mS) (pA xh s B.lt λs=>k<|M s (B.new o8 zH) T)
variable{Fl:List U.Ev->Prop}(hF:∀{evs},Fl evs->∀{b st ks G Fr},QQ (.ret (.tup [.obj 8,.obj 9,.str Aac])) Fr (Mine.hF X b st evs ks G))(har:Ar X)
include hF har
def HX(L:F.rest=[])(E:F.hold q=AA t)(w:U.Walk F.b t u)(O:f=32\/f=0\/f=33)(M:ay F.b S)(R:BQ (aZ F.aG) F.b)(Z:∀m,u=.v m->Rd W n X QQ is {F with b:=F.b++[(m,bo f F.aG)],rest:=af<|bo f F.aG,aG:=F.aG+U.ar f})(k2:aR u=AB->U.fnOf u=f->Rd W n X QQ is {F with rest:=af u,aG:=F.aG+U.ar f})(k3:u.bO=AD->¬(aR u=AB/\U.fnOf u=f)->Fl F.evs):Rd W n X QQ (lE f q::is) F:=by
 unfold lE;by_cases C:f=0
 .subst C;rw[aC rfl];show eP J (λx m=>JK.mp m▸⟨t,E⟩) (by rw[L];rfl) λK s D A T k=>by
   obtain⟨a,ha⟩:=har O;have G:=D.zb M R;refine tR (dv.Cr mS)<|qQ J ha ⟨xE,zI (s.eq L) λs=>?_⟩;show yi s.rr (pU (dv.tV mS) (lF s E (js J rfl w (dQ (dP
    (λe1=>gA (cq.symm.trans e1) λm e=>jJ e<|OB xh (w.free m e) G (k<|Z m e s (D.new (b8 _) zH) T))
    λC=>dQ (dP
     (λB=>have B:=dB.symm.trans B;tX B (dP
      (λe=>have e:=d6<|dK e;Hv B<|OF (k<|k2 B e (s.new) (D.new (b8 _)<|KI u) T))
      λe=>hF<|k3 (cq.symm.trans C) λz=>vX e (aF Int.ofNat z.2)))
     λY=>hF<|k3 (cq.symm.trans C) λz=>aI ((dB.symm.trans Y).symm.trans z.1)))))))
 rw[aB C];show eP J (λx m=>JK.mp m▸⟨t,E⟩) (by rw[L];rfl) λK s D A T k=>by
  obtain⟨a,ha⟩:=har O;have G:=D.zb M R;refine tR (dv.Cr mS)<|qQ J ha ⟨xE,zI (s.eq L) λs=>?_⟩;show yi s.rr (pU (dv.tV mS) (lF s E (js J rfl w (dQ (dP
   (λe1=>gA (cq.symm.trans e1) λm e=>jJ e<|OB xh (w.free m e) G (k<|Z m e s (D.new (b8 _) zH) T))
   λC=>dQ (dP
    (λB=>have B:=dB.symm.trans B;tX B (dP
     (λe=>have e:=d6<|dK e;Hv B<|OF (k<|k2 B e (s.new) (D.new (b8 _)<|KI u) T))
     λe=>hF<|k3 (cq.symm.trans C) λz=>vX e (aF Int.ofNat z.2)))
    λY=>hF<|k3 (cq.symm.trans C) λz=>aI ((dB.symm.trans Y).symm.trans z.1)))))))
end
section
variable(J:bG W){q:U.Place}{f:Nat}
theorem Nk.one{h:U.Place->Option U.Tm}{k:Nat}{J:Nat->Int}(z:Nk l F<|k+1)(B:l'.length<=l.length+2)(C:L.length<=F.loose.length+1):Nk l' {F with hold:=h,aG:=F.aG+1,loose:=L,ls:=J} k:=⟨aA (p1) z.sp,aA (bX B _)<|aA p2 z.hz,z.le.kz,z.le.ez,z.rz,aA (bX C _)<|aA (bJ<|uT _ _) z.oz,z.lv⟩
theorem Nk.putL{h:U.Place->Option U.Tm}{k:Nat}(z:Nk l F<|k+1)(J:L.length+k<=4000):Nk (cB l p t) {F with hold:=h,loose:=L} k:=have y:=z.put (h:=h);⟨y.sp,y.hz,y.kz,y.ez,y.rz,J,y.lv⟩
theorem aEn{h:U.Place->Option U.Tm}:U.pt (U.pt h p t) p t=U.pt h p t:=funext λq=>by
 unfold U.pt;by_cases e:q=p
 .rw[aC e,aC e]
 rw[aB e]
theorem Sd.V3{h r:Nat}{C J:U.Place->Option U.Tm}{B:Nat->Int}(s:Sd G h r l C L B rs)(e:C=J):Sd G h r l J L B rs:=e▸s
theorem HT{q:U.Place}:(cB (cB l p t) q u).length<=l.length+2:=aA o8<|bj o8
include J
section
variable(hr:F.rest=[])
def aFB(C:q.1≠121)(D:Rd W n X QQ is {F with hold:=U.pt F.hold q<|.v (F.aG+1),aG:=F.aG+1}):Rd W n X QQ (.mX q::is) F:=by
 obtain⟨a,m⟩:=q;show eP J (λy m=>aW m) (by rw[hr];rfl) λK s B L T k=>
  pA rfl s B.lt λs=>pA rfl s (B.put (h:=F.hold)).lt λs=>aN (eq1.trans<|bE C)<|k (D (s.V3 aEn) (B.one HT<|b8 _) T)
def aE9(C:Rd W n X QQ is {F with hold:=U.pt (U.pt F.hold (tP j)<|.v (F.aG+1)) q<|.v (F.aG+1),aG:=F.aG+1}):Rd W n X QQ (.q8 (tP j) q::is) F:=
 eP J (λy m=>aW m) (by rw[hr];rfl) λK s B T D k=>
  pA rfl s B.lt λs=>pA rfl s (B.put (h:=F.hold)).lt λs=>k<|C s (B.one HT<|b8 _) D
def aFA(C:∀x∈F.loose,x<=F.aG)(D:Rd W n X QQ is {F with hold:=U.pt (U.pt F.hold (yP j)<|.v (F.aG+1)) q<|.v (F.aG+1),aG:=F.aG+1,loose:=F.loose++[F.aG+1],ls:=λm=>if m=F.aG+1 then(j:Int) else F.ls m}):Rd W n X QQ (.q8 (yP j) q::is) F:=
 eP J (λy m=>aW m) (by rw[hr];rfl) λK s B L T k=>
  pA rfl s B.lt λs=>pA rfl s (B.put (h:=F.hold)).lt λs=>aBV s (λm=>Te _<|C _ m) (aA B.HJ<|lz rfl) λs=>k<|D s (B.one HT<|bJ a5) T
def aE7(C:F.hold p=AA t)(w:U.Walk F.b t u)(D:Rd W n X QQ is {F with hold:=U.pt F.hold q u,loose:=F.loose.filter λn=>decide<|u≠.v n}):Rd W n X QQ (.lP p q::is) F:=
 eP J (λx m=>JK.mp m▸⟨t,C⟩) (by rw[hr];rfl) λK s B Z L k=>lF s C (js J rfl w (dQ (dP
   (λe1=>gA (cq.symm.trans e1) λm e=>jJ e (yd s (dP
    (λE=>aS (QT s)<|jJ e (Rf e s (dK E) B.HJ λs=>o9 s B.lt λs=>k<|D s (B.putL B.tM) L))
    λG=>o9 s B.lt λs=>k<|D (s.xk<|zS λM T=>U.Tm.v.inj (e.symm.trans T)▸vX G) (B.putL B.tM) L)))
   λY=>o9 s B.lt λs=>k<|D (s.xk<|zS λM T=>zV (cq.symm.trans Y) M T) (B.putL B.tM) L)))
def aE6{z:Int}(C:Rd W n X QQ is {F with hold:=U.pt F.hold q<|.c c z}):Rd W n X QQ (.kU c z q::is) F:=
 eP J (λy m=>aW m) (by rw[hr];rfl) λK s B T D k=>GY J<|o9 s B.lt λs=>k (C s B.put D)
end
end
def Qz.n5(h:aZ F.aG t)(k:Nk l F m):Qz t:=h.mono<|aA k.z ⋯
section
variable(J:bG W){q:U.Place}{f:Nat}
include J
def aEu(D:X.code=.alloc m::is)(L:F.rest=[])(M:F.living=-1)(E:Rd W n X QQ is {F with living:=m}):Rd W n X QQ (.alloc m::is) F:=
 eP J (λy m=>aW m) (by rw[L];rfl) λ{l h r a st G x8 x10 x11 x20 x21 x22 x23 x24 x25 x26 x27 x28 x29 x30} K s B Y T k=>by
  have e:a=0:=by
   have z:=aF A8 T;have C:=gC Y;rw[oS,D,fK,Nat.succ_sub_succ] at z;rw[D] at C;show TY λp=>eU _<|z▸w4 (b6 p<|kr C) p
  subst e;show aN (bE (by rw[M];decide))<|k (E s ⟨B.le.sp,B.le.hz,B.le.kz,B.le.ez,B.le.rz,B.le.oz,du ⋯<|eI m⟩ T)
omit J in
theorem Lb{i:bN}{l:List bN}(C:aD l a=AA i)(B:l.drop (a+1)=[]):((a:Nat):Int)=((l.map jY).length:Int)-1:=by
 have z:=aF A8 B;have J:=gC C;rw[oS,m9] at z;rw[aO,wy (Ja z) J];show QA.symm
def aE4(B:F.rest=[])(C:F.living=-1)(D:∀{st G M},QQ (.ret<|.tup [.obj 8,.obj 9,.str Aag]) M<|hF X F.b st F.evs F.kept G):Rd W n X QQ [.proceed] F:=
 eP J (λy m=>aW m) (by rw[B];rfl) λK s E L T k=>by
  show aS (a6<|Lb L T)<|aS (a6 C) D
def aEz{B:List U.Ev->Prop}(D:∀{evs},B evs->∀{b st ks G T},QQ (.ret<|.tup [.obj 8,.obj 9,.str Aac]) T<|Mine.hF X b st evs ks G)(C:F.rest=[])(h:B F.evs):Rd W n X QQ (.fail::is) F:=
 eP J (λy m=>aW m) (by rw[C];rfl) λK s L E M k=>D h
end
variable{i:Nat}{F:Fa}
section
variable{s:Nat}
section
variable(hc:aD H i=AA (.az (bz l) s))
def yf{Q:K1}(e:aa l p=AA t)(q:Q (aE t) H):ir W (.obj i) (bY p) H Q:=by
 change ob (aD H i) _ _;rw[hc];change iQ (aa (bz l)<|i7 p) _ _;rw[E3,e];show q
def yg(z:l.length<=aM)(q:Q .aQ F<|a7 H (.az (bz<|cB l p t)<|s+1) i):oZ W (.obj i) (bY p) (aE t) F H Q:=by
 rw[<-LV] at q;change ob (aD H i) _ _;rw[hc];show⟨by unfold bz;rw[aO];show z,q⟩
end
end
structure Pa(G:AH)(r c:Nat)(D:List U.Tm):Prop where
 at_:aD G c=AA (.lst (D.map aE))
 ne:r≠c
variable{r c c2:Nat}{kp:U.Place->Bool}{l2:List (U.Place×U.Tm)}{ps:List U.Place}
section
variable{h:Nat}{hd:U.Place->Option U.Tm}{lf:Nat->Int}
def Sd.aFv(s:Sd G h r l hd L lf rs)(p:Pa G r c D):Sd (a7 G y c) h r l hd L lf rs:=
 let ⟨_,B⟩:=s.hh
 let ⟨_,J⟩:=s.ll
 ⟨⟨_,fB B<|kR p.at_ B Cell.noConfusion⟩,s.hk,⟨_,fB J<|kR p.at_ J Cell.noConfusion⟩,fB s.rr p.ne.symm⟩
def Pa.new(s:Sd G h r l hd L lf rs):Pa (app G [.lst []]) r (aK G) []:=⟨eN (k:=0),λe=>eU _<|dJ▸e▸gC s.rr⟩
def aD2{ps:List U.Tm}(E:ps.length<='$')(Y:∀i t,ps[i]?=AA t->hd (aP<|i+1)=AA t):∀{k i G x8},i+k=ps.length->Sd G h r l hd L lf rs->Pa G r c (ps.take i)->(∀{G x8},Sd G h r l hd L lf rs->Pa G r c ps->Q .aQ (fF X h r sp lv x8 x10 x11 [x15,x16,x17,x18,x19,x20,x21,x22,x23,x24,x25,x26,x27,AA<|.obj (c+10),x29,x30]) (hF X b st evs ks G))->
  d5 8 (aU W n F5) ((Af i k).map λi:Nat=>V.int (i:Int)) (fF X h r sp lv x8 x10 x11 [x15,x16,x17,x18,x19,x20,x21,x22,x23,x24,x25,x26,x27,AA<|.obj (c+10),x29,x30]) (hF X b st evs ks G) Q:=by
 intro k
 induction k with
 |zero=>show λ{i G x8} e s p q=>q s (by rw[uP<|show ps.length<=i from bJ e.symm] at p;show p)|succ k M=>
  intro i G x8 e s p q;have B:=e▸ri (jQ k);have J:=cK B;have C:=Y i _ J;have D:((ps.take i).map aE).length<='$':=by rw[aO];show aA (List.length_take_le _ _)<|aA (dc B) E
  refine e5 λK T=>OC s C<|aS (hY p.at_) (lF s C<|fP p.at_ (bZ D ⋯) (T ?_))
  rw[show(ps.take i).map aE++[aE ps[i]]=(ps.take<|i+1).map aE by rw[List.take_succ,J,bw];rfl]
  show M (by rw[<-e,dX];rfl) (s.aFv p) ⟨cf p.at_,p.ne⟩ q
structure Lf(l l2:List (U.Place×U.Tm))(kp:U.Place->Bool)(ps:List U.Place):Prop where
 a:∀p t,aa l2 p=AA t->kp p=AB/\aa l p=AA t
 b:∀p t,aa l p=AA t->kp p=AB->p∈ps\/aa l2 p=AA t
 z:l2.length+ps.length<=l.length
def sm:iV lv p=(decide (p.1=121)&&decide ((p.2:Int)<=lv)):=Bool.decide_and _ _
def Lf.skip(f:Lf l l2 kp<|p::ps)(h:kp p=AD):Lf l l2 kp ps:=⟨f.a,λq t e k=>(f.b q t e k).imp (λm=>(JJ.mp m).resolve_left λe=>by rw[e,h] at k;show aI k) id,eT f.z⟩
def Lf.take(f:Lf l l2 kp<|p::ps)(h:kp p=AB)(e:aa l p=AA t):Lf l (cB l2 p t) kp ps:=⟨λq u g=>by
 rw[sq] at g;by_cases x:q=p
 .rw[aC x] at g;rw[x];show⟨h,g▸e⟩
 .rw[aB x] at g;show f.a q u g,λq u g k=>by
 rw[sq];by_cases x:q=p
 .rw[aC x];rw[x,e] at g;show .inr g
 rw[aB x];show(f.b q u g k).imp (λm=>(JJ.mp m).resolve_left x) id,aA (bX o8 _)<|aA (bJ<|uT _ _) f.z⟩
def ya(bi:Bool)(lv:Int)(p:U.Place):Bool:=(bi&&decide (p.1=116))||iV lv p
def aBt{s:Nat}(Z:l.length<=8000){bi:Bool}(Y:eO nm Aad=bi){all:List V}(ne:c2≠h):∀{ps l2 s2 G x30},(∀p∈ps,∃t,aa l p=AA t)->aD G h=AA (.az (bz l) s)->all=(bz l).map (λp=>.tup<|p.1.map dG)->aD G c2=AA (.az (bz l2) s2)->Lf l l2 (ya bi lv) ps->(∀{l2 s2 x30},Lf l l2 (ya bi lv) []->Q .aQ (fF X h r sp lv x8 x10 x11 [x15,x16,AA<|.str nm,x18,x19,x20,x21,x22,x23,x24,x25,x26,x27,x28,AA<|.obj (c2+10),x30]) (hF X b st evs ks<|a7 G (.az (bz l2) s2) c2))->
  gj (It (.az s) (.obj<|h+10) all) 30 (aU W n F7) (ps.map bY) (fF X h r sp lv x8 x10 x11 [x15,x16,AA<|.str nm,x18,x19,x20,x21,x22,x23,x24,x25,x26,x27,x28,AA<|.obj (c2+10),x30]) (hF X b st evs ks G) Q:=by
 intro ps
 induction ps with
 |nil=>
  intro l2 s2 G x30 _ B T D f q;have q:=q (s2:=s2) (x30:=x30) f;rw[mZ D] at q;show⟨T▸.az (i:=h+10) (a9▸B),q⟩
 |cons p ps M=>
  intro l2 s2 G x30 C B T D f q;obtain⟨t,ht⟩:=C p h_;have J:=λp m=>C p<|.tail _ m;have E:l2.length<=aM:=aA (aY _ _)<|aA f.z (aA Z<|lz rfl);refine gx (T▸.az (i:=h+10) (a9▸B)) λK k=>?_;rcases bi with _|_
  .refine aN Y (dP (λe1=>?_) λe1=>?_)
   .rw[eq1] at e1;refine dP (λe2=>?_) λe2=>?_
    .refine yf (i:=h+10) B ht<|yg (i:=c2+10) D E (k ?_);show M (G:=a7 G (.az (bz<|cB l2 p t)<|s2+1) c2) J (fB B ne) T (cf D) (f.take (sm.trans (by rw[e1,e2];rfl)) ht) λ{l2 s2 x30} f=>iK.symm▸q f
    show k<|M J B T D (f.skip<|sm.trans (by rw[e2,IV])) q
   rw[eq1] at e1;show k<|M J B T D (f.skip<|sm.trans (by rw[e1,t8])) q
  refine aS Y<|dP (λL=>?_) λL=>dP (λe1=>?_) λe1=>?_
  .rw[eq1] at L;refine yf (i:=h+10) B ht<|yg (i:=c2+10) D E (k ?_);show M (G:=a7 G (.az (bz<|cB l2 p t)<|s2+1) c2) J (fB B ne) T (cf D) (f.take (show(decide (p.1=116)||_)=AB by rw[L];rfl) ht) λ{l2 s2 x30} f=>iK.symm▸q f
  .rw[eq1] at L e1;refine dP (λe2=>?_) λe2=>?_
   .refine yf (i:=h+10) B ht<|yg (i:=c2+10) D E (k ?_);show M (G:=a7 G (.az (bz<|cB l2 p t)<|s2+1) c2) J (fB B ne) T (cf D) (f.take (show(decide (p.1=116)||iV lv p)=AB by rw[L,sm,e1,e2];rfl) ht) λ{l2 s2 x30} f=>iK.symm▸q f
   show k<|M J B T D (f.skip (show(decide (p.1=116)||iV lv p)=AD by rw[L,sm,e1,e2];rfl)) q
  rw[eq1] at L e1;show k<|M J B T D (f.skip (show(decide (p.1=116)||iV lv p)=AD by rw[L,sm,e1];rfl)) q
end
variable{s2:Nat}
section
variable(J:bG W){h:Nat}{hd:U.Place->Option U.Tm}{lf:Nat->Int}
theorem aBs(L:aD G c2=AA (.az (bz l2) s2))(J:∀{v},ob (aD (ed F 30 v) 29) AE id=AA (.obj<|c2+10)/\ob (aD (ed F 30 v) 30) AE id=AA v)(B:C_<|Mine.hF X b st evs ks G):∀{Q:il},(∀p∈ps,∃t,aa l2 p=AA t)->(∀{D:List U.Tm},D.length=ps.length->(∀t∈D,∃p,aa l2 p=AA t)->Q (D.map aE) (Mine.hF X b st evs ks G))->uB C_ (bT W n GD) 30 F (ps.map bY) (Mine.hF X b st evs ks G) Q:=by
 induction ps with
 |nil=>show λy q=>⟨B,q (D:=[]) rfl λy m=>aW m⟩|cons p ps T=>
  intro Q C q;obtain⟨t,ht⟩:=C p h_;show⟨B,ba J.1<|ba J.2 (yf (i:=c2+10) L ht<|T (λp m=>C p<|.tail _ m) λ{D} e g=>q (D:=t::D) (aF BB e) λu m=>(JJ.mp m).elim (λe=>e▸⟨p,ht⟩) (g u))⟩
include J
def Ob(s:Sd G h r l hd L lf rs)(M:ay b S):∀{x11 x27},(∀t m,t∈D->t.app S=.v m->m∈L->lf m<=lv)->(∀{x11 x27},Q .aQ (fF X h r sp lv x8 x10 x11 [x15,x16,x17,x18,x19,x20,x21,x22,x23,x24,x25,x26,x27,x28,x29,x30])<|hF X b st evs ks G)->d5 11 (aU W (n+1) Nd) (D.map aE) (fF X h r sp lv x8 x10 x11 [x15,x16,x17,x18,x19,x20,x21,x22,x23,x24,x25,x26,x27,x28,x29,x30]) (hF X b st evs ks G) Q:=by
 induction D with
 |nil=>show λy q=>q|cons t D C=>
  intro x11 x27 T q;obtain⟨u,w⟩:=M.walks t;have B:=λu m h=>T u m<|.tail _ h;show e5 λK k=>js J rfl w<|dQ (dP (λe1=>gA (cq.symm.trans e1) λm e=>jJ e<|yd s (dP (λE=>jJ e<|aBX s (dK E) (aN (bE<|Int.not_lt.mpr (T t m h_ (U.Walk.var M<|e▸w)<|dK E))<|k (C B q))) λY=>k<|C B q)) λZ=>k<|C B q)
omit J
theorem GQ{l J:List V}{Q:K1}(C:aD H i=AA (.lst l))(B:aD H j=AA (.lst J))(z:l.length+J.length<=aM)(q:Q (.obj i)<|a7 H (.lst<|l++J) i):t7 .Add (.obj i) H (.obj j) Q:=by
 change ob (aD H i) _ _;rw[C];change ob (ob (aD H j) AE _) _ _;rw[B];show⟨z,q⟩
theorem Lf.hk(f:Lf l l2 kp [])(J:∀p,hd p=aa l p)(p:U.Place):(if kp p=AB then hd p else AE)=aa l2 p:=by
 rcases e:aa l2 p with _|t
 .by_cases k:kp p=AB
  .rw[aC k,J];rcases e':aa l p with _|t;rfl;show absurd ((f.b p t e' k).resolve_left eL)<|e▸Option.some_ne_none t ∘ Eq.symm
  rw[aB k]
 have z:=f.a p t e;rw[aC z.1,J,z.2]
end
def Cj(X:Fx)(f:Nat):Nat:=((aD X.fs f).map Prod.snd).getD 2000
def Hj{f k:Nat}(h:Cj X f=k/\k<=100):∃a,aD X.fs f=AA (a,k):=by
 obtain⟨J,B⟩:=h;unfold Cj at J;rcases e:aD X.fs f with _|p
 .rw[e] at J;rw[<-J] at B;show absurd B ⋯
 rw[e] at J;show⟨p.1,aF AA<|iD rfl J⟩
def keys_eq:(bz l).map (λp=>V.tup<|p.1.map dG)=(l.map As).map bY:=by
 unfold bz;rw[gm,gm];rfl
def aA9(h:aa l p=AA t):p∈l.map As:=by
 induction l with
 |nil=>show au h|cons q l J=>
  obtain⟨k,u⟩:=q;by_cases e:k=p;show e▸.head _;show .tail _<|J ((iH e).symm.trans h)
def N5(m:p∈l.map As):∃t,aa l p=AA t:=by
 induction l with
 |nil=>show aW m|cons q l J=>
  obtain⟨k,t⟩:=q;by_cases e:k=p
  .subst e;show⟨t,jj⟩
  obtain⟨u,B⟩:=J ((JJ.mp m).resolve_left λq=>e q.symm);show⟨u,(iH e).trans B⟩
variable{ps:List U.Tm}
section
variable{h:Nat}{hd:U.Place->Option U.Tm}{lf:Nat->Int}
def HK(J:ps.length<=100)(B:∀i t,ps[i]?=AA t->hd (aP<|i+1)=AA t)(s:Sd G h r l hd L lf rs)(q:∀{G x8 c},Sd G h r l hd L lf rs->Pa G r c ps->Q .aQ (fF X h r sp lv x8 x10 x11 [x15,x16,x17,x18,x19,x20,x21,x22,x23,x24,x25,x26,x27,AA<|.obj (c+10),x29,x30]) (hF X b st evs ks G)):
  d5 8 (aU W n F5) (nq ps.length) (fF X h r sp lv x8 x10 x11 [x15,x16,x17,x18,x19,x20,x21,x22,x23,x24,x25,x26,x27,AA<|.obj (aK G+10),x29,x30]) (hF X b st evs ks<|app G [.lst []]) Q:=by
 rw[nz];show aD2 (aA J ⋯) B (cT _) s.app (Pa.new s) λs p=>q s p
def GZ{bi:Bool}(D:eO nm Aad=bi)(s:Sd G h r l hd L lf rs)(C:l.length<=8000)(q:∀{l2 s2 x30},Lf l l2 (ya bi lv) []->Q .aQ (fF X h r sp lv x8 x10 x11 [x15,x16,AA<|.str nm,x18,x19,x20,x21,x22,x23,x24,x25,x26,x27,x28,AA<|.obj (aK G+10),x30]) (hF X b st evs ks<|app G [.az (bz l2) s2])):
  uI (.obj<|h+10) (hF X b st evs ks<|app G [.az [] 0]) (Nz 30 (aU W n F7) (fF X h r sp lv x8 x10 x11 [x15,x16,AA<|.str nm,x18,x19,x20,x21,x22,x23,x24,x25,x26,x27,x28,AA<|.obj (aK G+10),x30]) (hF X b st evs ks<|app G [.az [] 0]) Q):=by
 obtain⟨T,B⟩:=s.hh;have J:=dh (r:=[.az [] 0]) B;refine⟨.az<|a9▸J,?_⟩;rw[keys_eq];show aBt (l2:=[]) C D (λe=>eU _<|dJ▸e▸gC B) (λp=>N5) J keys_eq.symm (eN (k:=0)) ⟨(λy y e=>au e),λp t e y=>.inl<|aA9 e,by rw[aO];show bJ<|cT _⟩ λ{l2 s2 x30} f=>by
  have e:a7 (app G [.az [] 0]) (.az (bz l2) s2) (aK G)=app G [.az (bz l2) s2]:=r8 (k:=0);rw[e];show q f
end
variable{Q:K1}
def K8(J:aD G c2=AA (.az (bz l2) s2))(z:l2.length<=8000)(B:∀{v},ob (aD (ed F 30 v) 29) AE id=AA (.obj<|c2+10)/\ob (aD (ed F 30 v) 30) AE id=AA v)(q:∀{D:List U.Tm},D.length<=8000->(∀t∈D,∃p,aa l2 p=AA t)->Q (.lst<|D.map aE) (Mine.hF X b st evs ks G)):GG (bT W n GD) 30 F Q (.obj<|c2+10)<|Mine.hF X b st evs ks G:=by
 refine⟨.az<|a9▸J,?_⟩;rw[keys_eq];show⟨by rw[aO,aO];show aA z<|lz rfl,aBs J B (keys_eq▸.az (a9▸J)) (λp=>N5) λe g=>⟨.val,q (aA (bJ<|e.trans (aO _)) z) g⟩⟩
def OA(C:aD H i=AA (.lst<|ps.map aE))(B:ps.length<=100)(J:D.length<=8000)(q:Q (.lst<|(ps++D).map aE) H):Seq (Prim W (.bin .Add) [.obj i,.lst<|D.map aE] H) Q:=by
 rw[bw] at q;show gD (nD.lst (.cell<|a9▸C) .val (by rw[a5,aO,aO];show aA (bW B J)<|lz rfl) .val) q
variable{F:U.FS}{parts:List U.Tm}
def Nk.goal{k:Nat}{f:Nat×Nat}(z:Nk l F<|k+1)(h:l2.length<=l.length)(C:parts.length<=100)(J:-1<=lv):Nk l2 (mK F S parts f kp lv picks) k:=⟨z.le.sp,aA (bX h _) z.le.hz,by
 change(F.kept++parts).length+100*k<='Q';rw[a5,bH];show aA (b7 (aA (bX C _)<|bJ ((bQ _ _).trans (jP 100 k).symm)) _) z.kz,by
 change(F.evs++[_]).length+k<'$';rw[a5,bH,bQ _ k];show z.ez,z.rz,z.le.oz,J⟩
section
variable(J:bG W){f:Nat}
theorem aA1(h:iV lv p=AB):p=yP p.2/\(p.2:Int)<=lv:=have z:=dK h;⟨iD z.1 rfl,z.2⟩
theorem Oc(C:Lf l l2 (ya AD lv) [])(B:∀p,F.hold p=aa l p)(g:∀t∈D,∃p,aa l2 p=AA t)(J:∀t m,(t∈parts\/∃j:Nat,(j:Int)<=lv/\F.hold (yP j)=AA t)->t.app S=.v m->m∈F.loose->F.ls m<=lv):∀t m,t∈parts++D->t.app S=.v m->m∈F.loose->F.ls m<=lv:=λt m h=>J t m ((nA.mp h).imp id λh=>by
 obtain⟨p,e⟩:=g t h;have z:=C.a p t e;have y:=aA1<|z.1;show⟨p.2,y.2,by rw[<-y.1,B];show z.2⟩)
include J
section
variable(hr:F.rest=[])(hs:Cj X f=parts.length/\parts.length<=100)(ha:∀i t,parts[i]?=AA t->F.hold (aP (i+1))=AA t/\aZ F.aG t)
def aEw(r:(m:Int)<=F.living)(M:ay F.b S)(O:BQ (aZ F.aG) F.b)(N:fD S parts)(Q:∀t k,(t∈parts\/∃j,j<=m/\F.hold (yP j)=AA t)->t.app S=.v k->k∈F.loose->F.ls k<=(m:Int))(C:0<X.picks.length)(o:Rd W n X QQ is<|mK F S parts (0,f) (iV m) m X.picks):Rd W n X QQ (.call f m::is) F:=
 eP J (F:=F) (λy m=>aW m) (by rw[hr];rfl) λK s B l x k=>by
  obtain⟨a,hf⟩:=Hj hs;have P:parts.length<=aM:=aA hs.2<|lz rfl;refine eA (lz rfl)<|qQ J hf ⟨P,HK hs.2 (λi t e=>(ha i t e).1) s λ{G x8 c} s p=>?_⟩;refine aN (bE<|Int.not_lt.mpr r)<|vN (GZ (bi:=AD) rfl s (aA (aY _ _) B.hz) λ{l2 s2 x30} Y=>?_);have T:aD (app G [.az (bz l2) s2]) (aK G)=AA (.az (bz l2) s2):=eN (k:=0);have E:aD (app G [.az (bz l2) s2]) c=AA (.lst<|parts.map aE):=dh p.at_;have Z:l2.length<=_:=Y.z;have I:=aA Z<|aA (aY _ _) B.hz;refine K8 T I ⟨rfl,rfl⟩ λ{D} A g=>OA (i:=c+10) E hs.2 A ?_;refine Ob J s.app M (Oc Y s.hk g λt k h=>Q t k<|h.imp id λR=>R.elim λj L=>L.elim λd T=>⟨j,Int.ofNat_le.mp d,T⟩) λ{x11 x27}=>?_;have q:=B.kz;refine GQ (i:=9) (j:=c+10) rfl (show aD (hF X F.b _ F.evs F.kept<|app G [.az (bz l2) s2]) (c+10)=_ from E) ?_ ?_
  .rw[aO,aO];show aA (bW (aA (aY _ _) q) hs.2)<|lz rfl
  rw[<-bw];have w:=B.ez;show u0 (a:=6) (e:=8) (f:=(0,f)) J M (λp m=>⟨.n5 (O p m).1 B,.n5 (O p m).2 B⟩) (λy=>rfl) (evs:=F.evs) (D:=parts) rfl rfl (.inr ⟨c+10,rfl,E⟩) (λt m=>(List.mem_iff_getElem?.mp m).elim λi u=>.n5 (ha i t u).2 B) N (aA hs.2 ⋯) C (bZ (aY _ _) w) λ{st g}=>k<|o ⟨⟨s2,dh T⟩,Y.hk s.hk,s.app.app.ll,s.app.app.rr⟩ (B.goal Z hs.2<|du (by decide:(-1:Int)<=0) (eI m)) x
def aEy(E:F.living=-1)(M:ay F.b S)(Z:BQ (aZ F.aG) F.b)(N:fD S parts)(Q:∀t k,t∈parts->t.app S=.v k->k∈F.loose->F.ls k<=-1)(C:0<X.picks.length)(u:∀{st G Fr},QQ (.ret<|.tup [.obj 8,.obj 9,.str Aag]) Fr<|hF X (mK F S parts (0,f) (iV<|-1) (-1) X.picks).b st (mK F S parts (0,f) (iV<|-1) (-1) X.picks).evs (mK F S parts (0,f) (iV<|-1) (-1) X.picks).kept G):Rd W n X QQ [.exec f] F:=
 eP J (F:=F) (i:=.exec f) (is:=[]) (λy m=>aW m) (by rw[hr];rfl) λK s B l x k=>by
  obtain⟨a,hf⟩:=Hj hs;have A:parts.length<=aM:=aA hs.2<|lz rfl;refine eA (lz rfl)<|qQ J hf ⟨A,HK hs.2 (λi t e=>(ha i t e).1) s λ{G x8 c} s p=>?_⟩;refine vN (GZ (bi:=AD) rfl s (aA (aY _ _) B.hz) λ{l2 s2 x30} Y=>?_);have o:aD (app G [.az (bz l2) s2]) (aK G)=AA (.az (bz l2) s2):=eN (k:=0);have L:aD (app G [.az (bz l2) s2]) c=AA (.lst<|parts.map aE):=dh p.at_;have P:l2.length<=_:=Y.z;have I:=aA P<|aA (aY _ _) B.hz;refine K8 o I ⟨rfl,rfl⟩ λ{D} R g=>OA (i:=c+10) L hs.2 R ?_;refine Ob J s.app M (Oc Y s.hk g λt k h=>by
   rw[E] at h ⊢;show Q t k<|h.elim id λO=>O.elim λj T=>T.elim λd y=>absurd d (Int.not_le.mpr<|Dc ⋯ (eI j))) λ{x11 x27}=>?_
  have q:=B.kz;refine GQ (i:=9) (j:=c+10) rfl (show aD (hF X F.b _ F.evs F.kept<|app G [.az (bz l2) s2]) (c+10)=_ from L) ?_ ?_
  .rw[aO,aO];show aA (bW (aA (aY _ _) q) hs.2)<|lz rfl
  rw[<-bw];have w:=B.ez;refine u0 (a:=6) (e:=8) (f:=(0,f)) J M (λp m=>⟨.n5 (Z p m).1 B,.n5 (Z p m).2 B⟩) (λy=>rfl) (evs:=F.evs) (D:=parts) rfl rfl (.inr ⟨c+10,rfl,L⟩) (λt m=>(List.mem_iff_getElem?.mp m).elim λi r=>.n5 (ha i t r).2 B) N (aA hs.2 ⋯) C (bZ (aY _ _) w) λ{st g}=>?_
  show aS (a6<|Lb l x)<|aS (a6 E) u
def aEv(M:ay F.b S)(E:BQ (aZ F.aG) F.b)(O:fD S parts)(C:0<X.picks.length)(P:Rd W n X QQ is<|mK F S parts (1,f) (yV F.living) F.living X.picks):Rd W n X QQ (.mC f::is) F:=
 eP J (F:=F) (λy m=>aW m) (by rw[hr];rfl) λK s B q Q k=>by
  obtain⟨a,hf⟩:=Hj hs;have Y:parts.length<=aM:=aA hs.2<|lz rfl;refine eA (lz rfl)<|qQ J hf ⟨Y,HK hs.2 (λi t e=>(ha i t e).1) s λ{G x8 c} s p=>?_⟩;refine vN (GZ (bi:=AB) rfl s (aA (aY _ _) B.hz) λ{l2 s2 x30} L=>?_);have I:aD (app G [.az (bz l2) s2]) (aK G)=AA (.az (bz l2) s2):=eN (k:=0);have T:aD (app G [.az (bz l2) s2]) c=AA (.lst<|parts.map aE):=dh p.at_;have Z:=L.z;have R:=B.kz;refine GQ (i:=9) (j:=c+10) rfl (show aD (hF X F.b _ F.evs F.kept<|app G [.az (bz l2) s2]) (c+10)=_ from T) ?_ ?_
  .rw[aO,aO];show aA (bW (aA (aY _ _) R) hs.2)<|lz rfl
  rw[<-bw];have N:=B.ez;show u0 (a:=6) (e:=8) (f:=(1,f)) J M (λp m=>⟨.n5 (E p m).1 B,.n5 (E p m).2 B⟩) (λy=>rfl) (D:=parts) rfl rfl (.inr ⟨c+10,rfl,T⟩) (λt m=>(List.mem_iff_getElem?.mp m).elim λi A=>.n5 (ha i t A).2 B) O (aA hs.2 ⋯) C (bZ (aY _ _) N) λ{st g}=>k<|P ⟨⟨s2,dh I⟩,L.hk s.hk,s.app.app.ll,s.app.app.rr⟩ (B.goal Z hs.2 B.lv) Q
end
end
def wV(J:K2)(X:Fx)(evs:List U.Ev):Prop:=∀⦃b st ks G B⦄,J (.ret<|.tup [.obj 8,.obj 9,.str Aac]) B<|hF X b st evs ks G
def DN(J:K2)(X:Fx)(F:U.FS):Prop:=∀⦃st G B⦄,J (.ret<|.tup [.obj 8,.obj 9,.str Aag]) B<|hF X F.b st F.evs F.kept G
def mF{J:K2}{X:Fx}{evs:List U.Ev}(h:wV J X evs){b:Bd}{st:Nat}{ks:List U.Tm}{G:AH}{B:Fa}:J (.ret<|.tup [.obj 8,.obj 9,.str Aac]) B<|hF X b st evs ks G:=@h _ _ _ _ _
def LM(h:DN QQ X F){J:Fa}:QQ (.ret<|.tup [.obj 8,.obj 9,.str Aag]) J<|hF X F.b st F.evs F.kept G:=@h _ _ _
section
variable(J:bG W)
include J
def rules(E:Ar X)(C:0<X.picks.length):U.Rules (Rd W n X QQ) (wV QQ X) (DN QQ X) (Cj X) X.picks where
 getVar:=λhr hq y B=>aE2 J hr hq B
 kG:=λhr C hq w1 w2 M D b1 b2 k=>aE1 J mF hr C hq w1 w2 M D b1 b2 k
 kE:=λhr hq M D ht T L=>aE0 J mF hr hq M D ht T L
 MU:=λhr hq w M D y hf B=>HX J mF E hr hq w hf M D (λm e=>U.Tm.v.inj e▸B) (λh=>(aI h).elim) λh=>nomatch h
 MT:=λhr hq w M D y hf hs e B=>HX J mF E hr hq w hf M D (λm e=>by rw[e] at hs;show(aI hs).elim) (λy y=>B) λy h=>absurd ⟨hs,e⟩ h
 MS:=λhr hq w M D y hf hv hn h=>HX J mF E hr hq w hf M D (λm e=>by rw[e] at hv;show nomatch hv) (λa b=>absurd ⟨a,b⟩ hn) λy y=>h
 fail:=λhr h=>aEz J mF hr h
 kb:=λhr y B=>QO J (.inl rfl) hr B
 oJ:=λhr M D ht T L=>QN J mF (.inl rfl) hr M D ht T L
 oL:=λA hm B=>QP J (.inl rfl) A hm B
 QE:=λhr hf B=>aE5 J E hf hr B
 oD:=λhr y B=>QO J (.inr rfl) hr B
 oB:=λhr M D ht T L=>QN J mF (.inr rfl) hr M D ht T L
 oE:=λA hm B=>QP J (.inr rfl) A hm B
 val:=λR hr C w S M D y O hx T L=>aFC J mF R hr C w S M D O hx T L
 loc:=λR hr C w M D y O hx T L=>aE3 J mF R hr C w M D O hx T L
 QG:=λhr B=>aE9 J hr B
 QH:=λhr Z B=>aFA J hr Z B
 mX:=λhr hq B=>aFB J hr hq B
 lP:=λhr C w y y y B=>aE7 J hr C w B
 jI:=λhr C y B=>aE8 J hr C B
 kU:=λhr B=>aE6 J hr B
 mC:=λhr hs ha M D G B=>aEv J hr hs ha M D G C B
 jW:=λhr B=>aEx J hr B
 call:=λhr hs ha hl M D G Y B=>aEw J hr hs ha hl M D G Y C B
 exec:=λhr hs ha hl M D G Y hD=>aEy J hr hs ha hl M D G Y C<|LM hD
 proceed:=λhr hl hD=>aE4 J hr hl<|LM hD
end
@[reducible] def f0(X:Fx)(x8:Option V)(t:Fa):Fa:=AA (.obj 0)::AA (.obj 5)::AA (.obj 6)::AA (.obj 7)::AA (.lst<|fN X.picks)::AA (.obj 8)::AA (.obj 9)::AA (.obj 10)::x8::t
def Vz:cB (encL (λz=>-2) L) (.int (x:Int)) (.int<|-2)=encL (λz=>-2) (dR L x):=by
 unfold dR;have e:((encL (λz=>-2) L).any λq=>decide<|q.1=.int x)=decide (x∈L):=IW.mpr (by
  rw[List.any_eq_true,Eu];show⟨λ⟨p,m,h⟩=>(let ⟨y,J,B⟩:=List.mem_map.mp m;d6 (Atom.int.inj<|(aF As B).trans (dK h))▸J),λm=>⟨_,rY m,a6 rfl⟩⟩)
 unfold cB;rw[e];by_cases m:x∈L
 .rw[a6 m,aC rfl,aC m];unfold encL;rw[gm];show jO λy z=>by by_cases q:Atom.int y=.int x;show(aC q);show aB q
 rw[bE m,aB aI,aB m];unfold encL;rw[bw];rfl
variable{t:Fa}
section
variable(J:bG W){Q:K2}
theorem Yn(z:X.call.length<=100):∀{k i l s x8},i+k=X.call.length->(∀j T,j<i->X.call[j]?=AA T->aa l (aP<|1+j)=AA T)->(∀n,aa l (yP n)=AE)->l.length<=i->(∀{l s x8},(∀j T,X.call[j]?=AA T->aa l (aP<|1+j)=AA T)->(∀n,aa l (yP n)=AE)->l.length<=100->Q .aQ (f0 X x8 t) (hF X [] 0 [] X.call [.az (bz l) s]))->
  d5 8 (aU W n NY) ((Af i k).map λi:Nat=>V.int (i:Int)) (f0 X x8 t) (hF X [] 0 [] X.call [.az (bz l) s]) Q:=by
 intro k
 induction k with
 |zero=>show λe h B hl q=>q (λj T hj=>h j T (b6 (List.getElem?_eq_some_iff.mp hj).1<|bJ e.symm) hj) B (aA hl<|aA (bJ e) z)|succ k M=>
  intro i l s x8 e h B hl q;have C:=e▸ri (jQ k);have J:=cK C;refine e5 λK L=>ba (pO<|a9▸J)<|yg (W:=W) (p:=aP<|i+1) (show aD (hF X [] 0 [] X.call [.az (bz l) s]) 10=AA (.az (bz l) s) from rfl) (aA hl<|aA (dc C) (aA z<|lz rfl)) (L ?_)
  refine M (by rw[<-e,dX];rfl) (λj T hj D=>?_) (λm=>by rw[sq,aB λe=>absurd (l6 e).1 ⋯];show B m) (aA o8<|bj hl) q
  rw[sq];by_cases q:j=i
  .subst q;rw[aC<|aF aP (bQ 1 j)];show J.symm.trans D
  rw[aB λe=>q<|TX ((l6 e).2.trans<|bQ i 1)];show h j T (Tb (kr hj) q) D
def Il(J:List U.Tm)(tb:List Nat)(D:List U.Tm):Prop:=tb.Nodup/\(∀x∈tb,x<=':')/\∀T∈J,aR T=AB->(∀x,T.has x->x∈tb)\/T∈D
include J
def Yy{s:Nat}(E:∀T∈X.call,aZ ':' T):∀{D:List U.Tm} {tb x8 x11},(∀T∈D,T∈X.call)->Il X.call tb D->(∀{tb x11},Il X.call tb []->Q .aQ (f0 X x8<|AA (.obj 11)::AA (.obj 12)::x11::t) (hF X [] 0 [] X.call [.az (bz l) s,.dict [] 0,.lst<|ah tb]))->
  gj (It .lst (.obj 7)<|X.call.map aE) 11 (aU W (n+101) NZ) (D.map aE) (f0 X x8<|AA (.obj 11)::AA (.obj 12)::x11::t) (hF X [] 0 [] X.call [.az (bz l) s,.dict [] 0,.lst<|ah tb]) Q:=by
 intro D
 induction D with
 |nil=>show λy i q=>⟨dD rfl,q i⟩|cons T D L=>
  intro tb x8 x11 hs i q;have M:=E T<|hs T h_;have B:=λT m=>hs T<|.tail _ m;refine gx (dD rfl) λK k=>dQ<|dP (λe1=>?_) λe1=>?_
  .have nd:(cD tb T).2.Nodup:=OO i.1;have C:=λx m=>(pB.mp m).elim (i.2.1 x)<|M.lo x;have z:(cD tb T).2.length<=100001:=by
    have:=pM nd λx m=>List.mem_range.mpr<|ip (C x m)
    rw[kq] at this;show this
   show O1 J (aA M.dp<|bU _ _) rfl (bZ z<|lz rfl)<|k (L B ⟨nd,C,λV m h=>(i.2.2 V m h).elim (λh=>.inl λx q=>pB.mpr<|.inl (h x q)) λm=>(JJ.mp m).elim (λe=>.inl λx q=>pB.mpr<|.inr (e▸q)) .inr⟩ q)
  show k<|L B ⟨i.1,i.2.1,λV m h=>(i.2.2 V m h).imp id λm=>(JJ.mp m).resolve_left λe=>aI<|e1.symm.trans (dB.trans<|(show V=T from e)▸h)⟩ q
omit J
def Im(J:List U.Tm)(tb L:List Nat):Prop:=∀x∈L,U.Tm.v x∈J/\x∉tb
theorem aCO{s:Nat}:∀{D:List U.Tm} {L s' x8 x11},(∀T∈D,T∈X.call)->L.length+D.length<=100->Im X.call tb L->(∀{L s' x11},L.length<=100->Im X.call tb L->Q .aQ (f0 X x8<|AA (.obj 11)::AA (.obj 12)::x11::t) (hF X [] 0 [] X.call [.az (bz l) s,.dict (encL (λy=>-2) L) s',.lst<|ah tb]))->
  gj (It .lst (.obj 7)<|X.call.map aE) 11 (aU W n Na) (D.map aE) (f0 X x8<|AA (.obj 11)::AA (.obj 12)::x11::t) (hF X [] 0 [] X.call [.az (bz l) s,.dict (encL (λy=>-2) L) s',.lst<|ah tb]) Q:=by
 intro D
 induction D with
 |nil=>show λy z i q=>⟨dD rfl,q z i⟩|cons T D B=>
  intro L s' x8 x11 hs z i q;have J:=λT m=>hs T<|.tail _ m;have z':=eT z;refine gx (dD rfl) λK k=>dQ (dP (λe1=>?_) λe1=>k<|B J z' i q);refine gA (cq.symm.trans e1) λm e=>jJ e<|OJ (show aD (hF X [] 0 [] X.call [.az (bz l) s,.dict (encL (λy=>-2) L) s',.lst<|ah tb]) 12=AA (.lst<|(cI tb).map V.int) from rfl) (dP (λC=>?_) λC=>k<|B J z' i q)
  refine jJ e ⟨by unfold encL;rw[aO];show aA (Nat.le_of_add_right_le z')<|lz rfl,?_⟩
  rw[Vz];have nm:m∉tb:=λh=>by
   rw[show(cI tb).any (· == m)=AB from List.any_eq_true.mpr ⟨_,rY h,j0 _⟩] at C
   show(aI C).elim
  show k (B J (by
   unfold dR;by_cases q:m∈L
   .rw[aC q];show z'
   .rw[aB q,a5,dX];show z) (λx h=>by
   unfold dR at h;by_cases q:m∈L
   .rw[aC q] at h;show i x h
   rw[aB q] at h;show(nA.mp h).elim (i x) λh=>(JK.mp h).symm▸⟨e▸hs T h_,nm⟩) q)
end
@[reducible] def hC(X:Fx):AH:=.inst 0 [('4',.obj 1),('q',.obj 2),('H',.obj 3),('o',.obj 4)]::X.c1::X.c2::.lst (X.fs.map oq)::X.c4::.lst (X.code.map jY)::.dict [] 0::.lst (X.call.map aE)::[]
def fQ(W:Wd)(n:Nat)(Q:K1):K2:=mN (aU W (n+155)<|dp 12 NX)<|gJ Q
section
variable(J:bG W)
include J
def Wj(C:∀T∈X.call,aZ ':' T/\∀k,T.has k->N<=k)(z:X.call.length<=100)(B:X.code.length<=900)(O:∀F,U.Start N ':' X.call F->F.living=-1->Rd W n X (fQ W n Q) X.code F):Fi W (n+156) 76 [.obj 0,.obj 5,.obj 6,.obj 7,.lst<|fN X.picks] (hC X) Q:=by
 have M:(X.call.map aE).length<=aM:=by rw[aO];show aA z<|lz rfl
 refine J.fe X2 rfl ?_;refine eA (lz rfl)<|OG J rfl (vN ⟨M,?_⟩);rw[aO,nz];refine Yn (l:=[]) z (cT _) (λy y h=>absurd h<|uS _) (λy=>rfl) (aV _) λ{l s x8} hl Z E=>?_;refine mO<|eA (lz rfl) ⟨dD rfl,?_⟩;refine Yy J (λT m=>(C T m).1) (λy m=>m) ⟨d7,(λy m=>aW m),λT m y=>.inr m⟩ λi=>⟨dD rfl,?_⟩;refine aCO (λy m=>m) (aA (bJ<|cT _) z) (λy m=>aW m) λ{L s' x11} G D=>?_;refine eA (lz rfl) ⟨?_,?_⟩
 .rw[aO];show aA B<|lz rfl
 rw[aO,nz];refine O ⟨[],λp=>aa l p,L,λy=>-2,[],':',-1,[],X.call⟩ ⟨rfl,rfl,rfl,rfl,rfl,λj T e=>hl j T e,λm=>Z m,C,λx m=>⟨⟨(C _ (D x m).1).1.lo x rfl,rfl⟩,λT Y h q=>(D x m).2<|((i.2.2 T Y h).resolve_right eL) x q⟩⟩ rfl ⟨⟨s,rfl⟩,λy=>rfl,⟨s',rfl⟩,rfl⟩ ⟨?_,aA (bW E<|dY 2 B) ⋯,?_,?_,bK _,aA (bW G B) ⋯,wb _⟩ rfl
 show aA (b7 (dY 2 B) ':') ⋯
 show aA (bW z<|dY 100 B) ⋯
 show bZ (bJ<|cT _)<|bZ B ⋯
end
def cE(k:Nat):List Me->Nat
 | []=>0|m::E=>(if m.k=k then m.c else 0)+cE k E
def bc(k:Nat)(E:List Me):Prop:=∃m∈E,m.k=k
def jR(E:List Me):Prop:=∀m∈E,m.c≠0
variable{m:Me}{B_ E:List Me}{x:In}{g:Int}
section
variable{k:Nat}{A:List Me}
def rD:stI I m k=if m.k=k then gB (I k) m else I k:=by
 unfold stI up;by_cases e:k=m.k
 .rw[aC e,aC e.symm,e]
 rw[aB e,aB λz=>e z.symm]
def om:cE k (A++B_)=cE k A+cE k B_:=by
 induction A with
 |nil=>show(cT _).symm|cons m A J=>show(aF (_+·) J).trans (bH ..).symm
def Ko(h:m∈E)(e:m.k=k):m.c<=cE k E:=by
 induction E with
 |nil=>show aW h|cons n E J=>
  change m.c<=(if n.k=k then n.c else 0)+cE k E
  rcases JJ.mp h with rfl|h
  .rw[aC e];show aY _ _
  show aA (J h)<|bU _ _
def xN(p:jR E)(h:bc k E):1<=cE k E:=h.elim λm J=>J.elim λa e=>aA (Jh<|p m a)<|Ko a e
def WM:∀{I:Nat->In},((E.foldl stI I) k).cnt=(I k).cnt+cE k E:=by
 induction E with
 |nil=>show rfl|cons m E J=>
  intro I;refine(J).trans ?_;change _=(I k).cnt+((if m.k=k then m.c else 0)+cE k E)
  rw[rD,<-bH];refine aF (·+cE k E) ?_;by_cases e:m.k=k
  .rw[aC e,aC e];unfold gB;by_cases z:(I k).cnt=0
   .rw[aC z,z,cT]
   rw[aB z]
  rw[aB e,aB e];rfl
def Lm:∀{I:Nat->In},¬bc k B_->(B_.foldl stI I) k=I k:=by
 induction B_ with
 |nil=>show λy=>rfl|cons m B_ C=>show λh=>(C λB=>B.elim λn J=>J.elim λa e=>h ⟨n,.tail _ a,e⟩).trans<|rD.trans (aB λe=>h ⟨m,.head _,e⟩)
def E8{P:In->Prop}:∀{I:Nat->In},(∀x m,m∈B_->m.k=k->P (gB x m))->P (I k)\/bc k B_->P ((B_.foldl stI I) k):=by
 induction B_ with
 |nil=>show λy h=>h.resolve_right λB=>B.elim λy J=>J.elim λa y=>aW a|cons m B_ C=>
  intro I h o;refine C (λx n a=>h x n<|.tail _ a) ?_;rw[rD];by_cases e:m.k=k
  .rw[aC e];show .inl<|h _ m h_ e
  rw[aB e];show o.imp id λ⟨n,a,z⟩=>⟨n,(JJ.mp a).resolve_left λq=>e<|q▸z,z⟩
def xn{P:In->Prop}(h:∀x m,P x->P (gB x m)):∀{I:Nat->In},P (I k)->P ((B_.foldl stI I) k):=by
 induction B_ with
 |nil=>show λq=>q|cons m B_ J=>
  intro I q;refine J ?_;rw[rD];by_cases e:m.k=k
  .rw[aC e];show h _ m q
  rw[aB e];show q
def WN{P:In->Prop}(h:∀x m,P x->P (gB x m)):∀{I:Nat->In},(∀x m,x.cnt=0->m∈A->m.k=k->P (gB x m))->(I k).cnt=0->bc k A->P ((A.foldl stI I) k):=by
 induction A with
 |nil=>show λj j C=>C.elim λj J=>J.elim λa j=>aW a|cons m A D=>
  intro I B z o;by_cases e:m.k=k
  .refine xn h (B_:=A) ?_;rw[rD,aC e];show B _ m z h_ e
  have s:stI I m k=I k:=rD.trans<|aB e;show D (λx n y a=>B x n y<|.tail _ a) (s▸z) (let ⟨n,a,y⟩:=o;⟨n,(JJ.mp a).resolve_left λq=>e<|q▸y,y⟩)
def sE(E:List Me):Nat->In:=E.foldl stI λy=>DG
def tQ:(sE E k).cnt=cE k E:=WM.trans<|cT _
def z6:sE (A++B_)=B_.foldl stI (sE A):=wi
def Qg(h:bc k B_)(l:∀m∈B_,g<=m.goal/\c<=m.chunk):g<=(sE (A++B_) k).last/\c<=(sE (A++B_) k).lc:=by
 rw[z6];show E8 (P:=λx=>g<=x.last/\c<=x.lc) (λx m a y=>by
  unfold gB;split
  show l m a;show l m a)<|.inr h
def aFf(h:bc k A)(n:¬bc k B_)(l:∀m∈A,m.goal<=g/\m.chunk<=c):(sE (A++B_) k).last<=g/\(sE (A++B_) k).lc<=c:=by
 rw[z6,Lm n];show E8 (P:=λx=>x.last<=g/\x.lc<=c) (λx m a y=>by
  unfold gB;split
  show l m a;show l m a)<|.inr h
def Gp(h:x.cnt≠0):(gB x m).fc=x.fc/\(gB x m).first=x.first/\(gB x m).cnt≠0:=by
 unfold gB;rw[aB h];show⟨rfl,rfl,λe=>h<|Nat.eq_zero_of_add_eq_zero_right e⟩
def aFa(p:jR A)(h:bc k A)(l:∀m∈A,m.chunk<=c):(sE (A++B_) k).fc<=c:=by
 rw[z6];refine(xn (P:=λx=>x.cnt≠0/\x.fc<=c) (λx m q=>have z:=Gp q.1;⟨z.2.2,z.1▸q.2⟩) ?_).2;show WN (P:=λx=>x.cnt≠0/\x.fc<=c) (λx m q=>have z:=Gp q.1;⟨z.2.2,z.1▸q.2⟩) (λx m z a e=>by
  unfold gB;rw[aC z];show⟨p m a,l m a⟩) rfl h
def aFd(p:m.c≠0)(n:¬bc m.k A):(sE (A++m::B_) m.k).first=m.first/\(sE (A++m::B_) m.k).fc=m.chunk:=by
 rw[z6];refine(xn (P:=λx=>x.cnt≠0/\x.first=m.first/\x.fc=m.chunk) (λx n q=>have z:=Gp q.1;⟨z.2.2,z.2.1.trans q.2.1,z.1.trans q.2.2⟩) (B_:=B_) ?_).2
 rw[rD,aC rfl,show sE A m.k=DG from Lm n]
 show⟨p,rfl,rfl⟩
def aFi:(sE E k).dt=AD:=xn (P:=λx=>x.dt=AD) (λx m q=>by
 unfold gB;split
 rfl;show q) rfl
end
variable{Z:List Nat}{t:U.Tm}{gl:Gl}
section
variable{k:Nat}
def V9(h:m∈uz Z g c t):m.c≠0/\m.goal=g/\m.chunk=c/\t.has m.k:=by
 have st:m∈(cD [] t).2.map (λk=>(⟨k,Z++Aah,g,c,cg k t⟩))->m.c≠0/\m.goal=g/\m.chunk=c/\t.has m.k:=λh=>by
  obtain⟨j,a,rfl⟩:=List.mem_map.mp h;have y:=(pB.mp a).resolve_left eL;show⟨iC<|gW y,rfl,rfl,y⟩
 rcases t with j|_
 .obtain rfl:=JK.mp h;show⟨Jg,rfl,rfl,rfl⟩
 show st h;show st h;show st h
def Li(h:t.has k):∃m∈uz Z g c t,m.k=k/\m.c=cg k t:=by
 have st:∃m∈(cD [] t).2.map (λk=>(⟨k,Z++Aah,g,c,cg k t⟩:Me)),m.k=k/\m.c=cg k t:=⟨_,List.mem_map.mpr ⟨k,pB.mpr<|.inr h,rfl⟩,rfl,rfl⟩;rcases t with j|_
 .show⟨_,.head _,h,((aC h).symm)⟩
 show st;show st;show st
def qX(h:m∈eD Z g c D):m.c≠0/\m.goal=g/\m.chunk=c/\∃t∈D,t.has m.k:=(List.mem_flatMap.mp h).elim λt J=>J.elim λa b=>have z:=V9 b;⟨z.1,z.2.1,z.2.2.1,t,a,z.2.2.2⟩
def ou(a:t∈D)(h:t.has k):bc k<|eD Z g c D:=(Li h).elim λm B=>B.elim λb J=>J.elim λe y=>⟨m,List.mem_flatMap.mpr ⟨t,a,b⟩,e⟩
def Ec:dz k D<=cE k (eD Z g c D):=by
 induction D with
 |nil=>show aV _|cons t D J=>
  change cg k t+dz k D<=cE k (uz Z g c t++eD Z g c D);rw[om];refine bW ?_ J;by_cases h:t.has k
  .obtain⟨m,a,e,z⟩:=Li h;show z▸Ko a e
  rw[PQ h];show bK _
def fO(i c:Nat)(g:Gl):List Me:=eD Aab i c<|cY g
def ix(g:Gl)(c:Nat):Nat:=if U.isCall g=AB then c+1 else c
def uy:f6 (gl::gs) i c=fO i c gl++f6 gs (i+1) (ix gl c):=rfl
def sQ(h:m∈fO i c gl):m.c≠0/\m.goal=i/\m.chunk=c/\e6 m.k gl:=qX h
def nR(h:e6 k gl):bc k<|fO i c gl:=h.elim λt z=>ou z.1 z.2
def Kx:c<=ix gl c:=by
 unfold ix;split
 show b8 _;show aV _
def Lg:∀{i c:Nat},m∈f6 gs i c->m.c≠0/\(i:Int)<=m.goal/\c<=m.chunk/\∃g∈gs,e6 m.k g:=by
 induction gs with
 |nil=>show λh=>aW h|cons gl gs B=>
  intro i c h;rw[uy] at h;rcases nA.mp h with h|h
  .have z:=sQ h;show⟨z.1,m7 z.2.1.symm,bJ z.2.2.1.symm,gl,.head _,z.2.2.2⟩
  have z:=B h;show⟨z.1,du (Int.ofNat_le.mpr<|b8 i) z.2.1,aA Kx z.2.2.1,z.2.2.2.elim λg J=>J.elim λa b=>⟨g,.tail _ a,b⟩⟩
end
variable{l:List Nat}
section
variable{Lf:Nat->Int}{k:Nat}{g':Int}
def qN(Lf:Nat->Int)(l:List Nat):Prop:=l.Pairwise λa b=>Lf b<=Lf a
def aEj:∀{n:Nat},n<=acc.length->(∀b∈acc.drop n,Lf b<Lf k)->∀b∈acc.drop (iX Lf acc k n),Lf b<Lf k:=λ{n}=>by
 induction n with
 |zero=>show λy h=>h|succ n J=>
  intro z h;rw[HQ];by_cases e:Lf ((acc[n]?).getD 0)<Lf k
  .rw[aC e];refine J (eT z) λb m=>?_;rw[Dj z] at m;rw[cK z] at e;show(JJ.mp m).elim (λq=>q▸e)<|h b
  rw[aB e];show h
def aEk(s:qN Lf acc):∀{n:Nat},n<=acc.length->∀a∈acc.take (iX Lf acc k n),Lf k<=Lf a:=λ{n}=>by
 induction n with
 |zero=>show λy a m=>aW m|succ n J=>
  intro z;rw[HQ];by_cases e:Lf ((acc[n]?).getD 0)<Lf k
  .rw[aC e];show J<|eT z
  rw[aB e];intro a m;rw[cK z] at e;have p:=I3 (JR (n+1) acc) s;rw[List.take_succ,cK z] at m p;show(nA.mp m).elim (λm=>du (Int.not_lt.mp e)<|(List.pairwise_append.mp p).2.2 a m _ h_) λm=>JK.mp m▸Int.not_lt.mp e
def Y4(s:qN Lf acc):qN Lf<|jg Lf acc k:=by
 have D:=aEj (Lf:=Lf) (acc:=acc) (k:=k) (aV _) λb m=>by rw[I8] at m;show aW m
 have C:=aEk (k:=k) s<|aV _;refine List.pairwise_append.mpr ⟨I3 (JR _ _) s,List.pairwise_cons.mpr ⟨λb m=>rT<|D b m,I3 (List.drop_sublist _ _) s⟩,λa B b J=>?_⟩;show(JJ.mp J).elim (λe=>e▸C a B) λJ=>du (rT<|D b J)<|C a B
def Wi{ks:List Nat}:∀{acc:List Nat},qN Lf acc->qN Lf (ks.foldl (jg Lf) acc):=by
 induction ks with
 |nil=>show λh=>h|cons k ks J=>show λh=>J<|Y4 h
def aCX:jl Lf g l<=l.length:=by
 induction l with
 |nil=>show aV _|cons a l J=>
  rw[yt];split
  show bj J;show bK _
def aCV(h:g<=g'):jl Lf g' l<=jl Lf g l:=by
 induction l with
 |nil=>show aV _|cons a l J=>
  rw[yt,yt];by_cases e:g'<Lf a
  .rw[aC e,aC<|rU h e];show bj J
  rw[aB e];show bK _
def aCW(s:qN Lf l)(m:k∈l)(h:g<Lf k):l.idxOf k+1<=jl Lf g l:=by
 induction l with
 |nil=>show aW m|cons a l J=>
  have s:=List.pairwise_cons.mp s;rw[yt];by_cases e:a=k
  .subst e;rw[aC h,Dq];show bj<|bK _
  have m:=(JJ.mp m).resolve_left λq=>e q.symm;rw[aC<|Dc h (s.1 k m),Dp,(beq_eq_false_iff_ne.mpr e)];show bj<|J s.2 m
end
variable{r:AH}
section
variable{k:Nat}
def Kn:(j8 O gs K k).last=(bf O gs k).last/\(j8 O gs K k).cnt=(bf O gs k).cnt/\(j8 O gs K k).first=(bf O gs k).first/\(j8 O gs K k).dt=(bf O gs k).dt:=by
 unfold j8;split<;>show⟨rfl,rfl,rfl,rfl⟩
def uh:(iw O gs K k).last=(bf O gs k).last/\(iw O gs K k).kd=(j8 O gs K k).kd/\(iw O gs K k).dt=(if k∈oO O gs K then eO (bf O gs k).first Aaf else AD)/\(k∈oO O gs K->(iw O gs K k).sl=(oO O gs K).idxOf k+1):=by
 have z:=Kn (O:=O) (gs:=gs) (K:=K) (k:=k);unfold iw;by_cases h:k∈oO O gs K
 .rw[aC h,aC h,<-z.2.2.1];show⟨z.1,rfl,rfl,λy=>rfl⟩
 rw[aB h,aB h];show⟨z.1,rfl,z.2.2.2.trans aFi,λq=>absurd q h⟩
def U0:(λk=>(j8 O gs K k).last)=λk=>(bf O gs k).last:=funext λy=>Kn.1
def U1:(λk=>(iw O gs K k).last)=λk=>(bf O gs k).last:=funext λy=>uh.1
def aAx:eO (kdOf x) Aai=AB↔x.cnt≠1/\x.fc<x.lc:=by
 unfold kdOf;by_cases B:x.cnt=1
 .rw[aC B];show⟨(λh=>(aI h).elim),λh=>absurd B h.1⟩
 rw[aB B];by_cases J:x.fc<x.lc
 .rw[aC J];show⟨λy=>⟨B,J⟩,λy=>rfl⟩
 rw[aB J];show⟨(λh=>(aI h).elim),λh=>absurd h.2 J⟩
def tI:k∈oO O gs K↔k∈K/\(bf O gs k).cnt≠1/\(bf O gs k).fc<(bf O gs k).lc:=by
 unfold oO zj;rw[Ms,vf eL,List.mem_filter,Hr];refine qO λh=>?_;unfold yK j8;rw[aC h];show aAx
def aDd:qN (λk=>(bf O gs k).last)<|oO O gs K:=by
 unfold oO zj;rw[U0];show Wi .nil
section
variable(O:List U.Tm)(gs:List Gl)(K:List Nat)
def bI:Pl:=zq (λk=>decide<|(bf O gs k).cnt=1) (oO O gs K) (λk=>(iw O gs K k).dt) λk=>(iw O gs K k).last
def iW(i:Nat):Nat:=jl (λk=>(bf O gs k).last) i<|oO O gs K
end
def aCU(h:i<gs.length):(fR O gs K)[i]?=AA (iW O gs K i):=by
 unfold fR iW;rw[U1,f3,Dm h];rfl
def aED(s:Sv K (iw O gs K) A r)(z:K.length<4000):Pk (bI O gs K) K (iw O gs K) where
 nK:=s.nd
 kl:=z
 kd:=λk hk=>by
  rw[uh.2.1];unfold j8;rw[aC hk];change kdOf (bf O gs k)=if decide ((bf O gs k).cnt=1)=AB then _ else if decide (k∈oO O gs K)=AB then _ else _
  unfold kdOf;by_cases J:(bf O gs k).cnt=1
  .rw[aC J,aC<|a6 J]
  rw[aB J,aB λq=>J<|dK q];by_cases B:(bf O gs k).fc<(bf O gs k).lc
  .rw[aC B,aC<|a6 (tI.mpr ⟨hk,J,B⟩)]
  rw[aB B,aB λq=>B (tI.mp<|dK q).2.2]
 sl:=λk y h=>uh.2.2.2<|dK h
 un:=λy y=>rfl
 la:=λy y=>rfl
 ex:=λk y h=>bE λq=>(tI.mp q).2.1<|dK h
end
def T1(J:Nat->Nat):Gl->Prop
 | .call f as=>J f=as.length/\as.length<=100| .bi f as=>J f=as.length/\as.length<=100|_=>True
variable{A:List Me}
section
variable{k:Nat}{us:List U.Tm}
def dj:bc k (A++B_)↔bc k A\/bc k B_:=⟨λB=>B.elim λm J=>J.elim λa e=>(nA.mp a).imp (λa=>⟨m,a,e⟩) λa=>⟨m,a,e⟩,λh=>h.elim (λB=>B.elim λm J=>J.elim λa e=>⟨m,nA.mpr<|.inl a,e⟩) λB=>B.elim λm J=>J.elim λa e=>⟨m,nA.mpr<|.inr a,e⟩⟩
def Lh:eD Z g c (D++us)=eD Z g c D++eD Z g c us:=uO
def V7:bc k (fO i c gl)↔e6 k gl:=⟨λh=>h.elim λm z=>z.2▸(sQ z.1).2.2.2,nR⟩
def aDo:∀{i c:Nat},dk gs=AD->m∈f6 gs i c->m.chunk<=c:=by
 induction gs with
 |nil=>show λy h=>aW h|cons gl gs J=>
  intro i c ne h;rw[uy] at h;have ne:=Bool.or_eq_false_iff.mp<|ne;rcases nA.mp h with h|h;show bJ (sQ h).2.2.1;have z:=J ne.2 h;unfold ix at z;rcases hc:U.isCall gl with _|_
  .rw[hc] at z;show z
  rw[hc] at ne;rcases gs with _|_;show aW h;show nomatch ne.1
end
variable{gs0:List Gl}{sig:Nat->Nat}{pre:List Me}{dead hv:Nat->Prop}{living lg L:Int}{as:List U.Tm}
section
variable{k:Nat}{rest:List Me}{M:Nat->Prop}
def vi:(bI O gs0 K).void k=AB↔(bf O gs0 k).cnt=1:=kA
def HM(e:kB O gs0=A++B_)(B:jR A)(J:jR B_)(a:bc k A)(b:bc k B_):¬(bI O gs0 K).void k=AB:=λh=>by
 have z:(bf O gs0 k).cnt=_:=tQ;rw[vi.mp h,e,om] at z;show absurd (bW (xN B a)<|xN J b) (by rw[<-z];decide)
section
variable(h:(bI O gs0 K).perm k=AB)
def vh:k∈oO O gs0 K:=dK h
def Po(l:(i:Int)<(bf O gs0 k).last):(bI O gs0 K).slot k<=iW O gs0 K i:=aCW aDd (vh h) l
def aEE:(bI O gs0 K).slot k<=(oO O gs0 K).length:=Yr<|vh h
end
def aEF:(bI O gs0 K).last k=(bf O gs0 k).last:=uh.1
def aBe(h:i<=j):iW O gs0 K j<=iW O gs0 K i:=aCV<|Int.ofNat_le.mpr h
def aEG(h:(bI O gs0 K).perm k=AB)(f:(bf O gs0 k).first=Aaf):(bI O gs0 K).dt k=AB:=by
 refine uh.2.2.1.trans ?_;rw[aC<|vh h,f];rfl
def MP(Z:kB O gs0=pre++(eD Aab i c as++rest))(I:jR pre)(ps:jR rest)(l:∀k,M k->bc k pre)(x:∀k,bc k pre->M k\/(bI O gs0 K).void k=AB)(w:∀k,dead k->(bI O gs0 K).void k=AD->¬bc k (eD Aab i c as))
  (P:∀k,(bI O gs0 K).perm k=AB->bc k (eD Aab i c as)->((bI O gs0 K).slot k:Int)<=living) (S:∀t∈as,t.WT) (B:∀t∈as,∀k,t.has k->k<N) (G:∀t∈as,∀k,t.has k->¬hv k)
  (C:∀k,(bI O gs0 K).perm k=AB->bc k (eD Aab i c as)->(bI O gs0 K).dt k=AB->((bI O gs0 K).slot k:Int)<=L\/U.un (bI O gs0 K) k lg=AB) (T:∀k,(bI O gs0 K).perm k=AB->bc k (eD Aab i c as)->(bf O gs0 k).fc=c->((bI O gs0 K).slot k:Int)<=L):
  GA (bI O gs0 K) N hv M dead living lg L as:=by
 have Q:jR<|eD Aab i c as++rest:=λm h=>(nA.mp h).elim (λh=>(qX h).1)<|ps m;have E:∀{k},bc k pre->bc k (eD Aab i c as)->¬(bI O gs0 K).void k=AB:=λa b=>HM Z I Q a<|dj.mpr (.inl b);have f:∀{D as1:List U.Tm} {R:Nat->Prop},as=as1++D->(∀k,bc k (pre++eD Aab i c as1)->R k\/(bI O gs0 K).void k=AB)->DJ (bI O gs0 K) N (λk=>¬dead k) lg L R D:=λ{D}=>by
  induction D with
  |nil=>show λy y=>trivial|cons t D r=>
   intro as1 R e z;have m:t∈as:=e▸nA.mpr (.inr h_);refine And.intro ⟨⟨S t m,B t m,λk h v=>⟨λd=>w k d v<|ou m h,(hW (B t m k h)<|.inl rfl).symm⟩⟩,λk o v p=>?_⟩<|r (as1:=as1++[t]) (by rw[e,bp];rfl) λk h=>?_
   .subst o;refine⟨λu=>C k p (ou m rfl) u,λX=>?_⟩;have G:=λh=>(z k h).elim X λq=>aI<|v.symm.trans q;have Y:kB O gs0=(pre++eD Aab i c as1)++(⟨k,Aaf,i,c,1⟩:Me)::(eD Aab i c D++rest):=by
     rw[Z,e,Lh,bp,bp];rfl
    have n:=aFd (m:=⟨k,Aaf,i,c,1⟩) (B_:=eD Aab i c D++rest) Jg G;rw[<-Y] at n;show⟨aEG p n.1,T k p (ou m rfl) n.2⟩
   rw[Lh,<-bp] at h;rcases dj.mp h with h|⟨n,h,q⟩
   .show(z k h).imp .inl id
   obtain⟨u,j,g⟩:=(qX h).2.2.2;show .inl<|.inr (q▸JK.mp j▸g)
 refine⟨f (as1:=[]) rfl λk h=>x k<|(dj.mp h).resolve_right λA=>A.elim λy J=>J.elim λa y=>aW a,λk v=>⟨?_,λt m h q=>E (l k q) (ou m h) v⟩,λt m k h y p=>P k p<|ou m h,λt m k h=>⟨B t m k h,G t m k h⟩⟩;have z:(bf O gs0 k).cnt=_:=tQ;rw[vi.mp v,Z,om,om] at z;show aA (Ec)<|aA (aY _ _) (aA (bU _ _)<|bJ z.symm)
end
structure wY(sig:Nat->Nat)(N:Nat)(g:Gl):Prop where
 wt:∀t∈cY g,t.WT
 lt:∀k,e6 k g->k<N
 sg:T1 sig g
def HU(Z:Pl)(gs:List Gl)(k:Nat):Prop:=∃l r,.fE l r∈gs/\∃p∈cN l r,Vv Z p/\(p.1.has k\/p.2.has k)
def aDy{ps:List<|U.Tm×U.Tm}:dz n (gH ps)<=1->∀p∈ps,∀q∈ps,p.1.has n\/p.2.has n->q.1.has n\/q.2.has n->p=q:=by
 have pos:∀{p:U.Tm×U.Tm} {m},p.1.has n\/p.2.has n->1<=cg n p.1+(cg n p.2+m):=λh=>h.elim (λh=>aA (gW h)<|aY _ _) λh=>aA (gW h)<|aA (aY _ _) (bU _ _);have gI:∀{ps:List<|U.Tm×U.Tm} {q},q∈ps->q.1.has n\/q.2.has n->1<=dz n (gH ps):=λ{ps}=>by
  induction ps with
  |nil=>show λm=>aW m|cons p ps D=>show λm h=>(JJ.mp m).elim (λe=>by rw[e] at h;show pos h) λm=>aA (D m h)<|aA (bU _ _) (bU _ _)
 induction ps with
 |nil=>show λy p m=>aW m|cons r ps D=>
  intro o p B q J C hq;have o:=o;have L:r.1.has n\/r.2.has n->∀x∈ps,¬(x.1.has n\/x.2.has n):=λh x m hx=>by
   have z:=bW (pos (m:=0) h)<|gI m hx;rw[Nat.add_zero,bH] at z;show absurd (aA z o) ⋯
  rcases JJ.mp B with e|B
  .rcases JJ.mp J with T|J;show e.trans T.symm;show absurd hq<|L (e▸C) q J
  rcases JJ.mp J with T|J;show absurd C<|L (T▸hq) p B;show D (aA (aA (bU _ _)<|bU _ _) o) p B q J C hq
variable{g:Gl}
section
variable{k:Nat}{rest:List Me}{M:Nat->Prop}
def YO(D:kB O gs0=pre++(fO i c g++rest))(pp:∀m∈pre,m.c≠0/\m.goal<(i:Int)/\m.chunk<=c)(ps:∀m∈rest,m.c≠0/\(i:Int)<=m.goal)(w:∀k,M k↔bc k pre)(e:∀k,dead k->(bI O gs0 K).void k=AD->¬bc k (fO i c g))
  (Y:∀k,(bI O gs0 K).perm k=AB->bc k (fO i c g)->((bI O gs0 K).slot k:Int)<=living) (x:∀k,hv k->(bI O gs0 K).void k=AB/\(bc k pre\/bc k rest\/HU (bI O gs0 K) [g] k)) (P9:∀k,HU (bI O gs0 K) [g] k->hv k) (B:wY sig N g)
  (S:∀k,(bI O gs0 K).perm k=AB->bc k (fO i c g)->¬((bI O gs0 K).slot k:Int)<=L->(bf O gs0 k).last<=i) (P:∀k,(bI O gs0 K).perm k=AB->bc k (fO i c g)->(bf O gs0 k).fc=c->((bI O gs0 K).slot k:Int)<=L):
  p5 (bI O gs0 K) N sig hv M dead living i L g:=by
 have R:jR pre:=λm a=>(pp m a).1;have pg:jR<|fO i c g:=λm a=>(sQ a).1;have J:jR rest:=λm a=>(ps m a).1;have G:∀{k},bc k pre->e6 k g->¬(bI O gs0 K).void k=AB:=λa b=>HM D R (λm h=>(nA.mp h).elim (pg m)<|J m) a<|dj.mpr (.inl<|nR b);have T:∀{k},bc k rest->e6 k g->¬(bI O gs0 K).void k=AB:=λa b=>HM (A:=pre++fO i c g) (D.trans (bp ..).symm) (λm h=>(nA.mp h).elim (R m)<|pg m) J (dj.mpr<|.inr (nR b)) a;have j:=λk h q=>have z:=x k q;z.2.elim (λa=>absurd z.1<|G a h) λa=>a.elim (λa=>absurd z.1<|T a h) id;have un:∀k,(bI O gs0 K).perm k=AB->bc k (fO i c g)->(bI O gs0 K).dt k=AB->((bI O gs0 K).slot k:Int)<=L\/U.un (bI O gs0 K) k i=AB:=λk p h u=>by
  by_cases q:((bI O gs0 K).slot k:Int)<=L;show .inl q;have l1:=S k p h q;have l2:=(Qg (A:=pre) (B_:=fO i c g++rest) (g:=i) (c:=0) (dj.mpr<|.inl h) λm a=>(nA.mp a).elim (λa=>⟨m7 (sQ a).2.1.symm,bK _⟩) λa=>⟨(ps m a).2,bK _⟩).1;rw[<-D] at l2;refine .inr ?_;unfold U.un;rw[u,IY];show a6 ⟨eI i,aEF.trans<|Iv l1 l2⟩
 have P2:∀k,M k/\¬hv k->bc k pre:=λk h=>(w k).mp h.1;have P3:∀k,bc k pre->(M k/\¬hv k)\/(bI O gs0 K).void k=AB:=λk h=>(lb<|hv k).elim (λq=>.inr (x k q).1) λq=>.inl ⟨(w k).mpr h,q⟩;rcases g with ⟨f,as⟩|⟨f,as⟩|⟨l,r⟩
 .have nh:∀t∈as,∀k,t.has k->¬hv k:=λt m k h q=>(j k ⟨t,m,h⟩ q).elim λl z=>z.elim λr z=>nomatch JK.mp z.1;show⟨B.sg,MP D R J P2 P3 e Y B.wt (λt m k h=>B.lt k ⟨t,m,h⟩) nh un P⟩
 .have nh:∀t∈as,∀k,t.has k->¬hv k:=λt m k h q=>(j k ⟨t,m,h⟩ q).elim λl z=>z.elim λr z=>nomatch JK.mp z.1;show⟨B.sg,MP D R J P2 P3 e Y B.wt (λt m k h=>B.lt k ⟨t,m,h⟩) nh (λk p h y=>.inl<|Y k p h) λk p h y=>Y k p h⟩
 have H:=tO (l:=l) (r:=r);have C:∀{t k},t∈[l,r]->t.has k->e6 k (.fE l r):=λm h=>⟨_,m,h⟩;have ml:l∈[l,r]:=.head _;have mr:r∈[l,r]:=.tail _ h_;have s:∀t∈[l,r],U.Sd (bI O gs0 K) N (λk=>¬dead k) t:=λt m=>⟨B.wt t m,λk h=>B.lt k<|C m h,λk h v d=>e k d v<|nR (C m h)⟩;have oc:∀k,(bI O gs0 K).void k=AB->dz k [l,r]<=1:=λk v=>by
  have z:(bf O gs0 k).cnt=_:=tQ (E:=kB O gs0) (k:=k);rw[vi.mp v,D,om,om] at z;show aA (Ec (Z:=Aab) (g:=i) (c:=c))<|aA (aY _ _) (aA (bU _ _)<|bJ z.symm)
 refine⟨s l ml,s r mr,λk v=>⟨oc k v,λt m h q=>G ((w k).mp q) (C m h) v⟩,λp Q n hn=>?_,λt m k h y p=>Y k p<|nR (C m h)⟩;have hg:e6 n<|.fE l r:=((H.has n).mp ⟨p,Q,hn⟩).elim (C ml)<|C mr;refine⟨λq=>?_,λv=>P9 n ⟨l,r,.head _,p,Q,v,hn⟩⟩;obtain⟨l',r',m,p',I,v,X⟩:=j n hg q;cases JK.mp m;have o:=oc n (x n q).1;rw[aDy (n:=n) (ps:=cN l r) (by rw[H.cg];show o) p Q p' I hn X]
 show v
def YR(hK:∀k,k∈K↔(bf O gs0 k).cnt≠0):∀{i c pre M dead living},kB O gs0=pre++f6 gs i c->(∀m∈pre,m.c≠0/\m.goal<(i:Int)/\m.chunk<=c)->(∀k,M k↔bc k pre)->(∀k,dead k->(bI O gs0 K).void k=AD->¬bc k (f6 gs i c))->
  (∀k,(bI O gs0 K).perm k=AB->bc k (f6 gs i c)->((bI O gs0 K).slot k:Int)<=living)->(dk gs=AB->dk gs0=AB/\∀j,i<=j->(iW O gs0 K j:Int)<=living)->(dk gs0=AD->living=-1)->(∀k,hv k->(bI O gs0 K).void k=AB/\(bc k pre\/HU (bI O gs0 K) gs k))->(∀k,HU (bI O gs0 K) gs k->hv k)->(∀g∈gs,wY sig N g)->
  DX (bI O gs0 K) N sig hv (iW O gs0 K) (dk gs0) gs i M dead living:=by
 induction gs with
 |nil=>show λo o o o o o o o o o=>trivial|cons g gs w=>
  intro i c pre M dead living t pp s P4 P5 P6 P7 P8 P9 gp;rw[uy] at t P4 P5;have Y:∀{m},m∈f6 gs (i+1) (ix g c)->m.c≠0/\((i+1:Nat):Int)<=m.goal/\ix g c<=m.chunk:=λh=>have z:=Lg h;⟨z.1,z.2.1,z.2.2.1⟩;have up:∀{x:Int},((i+1:Nat):Int)<=x->(i:Int)<x:=λh=>Dc (Int.ofNat_lt.mpr<|c5 i) h;have D:∀m∈pre++fO i c g,m.c≠0/\m.goal<=(i:Int)/\m.chunk<=c:=λm h=>(nA.mp h).elim (λh=>have z:=pp m h;⟨z.1,rT z.2.1,z.2.2⟩) λh=>have z:=sQ h;⟨z.1,m7 z.2.1,bJ z.2.2.1⟩;have R:jR<|pre++fO i c g:=λm h=>(D m h).1;have B:=t.trans (bp ..).symm;have J:∀{k},bc k (pre++fO i c g)->¬bc k (f6 gs (i+1)<|ix g c)->(bf O gs0 k).last<=i/\(bf O gs0 k).lc<=c:=λ{k} a n=>by
   have z:=aFf (B_:=f6 gs (i+1)<|ix g c) a n λm h=>(D m h).2;rw[<-B] at z;show z
  have T:∀{k},bc k (f6 gs (i+1)<|ix g c)->((i+1:Nat):Int)<=(bf O gs0 k).last/\ix g c<=(bf O gs0 k).lc:=λ{k} a=>by
   have z:=Qg (A:=pre++fO i c g) a λm h=>(Y h).2;rw[<-B] at z;show z
  have pm:∀{k},(bI O gs0 K).perm k=AB->(bf O gs0 k).fc<(bf O gs0 k).lc:=λp=>(tI.mp<|vh p).2.2;have Z:∀{gs:List Gl} {i c l r k},.fE l r∈gs->(∃p∈cN l r,Vv (bI O gs0 K) p/\(p.1.has k\/p.2.has k))->bc k (f6 gs i c):=λ{gs}=>by
   induction gs with
   |nil=>show λm=>aW m|cons g gs w=>
    intro i c l r k m y;rw[uy];rcases JJ.mp m with e|m
    .refine dj.mpr<|.inl (nR ?_);rw[<-e];show y.elim λp z=>((tO.has k).mp ⟨p,z.1,z.2.2⟩).elim (λh=>⟨l,.head _,h⟩) λh=>⟨r,.tail _ h_,h⟩
    show dj.mpr<|.inr (w m y)
  have G:∀{k},bc k (fO i c g)->bc k (pre++fO i c g):=λh=>dj.mpr<|.inr h;have I:∀{L:Int},(∀k,(bI O gs0 K).perm k=AB->bc k (fO i c g)->¬((bI O gs0 K).slot k:Int)<=L->(bf O gs0 k).last<=i)->(∀k,(bI O gs0 K).perm k=AB->bc k (fO i c g)->(bf O gs0 k).fc=c->((bI O gs0 K).slot k:Int)<=L)->p5 (bI O gs0 K) N sig hv M dead living i L g:=λa b=>
   YO t pp (λm h=>⟨(Y h).1,rT<|up (Y h).2.1⟩) s (λk d v h=>P4 k d v<|dj.mpr (.inl h)) (λk p h=>P5 k p<|dj.mpr (.inl h)) (λk q=>have z:=P8 k q;⟨z.1,z.2.imp_right λ⟨l,r,m,y⟩=>(JJ.mp m).elim (λe=>.inr ⟨l,r,e▸.head _,y⟩) λm=>.inl<|Z m y⟩) (λk ⟨l,r,m,y⟩=>P9 k ⟨l,r,JK.mp m▸.head _,y⟩) (gp g h_) a b
  refine And.intro (λe=>?_) λne=>?_
  .subst e;have no:∀{k},¬bc k (f6 [] (i+1)<|ix g c):=λX=>X.elim λo Q=>Q.elim λa o=>aW a;show⟨I (λk o h o=>(J (G h) no).1) λk p h e=>absurd (b6 (pm p) (J (G h) no).2)<|e▸eU c,P7⟩
  have u:∀{k},(bI O gs0 K).perm k=AB->bc k (f6 gs (i+1)<|ix g c)->(bI O gs0 K).slot k<=iW O gs0 K i:=λp h=>Po p<|up (T h).1;have P:=I (L:=(iW O gs0 K i)) (λk p h n=>Int.not_lt.mp λq=>n<|Int.ofNat_le.mpr (Po p q)) λk p h e=>by
   refine Int.ofNat_le.mpr<|u p (ij λn=>?_);show eU c<|b6 (e▸pm p) (J (G h) n).2
  have S:U.isCall g=AB->dk (g::gs)=AB:=λh=>by
   change((U.isCall g&&!gs.isEmpty)||dk gs)=AB;rw[h,List.isEmpty_eq_false_iff.mpr ne];rfl
  have f:dk gs=AB->dk (g::gs)=AB:=λh=>by
   change((U.isCall g&&!gs.isEmpty)||dk gs)=AB;rw[h,IX]
  refine⟨P,λh=>(P6<|S h).2 i<|aV _,w B (λm h=>have z:=D m h;⟨z.1,rU z.2.1<|Int.ofNat_lt.mpr (c5 i),aA z.2.2 Kx⟩) (λk=>(or_congr (s k) V7.symm).trans dj.symm) (λk d v h=>?_) (λk p h=>?_) (λh=>?_) (λh=>?_) (λk q=>have z:=P8 k q;⟨z.1,z.2.elim (λa=>.inl<|dj.mpr (.inl a)) λ⟨l,r,m,y⟩=>(JJ.mp m).elim (λe=>.inl<|dj.mpr (.inr<|nR (e▸y.elim λp z=>((tO.has k).mp ⟨p,z.1,z.2.2⟩).elim (λh=>⟨l,.head _,h⟩) λh=>⟨r,.tail _ h_,h⟩))) λm=>.inr ⟨l,r,m,y⟩⟩) (λk ⟨l,r,m,y⟩=>P9 k ⟨l,r,.tail _ m,y⟩) λg m=>gp g<|.tail _ m⟩
  .have old:dead k->False:=λd=>P4 k d v<|dj.mpr (.inr h);rcases hc:U.isCall g with _|_
   .rw[hc] at d;show old d
   rw[hc] at d;refine d.elim old λX=>X.elim λm n=>?_;have C:bc k<|pre++fO i c g:=dj.mpr<|m.imp (s k).mp nR;have l:=T h;have fc:=aFa (B_:=f6 gs (i+1)<|ix g c) R C λm h=>(D m h).2.2
   rw[<-B] at fc;have lc:c+1<=(bf O gs0 k).lc:=by
    have z:=l.2;unfold ix at z;rw[hc] at z;show z
   have nv:(bf O gs0 k).cnt≠1:=λe=>aI<|v.symm.trans (vi.mpr e);have n0:(bf O gs0 k).cnt≠0:=by
    rw[show(bf O gs0 k).cnt=_ from tQ (E:=kB O gs0) (k:=k),B,om]
    show iC<|b6 (xN R C) (aY _ _)
   have p:(bI O gs0 K).perm k=AB:=a6<|tI.mpr ⟨(hK k).mpr n0,nv,b6 (ip fc) lc⟩;show n ⟨p,u p h⟩
  .rcases hc:U.isCall g with _|_;show P5 k p<|dj.mpr (.inr h);show Int.ofNat_le.mpr<|u p h
  .have z:=P6<|f h;refine⟨z.1,λj hj=>?_⟩;rcases hc:U.isCall g with _|_;show z.2 j<|eT hj;show Int.ofNat_le.mpr<|aBe (eT hj)
  rcases hc:U.isCall g with _|_;show P7 h;show absurd (P6<|S hc).1<|h▸aI
def aEP(L:∀t∈O,aR t=AD)(T:∀t∈O,∀k,t.has k->k<N)(E:∀g∈gs0,wY sig N g)(ne:gs0≠[])(M:∀k,k∈K↔(bf O gs0 k).cnt≠0):U.Plan (bI O gs0 K) N sig (iW O gs0 K) (dk gs0) (oO O gs0 K).length O gs0:=by
 have hd:∀{k},(∃t∈O,t.has k)->bc k (eD [104,101,97,100] (-1) 0 O):=λD=>D.elim λt J=>J.elim λa b=>ou a b;have B:dk gs0=AD->∀k,¬(bI O gs0 K).perm k=AB:=λe k p=>by
  have z:=(tI.mp<|vh p).2.2;have l:(bf O gs0 k).lc<=0:=E8 (P:=λx=>x.lc<=0) (λx m a y=>by
   have q:=(nA.mp a).elim (λa=>bJ (qX a).2.2.1)<|aDo e;unfold gB;split
   show q;show q)<|.inl (aV 0)
  show absurd (b6 z l)<|uS _
 have C:∀k,(bI O gs0 K).perm k=AB->((bI O gs0 K).slot k:Int)<=if dk gs0=AB then((oO O gs0 K).length:Int) else -1:=λk p=>by
  rcases e:dk gs0 with _|_;show absurd p<|B e k;show Int.ofNat_le.mpr<|aEE p
 refine⟨Yx,L,T,λk v=>?_,λt m k h y p=>C k p,YR M (c:=0) rfl (λm h=>have z:=qX h;⟨z.1,z.2.1▸by decide,bJ z.2.2.1⟩) (λk=>⟨hd,λ⟨m,a,e⟩=>e▸(qX a).2.2.2⟩) (λk d=>d.elim) (λk p y=>C k p) (λh=>⟨h,λj y=>?_⟩) (λh=>?_) (λk h=>⟨h.1,h.2.imp_left hd⟩) (λk h=>⟨h.elim λl z=>z.elim λr z=>z.2.elim λp z=>z.2.2.elim (λh=>(C9 z.2.1.1 h).2) λh=>(C9 z.2.1.2 h).2,.inr h⟩) E,ne⟩
 .have z:(bf O gs0 k).cnt=_:=tQ;rw[vi.mp v] at z;unfold kB at z;rw[om] at z;show aA (Ec)<|aA (aY _ _) (bJ z.symm)
 .rw[aC h];show Int.ofNat_le.mpr aCX
 rw[aB<|h▸aI]
end
def mQ{k:Nat}(h:k<c):a+c≠k:=iC<|b6 h (bU c a)
def dy{x y:Nat}(h:x≠y)(n:x∉l):x∉y::l:=λm=>(JJ.mp m).elim h n
def nd6(h:∀x∈l,5<=x/\x<a+5)(n:l.Nodup):((a+7)::4::(a+6)::0::1::2::l).Nodup:=by
 have J:∀{k},k<5->k∉l:=λq m=>eU _<|b6 q (h _ m).1;have C:∀{k},a+5<=k->k∉l:=λq m=>eU _<|b6 (h _ m).2 q;have B:a+7≠a+6:=iC<|c5 _;show List.nodup_cons.mpr ⟨dy (mQ ⋯)<|dy B (dy (mQ ⋯)<|dy (mQ ⋯) (dy (mQ ⋯)<|C (aY (a+5) 2))),List.nodup_cons.mpr ⟨dy (ku<|mQ ⋯)<|dy ⋯ (dy ⋯<|dy ⋯ (J ⋯)),List.nodup_cons.mpr ⟨dy (mQ ⋯)<|dy (mQ ⋯) (dy (mQ ⋯)<|C (b8<|a+5)),List.nodup_cons.mpr ⟨dy ⋯<|dy ⋯ (J ⋯),List.nodup_cons.mpr ⟨dy ⋯<|J ⋯,List.nodup_cons.mpr ⟨J ⋯,n⟩⟩⟩⟩⟩⟩
def PG{f:Nat->Nat}(n:l.Nodup)(h:∀a b,a∈l->b∈l->f a=f b->a=b):(l.map f).Nodup:=by
 induction l with
 |nil=>show d7|cons x l T=>
  have n:=List.nodup_cons.mp n;show List.nodup_cons.mpr ⟨λm=>(List.mem_map.mp m).elim λy J=>J.elim λB e=>n.1<|h y x (.tail _ B) h_ e▸B,T n.2 λa b D C=>h a b (.tail _ D)<|.tail _ C⟩
variable{gl m:Nat}
section
variable{z:Nat}
def aFP(B:∀i∈σ,i<m)(J:σ.Nodup)(e:rn σ m i=rn σ m j):i=j:=(G9 B J).1.symm.trans<|(aF (nr σ m) e).trans (G9 B J).1
variable{od dU:List Nat}{A:Nat->Nat}
def aD3(b:Bg [z,gl] H (hD (si (.int fn) (.int (N:Nat)) O) (.lst<|goals.map a8) (.lst<|ah dU) (bR A K) st<|app r [.lst<|ah od,.lst<|ah lives,.inst 8<|zr ne es (aK r+6)]) H')(s:Sv K I A r)(B:∀i∈[z,gl],i<H.length)(nd:[z,gl].Nodup):
  Pc H' z gl (rn [z,gl] H.length<|aK r+7) (rn [z,gl] H.length 4) (rn [z,gl] H.length<|aK r+6) (rn [z,gl] H.length 2) st N es fn ne O goals lives dU K I (λk=>rn [z,gl] H.length<|A k+5) where
 yX:=(a9▸b.gI (j:=0) rfl).trans<|aF (λl=>AA<|Cell.inst 6 [('a',.int fn),('w',.tup l),('m',.obj gl),('f',.int N)]) (eY λy=>kQ)
 FZ:=(a9▸b.gI (j:=1) rfl).trans<|aF (λl=>AA<|Cell.lst l) (eY λy=>s8)
 q7:=a9▸b.gI (c:=.inst 8<|zr ne es (aK r+6)) (a9▸(eN))
 Et:=(a9▸b.gI (j:=4) rfl).trans<|aF (λl=>AA<|Cell.dict l st) (by unfold bR gw jF;rw[gm];rfl)
 Ge:=(a9▸b.gI (a9▸(show aD (hD _ _ _ _ _<|app r _) (aK r+6)=_ from eN))).trans<|aF (λl=>AA<|Cell.lst l) zA
 um:=(a9▸b.gI (j:=2) rfl).trans<|aF (λl=>AA<|Cell.lst l) zA
 inf:=λk hk=>a9▸b.gI (c:=.inst 7<|f9 k (I k)) (a9▸(dh<|s.at_ hk))
 nd:=by
  have J:=nd6 (λx m=>by
   obtain⟨k,hk,rfl⟩:=List.mem_map.mp m;show⟨bU _ _,Dz (dJ▸gC (s.at_ hk)) 5⟩)<|PG s.nd λa b ha hb e=>s.inj ha hb (JX e)
  have z:=PG J λy y y y e=>aFP B nd e;rw[da,da,da,da,da,da,gm] at z;show z
end
@[reducible] def kK(fn:Int)(N gl:Nat)(O:List U.Tm):Cell:=.inst 6 [('a',.int fn),('w',.tup<|O.map aE),('m',.obj gl),('f',.int N)]
inductive Ib(H H1:AH)(z gl p N:Nat)(fn:Int)(O:List U.Tm)(goals:List Gl):Prop
 |mk {d lv ch st:Nat} {K:List Nat} {A:Nat->Nat} (pc:Pc H1 z gl p d lv ch st N (oO O goals K).length fn (dk goals) O goals (fR O goals K) (dU goals 0) K (iw O goals K) A) (pk:Pk (bI O goals K) K (iw O goals K)) (hK:∀k,k∈K↔(bf O goals k).cnt≠0) (keep:∀{i x},aD H i=AA x->aD H1 i=AA x/\∀k,A k≠i)
variable{r:Nat->Nat}
section
variable{z:Nat}
def Oo:mc r (si (.int fn) (.int (N:Nat)) O)=kK fn N (r 1) O:=aF (λl=>Cell.inst 6 [('a',.int fn),('w',.tup l),('m',.obj<|r 1),('f',.int N)])<|eY λy=>kQ
def Om:mc r (.lst<|goals.map a8)=.lst (goals.map a8):=aF Cell.lst<|eY λy=>s8
def aAz(J:aD H z=AA (kK fn N gl O))(B:aD H gl=AA (.lst<|goals.map a8))(b:Bg [z,gl] H H1' H')(D:H1'[0]?=AA (si (.int fn) (.int (N:Nat)) O))(C:H1'[1]?=AA (.lst<|goals.map a8)){x:Cell}(h:aD H i=AA x):aD H' i=AA x/\∀j,rn [z,gl] H.length (j+5)≠i:=by
 refine⟨?_,λj e=>?_⟩
 .by_cases m:i∈[z,gl]
  .rcases JJ.mp m with rfl|m
   .show((a9▸b.gI D).trans<|aF AA Oo).trans<|J.symm.trans h
   obtain rfl:=JK.mp m;show((a9▸b.gI C).trans<|aF AA Om).trans<|B.symm.trans h
  rw[a9];show b.out m<|a9▸h
 have l:=gC h;show Nat.not_le.mpr l<|e▸(aY H.length<|j+5-2)
end
section
variable{z:Nat}
variable(J:bG W)(hz:aD H z=AA (kK fn N gl O))(hg:aD H gl=AA (.lst (goals.map a8)))
include hz hg
omit J in
theorem aIQ:(∀i∈[z,gl],i<H.length)/\[z,gl].Nodup:=⟨λi m=>(JJ.mp m).elim (λe=>e▸gC hz) λm=>JK.mp m▸gC hg,List.nodup_cons.mpr ⟨λm=>kR hz hg Cell.noConfusion<|JK.mp m,List.nodup_cons.mpr ⟨eL,d7⟩⟩⟩
include J
def Kz(D:∀t∈O,(∀k,t.has k->k<60)/\t.aX<aM)(B:∀g∈goals,wX g)(C:goals.length<=100)(q:∀{H1 p},Ib H H1 z gl p N fn O goals->Q (.obj p) H1):Fi W (n+6) 63 [.obj z] H Q:=by
 obtain⟨hs,nd⟩:=aIQ hz hg;have all:iN (λi c=>aD H i=AA (mc (rn [z,gl] H.length) c)) [z,gl] [si (.int fn) (.int N) O,.lst<|goals.map a8]:=⟨hz.trans<|aF AA (Oo (r:=rn [z,gl] H.length)).symm,hg.trans<|aF AA Om.symm,trivial⟩;show u4 nd all<|VI J D B C λ{K A r st} s L T {H'} b=>q ⟨aD3 b s hs nd,aED s<|bZ s.len (lz rfl),T,λh=>have z:=aAz hz hg b rfl rfl h;⟨z.1,λk=>z.2<|A k⟩⟩
end
def t4{s:List Nat}:Vd n<|.str s:=by rcases n with _|_<;>show trivial
def tx{i:Int}:Vd n<|.int i:=by rcases n with _|_<;>show trivial
def aH7:∀{d m:Nat},t.dep<=d->Vd (m+(2*d+2)) (aE t):=by
 induction t with
 |v=>show λz=>⟨t4,tx,trivial⟩|c=>show λz=>⟨t4,tx,trivial⟩|s1 f x J=>
  intro d m h;rcases d with _|d;show absurd h<|jy _;show⟨t4,tx,⟨J<|gN h,trivial⟩,trivial⟩
 |s2 f x y C B=>
  intro d m h;rcases d with _|d;show absurd h<|jy _;have h:=Nat.max_le.mp<|gN h;show⟨t4,tx,⟨C h.1,B h.2,trivial⟩,trivial⟩
def IF{f:α->V}{l:List α}(h:∀x∈l,Vd n<|f x):oa n<|l.map f:=by
 induction l with
 |nil=>show trivial|cons x l J=>show⟨h x h_,J λy m=>h y<|.tail _ m⟩
def aB0:∀{tb:List Nat},(cD tb t).1.dep=t.dep:=by
 induction t with
 |v n=>
  intro tb;rw[lH];by_cases m:n∈tb
  .rw[aC m];rfl
  rw[aB m];rfl
 |c=>show rfl|s1 f x J=>show aF BB J|s2 f x y C B=>show aF BB<|congr (aF max C) B
def aBx:∀{tb:List Nat},(∀t∈D,t.dep<=d)->∀t∈(eX tb D).1,t.dep<=d:=by
 induction D with
 |nil=>show λy y m=>aW m|cons t D J=>show λh u m=>(JJ.mp m).elim (λe=>e▸aB0.symm▸h t h_) λm=>J (λu m=>h u<|.tail _ m) u m
def ID(h:∀t∈D,t.dep<=150):oa (m+302)<|(kJ D).map aE:=IF λt J=>aH7<|aBx h t J
def Ci(h:fD S D):∀t∈D.map (U.Tm.app S),t.dep<=150:=λt m=>let ⟨u,J,e⟩:=List.mem_map.mp m;e▸h u J
variable{w:Bool}
def MW:∀{p q:PS},jN picks gs p q w->(∀e∈p.evs,Vd 1200<|fM e)->∀e∈q.evs,Vd 1200<|fM e:=by
 induction gs with
 |nil=>show λC_ h=>(C_.1)▸h|cons g gs B=>
  intro p q C_ h;rcases g with ⟨f,as⟩|⟨f,as⟩|⟨l,r⟩;show C_.elim λJ ⟨S2,_,C_⟩=>B C_ λe m=>(nA.mp m).elim (h e) λm=>JK.mp m▸⟨t4,tx,ID<|Ci J,trivial⟩;show C_.elim λJ ⟨S2,_,C_⟩=>B C_ λe m=>(nA.mp m).elim (h e) λm=>JK.mp m▸⟨t4,tx,ID<|Ci J,trivial⟩;show C_.elim (λz=>(z.2.1)▸h) λ⟨b',S2,_,C_⟩=>B C_ h
def YJ{P:U.Tm->Prop}:∀{p q:PS},jN picks gs p q w->(∀t∈p.ks,P t)->(∀g∈gs,(∀t∈gy g,P t)/\(gy g).length<=100)->(∀t∈q.ks,P t)/\q.ks.length<=p.ks.length+100*gs.length:=by
 induction gs with
 |nil=>show λC_ h y=>(C_.1).symm▸⟨h,aV _⟩|cons g gs T=>
  intro p q C_ h hg;have C:=λg m=>hg g<|.tail _ m;have L:∀{S2},jN picks gs (p.to g picks S2) q w->(∀t∈q.ks,P t)/\q.ks.length<=p.ks.length+100*(g::gs).length:=λC_=>by
   have z:=T C_ (λt m=>(nA.mp m).elim (h t)<|(hg g h_).1 t) C;refine⟨z.1,aA z.2 ?_⟩;rw[show(p.to g picks _).ks=p.ks++gy g from rfl,a5,fK,uR,bH,bQ<|100*_]
   show b7 (bX (hg g h_).2 _) _
  have B:100*gs.length<=100*(g::gs).length:=dY 100<|b8 _;rcases g with ⟨f,as⟩|⟨f,as⟩|⟨l,r⟩;show C_.elim λy D=>D.elim λS2 J=>J.elim λy C_=>L C_;show C_.elim λy D=>D.elim λS2 J=>J.elim λy C_=>L C_;show C_.elim (λz=>(z.2.1).symm▸⟨h,aY _ _⟩) λ⟨b',S2,_,C_⟩=>have z:=T C_ h C;⟨z.1,aA z.2<|b7 B _⟩
def dg(D:List U.Tm):Nat:=(D.map U.Tm.aX).sum
variable{c:Cs}{ps:List U.Pc}{r:U.Place}
section
variable{Z:Pl}{la:Nat->Nat}{e:Bool}
def Lv:(kD n).length<=1:=by
 unfold kD;split
 show bK _;show aV _
def aFV{p:U.Pc}:(iY Z p c).1.length<=1:=by
 rcases p with t|r
 .rcases t with k|_
  .change(mY Z k c).1.length<=1;unfold mY vw;split
   .split<;>show aV _
   show aV _
  show aV _;show bK _;show bK _
 show aV _
def aFX:∀{n:Nat} {c:Cs},(fC Z ps n c).1.length<=2*ps.length+1:=by
 induction ps with
 |nil=>show Lv|cons p ps J=>
  intro n c;change(if qb Z p=AB then fC Z ps (n+1) c else(kD n++((iY Z p c).1++(fC Z ps 0 (iY Z p c).2).1),(fC Z ps 0 (iY Z p c).2).2):Wr).1.length<=_
  split
  show aA J<|bX (dY 2<|b8 _) 1;rw[a5,a5,fK,uR,dX,bQ _ 2];show aA (bW Lv<|bW aFV J)<|bJ (bH 1 1 _).symm
def FC(h:ps.length<=2):(U.fin Z t r ps c).1.length<=6:=bj<|aA aFX (bX (dY 2 h) 1)
def QB:∀{c:Cs},(bS Z t c).1.length+6<=6*t.aX/\(bS Z t c).2.1.length<=2:=by
 have B:∀{x:U.Tm} {c:Cs},(∀{c:Cs},(bS Z x c).1.length+6<=6*x.aX/\(bS Z x c).2.1.length<=2)->(dW Z (bS Z x) x c).1.length<=6*x.aX:=λJ=>by
  unfold dW;split
  .rw[a5];show aA (b7 (FC (J).2) _) (J).1
  show bK _
 have C:∀{x:U.Tm} {c:Cs},(∀{c:Cs},(bS Z x c).1.length+6<=6*x.aX/\(bS Z x c).2.1.length<=2)->(e8 Z (bS Z x) x c).1.length<=6*x.aX:=λ{x c} J=>by
  unfold e8;split
  .rw[a5];show aA (b7 (FC (J).2) _) (J).1
  show bK _
 induction t with
 |v=>show⟨aV _,bK _⟩|c=>show⟨aV _,bK _⟩|s1 f x J=>show⟨aA (bX (B J) 6)<|bJ (jP 6 x.aX).symm,b8 1⟩|s2 f x y T D=>
  intro c;refine⟨?_,aV 2⟩;change((dW Z (bS Z y) y c).1++(e8 Z (bS Z x) x (dW Z (bS Z y) y c).2.2).1).length+6<=6*(x.aX+y.aX+1);rw[a5,jP,w0,bQ<|6*x.aX];show bX (bW (B D)<|C T) 6
def xK{q:U.Place}:(dw Z t q c).1.length<=6*t.aX:=by
 unfold dw;rw[a5];show aA (b7 (FC QB.2) _) QB.1
def US{q:U.Place}:(pD Z t q lg c).1.length<=6*t.aX:=by
 rcases t with k|_
 .change(pE Z k q lg c).1.length<=6;unfold pE;split
  .show(by decide:1<=6)
  split<;>show(by decide:1<=6)
 .show(by decide:1<=6)
 show xK;show xK
def OU:∀{n:Nat} {c:Cs},(jC Z lg as n c).1.length<=6*dg as:=by
 induction as with
 |nil=>show aV _|cons t as J=>
  intro n c;change((pD Z t (aP n) lg c).1++_).length<=6*dg (t::as);rw[a5,show dg (t::as)=t.aX+dg as from qC,w0]
  show bW US J
def FE:(jc n).length<=1:=by
 unfold jc;split
 show bK _;show aV _
def Ui:(kN Z t c).1.length<=1:=by
 rcases t with k|_
 .change(pG Z k c).1.length<=1;unfold pG;split
  .split<;>show aV _
  show aV _
 show aV _;show bK _;show bK _
def aCg:∀{n:Nat} {c:Cs},(b5 Z as n c).1.length<=2*as.length+1:=by
 induction as with
 |nil=>show FE|cons t as J=>
  intro n c;rw[fK,uR,dX,bQ _ 2];rcases hs:aR t with _|_
  .rcases hv:cU Z t with _|_
   .rw[yu hs hv,a5,a5,<-bH];show bW (bW FE Ui) J
   rw[yv hs hv];show aA J<|bU _ _
  rw[yw hs,a5,fK,bQ _ 1,<-bH];show bW (bX FE 1) J
def aCi:∀{q:List<|U.Tm×U.Place} {c:Cs},(∀p∈q,aR p.1=AB)->(jE Z n q c).1.length<=6*gb q:=by
 induction n with
 |zero=>show λy=>bK _|succ n C=>
  intro q c h;rcases q with _|⟨p,q⟩;show bK _;obtain⟨t,r⟩:=p;have J:=DE (Z:=Z) (D:=af t) (n:=0) (c:=c);have z:=C (c:=(b5 Z (af t) 0 c).2.1) λp m=>(nA.mp m).elim (λm=>h p<|.tail _ m)<|J.s p;have B:=Cy<|h _ h_;change(_::(b5 Z (af t) 0 c).1++(jE Z n (q++(b5 Z (af t) 0 c).2.2) (b5 Z (af t) 0 c).2.1).1).length<=6*(t.aX+gb q);rw[uK,fK,a5,<-B];rw[Cw] at z;have a:(b5 Z (af t) 0 c).1.length<=5:=aA aCg<|bX (dY 2 KO) 1;refine aA (bj<|bW a (aA z<|dY 6 (b7 J.sz _)))<|bJ ?_;rw[show((af t).map U.Tm.aX).sum+1+gb q=(gb q+((af t).map U.Tm.aX).sum)+1 by rw[dX,bQ<|List.sum _],jP,bQ 5]
def Cf{k:Nat}:(U.settle Z k r c).1.length<=1:=by
 unfold U.settle;split
 show aV _;show bK _
def Hb{k:Nat}:(cV Z k c).1.length<=1:=by
 unfold cV;split
 show aV _;show bK _
def yI{k:Nat}:(c9 Z k c).1.length<=2:=by
 unfold c9;split
 show bK _;show bj Cf
def EJ{k:Nat}:(jS Z k o c).1.length<=2:=by
 unfold jS;split
 show bK _;split
 show bj Cf;show b8 1
def aH4{k:Nat}:(jo Z j k c).1.length<=4:=by
 unfold jo;have J:∀{l:List bN},l.length<=2->l.length<=4:=λh=>aA h ⋯
 split
 .split
  .split
   show bK _;split
   .rw[a5];show aA (bX Hb 1) ⋯
   show(by decide:1<=4)
  show J EJ
 split
 show J EJ;split
 show J yI;rw[a5];have z:(if k∈(c9 Z k c).2.seen then jS Z j k (c9 Z k c).2 else c9 Z j (c9 Z k c).2).1.length<=2:=by
  split
  show EJ;show yI
 show bW yI z
def Ro{k:Nat}(B:t.bO=AD):(oK Z k t c).1.length<=6*t.aX+1:=by
 have D:aR t=AB->(kO Z t (cV Z k c).2.1 (cV Z k c).2.2).1.length<=6*t.aX:=λhs=>aCi λp m=>JK.mp m▸hs;have J:aR t=AB->((cV Z k c).1++(kO Z t (cV Z k c).2.1 (cV Z k c).2.2).1).length<=6*t.aX+1:=λhs=>by
  rw[a5,bQ];show bW (D hs) Hb
 have C:(if Z.void k=AB then dw Z t (tP c.nt) c.bh else((dw Z t (bD Z k c).1 (bD Z k c).2).1++(U.settle Z k (bD Z k c).1 (dw Z t (bD Z k c).1 (bD Z k c).2).2).1,(U.settle Z k (bD Z k c).1 (dw Z t (bD Z k c).1 (bD Z k c).2).2).2):Wr).1.length<=6*t.aX+1:=by
  split
  show eM xK;rw[a5];show bW xK Cf
 unfold oK;split
 .rcases t with _|⟨b,z⟩;show nomatch B
  .change((cV Z k c).1++[_]).length<=7;rw[a5];show aA (bX Hb 1) ⋯
  show J rfl;show J rfl
 rcases t with _|⟨b,z⟩;show nomatch B
 .change(if Z.void k=AB then([],c) else(_::(U.settle Z k (bD Z k c).1 (bD Z k c).2).1,_):Wr).1.length<=7
  split
  show bK _;show aA (bj Cf) ⋯
 show C;show C
def Rq{k:Nat}:(C7 Z k t c).1.length<=6+6*t.aX:=by
 have J:t.bO=AD->(mw Z k t c).1.length<=6+6*t.aX:=λnv=>by
  unfold mw;rw[bQ];split
  .rw[a5,bQ];show aA (bW (Ro nv) yI)<|b7 (by decide:3<=6) (6*t.aX)
  show aA (Ro nv)<|b7 ⋯ (6*t.aX)
 rcases t with j|_;show aA (aH4) (by decide:4<=12)
 show J rfl;show J rfl;show J rfl
def aHr{p:U.Tm×U.Tm}:(jK Z p c).1.length<=6*p.1.aX+6*p.2.aX:=by
 have a:=dY 6 p.1.kZ;have b:=dY 6 p.2.kZ;unfold jK;split
 show aA Rq<|bX a _;split
 show aA Rq<|aA (bJ<|bQ _ _) (b7 b _);split
 show bK _;show aA (by decide:1<=6+6)<|bW a b
def aHn{ps:List<|U.Tm×U.Tm}:∀{c:Cs},(fH Z ps c).1.length<=6*dg (gH ps):=by
 induction ps with
 |nil=>show bK _|cons p ps J=>
  intro c;change((jK Z p c).1++(fH Z ps _).1).length<=6*dg (p.1::p.2::gH ps);rw[a5,show dg (p.1::p.2::gH ps)=p.1.aX+(p.2.aX+dg (gH ps)) from(qC).trans<|aF _ qC,<-bH,w0,w0]
  show bW aHr J
def aEh{l:U.Tm}:∀{r:U.Tm},dg (gH<|cN l r)<=l.aX+r.aX:=by
 have J:∀{l r:U.Tm},dg (gH [(l,r)])<=l.aX+r.aX:=aV _;have B:∀{a b:List<|U.Tm×U.Tm},dg (gH<|a++b)=dg (gH a)+dg (gH b):=λ{a b}=>by
  unfold dg;rw[Lr,bw,JO]
 induction l with
 |v=>intro r;show J|c=>intro r;rcases r with _|_<;>show J
 |s1 f x C=>
  intro r;rcases r with _|_|⟨g,y⟩;show J;show J
  .change dg (gH<|if f=g then cN x y else _)<=x.aX+1+(y.aX+1)
   split
   show aA C<|bW (b8 _) (b8 _);show J
  show J
 |s2 f x x' T D=>
  intro r;rcases r with _|_|_|⟨g,y,y'⟩;show J;show J;show J;change dg (gH<|if f=g then cN x y++cN x' y' else _)<=x.aX+x'.aX+1+(y.aX+y'.aX+1)
  split
  .rw[B];show aA (bW T D)<|aA (bJ<|Dx _ _ _ _) (bW (b8 _)<|b8 _)
  show J
def YL:(hG Z g i c).1.length<=6*dg (cY g)+1:=by
 rcases g with ⟨f,as⟩|⟨f,as⟩|⟨l,r⟩;show eM OU
 .change((jC Z (-1) as 1 c).1++[bN.mC f]).length<=_;rw[a5];show bj OU
 show eM<|aA aHn (dY 6<|aA aEh (aV _))
def YQ(h:∀g∈gs,dg (cY g)<=21):∀{i:Nat} {c:Cs},(iy Z la e gs i c).length<=129*gs.length:=by
 induction gs with
 |nil=>show aV _|cons g gs B=>
  intro i c;change((hG Z g i c).1++if gs.isEmpty=AB then(if e=AB then[.jW] else[])++[qW g] else uj (la i) g++iy Z la e gs (i+1) _).length<=129*(gs.length+1)
  have J:(hG Z g i c).1.length<=127:=aA YL<|bj (dY 6<|h g h_);rw[a5,uR,bQ];have l2:(if gs.isEmpty=AB then(if e=AB then[bN.jW] else[])++[qW g] else uj (la i) g++iy Z la e gs (i+1) (hG Z g i c).2).length<=129*gs.length+2:=by
   split
   .rcases e with _|_;show aA (b8 1)<|bU 2 _;show bU 2 _
   rw[a5,bQ];refine bW (B λg m=>h g<|.tail _ m)<|aA ?_ (b8 1);rcases g with _|_;show aV _;show bK _;show bK _
  show aA (bW l2 J)<|bJ (bH _ 2 127)
def Yh:∀{n:Nat} {c:Cs},(hH Z O n c).1.length<=O.length:=by
 induction O with
 |nil=>show aV _|cons t O J=>
  intro n c;change((nU Z t (aP n) c).1++(hH Z O (n+1) _).1).length<=O.length+1;have l:(nU Z t (aP n) c).1.length<=1:=by
   rcases t with k|_
   .change(if Z.void k=AB then _ else _:Wr).1.length<=1
    split
    show bK _;split<;>show aV _
   show aV _;show bK _;show bK _
  rw[a5,bQ];show bW J l
def En(h:∀g∈gs,dg (cY g)<=21)(B:O.length<=100)(C:gs.length<=5):(jV Z N la e es O gs).length<=746:=by
 unfold jV;rw[a5,a5];have J:(if e=AB then[bN.alloc es] else[]).length<=1:=by rcases e with _|_;show bK _;show aV _
 show bW J<|bW (aA Yh B) (aA (YQ h)<|dY 129 C)
end
def Mb(J:∀k,k∈K↔(bf O goals k).cnt≠0){k:Nat}(h:bc k<|kB O goals)(p:jR<|kB O goals):k∈K:=(J k).mpr (by
 rw[show(bf O goals k).cnt=_ from tQ]
 show iC<|xN p h)
def Pw:jR<|kB O goals:=λm h=>(nA.mp h).elim (λh=>(qX h).1) λh=>(Lg h).1
def V8{k:Nat}(h:e6 k g):∀{i c:Nat},g∈gs->bc k (f6 gs i c):=by
 induction gs with
 |nil=>show λm=>aW m|cons a gs J=>
  intro i c m;rw[uy];show(JJ.mp m).elim (λe=>dj.mpr<|.inl (nR<|e▸h)) λm=>dj.mpr<|.inr (J m)
def K7{z p:Nat}(J:bG W){s:V}(c:Ib H H1 z gl p N fn O goals)(I:goals≠[])(P:goals.length<=5)(S:O.length<=100)(A:∀t∈O,aR t=AD)(G:∀g∈goals,dg (cY g)<=21/\∀t∈cY g,(aR t=AB->T2 t)/\t.WT)(q:∀{M cd K},(∀k,k∈K↔(bf O goals k).cnt≠0)->H.length<=cd->aD M cd=AA (.lst<|(jV (bI O goals K) N (iW O goals K) (dk goals) (oO O goals K).length O goals).map jY)->(∀{i x},aD H i=AA x->aD M i=AA x)->Q (.obj cd) M):Fi W (n+13) 46 [s,.obj z,.obj p] H1 Q:=by
 obtain⟨Z,Y,L,B⟩:=c;have T:∀{g k},g∈goals->e6 k g->k∈_:=λm h=>Mb L (dj.mpr<|.inr (V8 h m)) Pw;refine VO J Z Y (λj hj=>sN<|aCU (D2 hj)) I (aA (En (λg m=>(G g m).1) S P)<|lz rfl) (λt m=>⟨A t m,λx h=>Mb L (dj.mpr<|.inl (ou m h)) Pw⟩) (λg m=>?_) λhc hk=>q L (eM<|dJ (l:=H1)▸qF λR=>eU _ (gC (B<|a9▸cK R).1)) hc λh=>hk (B h).1 λm=>(List.mem_map.mp m).elim λk C=>C.elim λo e=>(B h).2 k e;have z:∀{X:Cx},X.ks=_->∀t∈cY g,fZ X t:=λe t E=>have y:=(G g m).2 t E;⟨λx h=>e▸T m ⟨t,E,h⟩,λu D=>y.1 (by
  rcases t with _|_;show aW D;show aW D;rfl;rfl) u D,y.2⟩
 rcases g with ⟨f,as⟩|⟨f,as⟩|⟨l,r⟩;show z rfl;show z rfl;show⟨z rfl l h_,z rfl r<|.tail _ h_⟩
variable{r:Nat->Nat}
def aC4{e:U.Ev}:mv r (fM e)=fM e:=by
 obtain⟨a,f,D⟩:=e;have z:e9 r (D.map aE)=D.map aE:=eY λy=>kQ;rcases a with _|_|_|a;show aF (λl=>V.tup [.str Aaa,.int f,.lst l]) z;show aF (λl=>V.tup [.str Aad,.int f,.lst l]) z;show aF (λl=>V.tup [.str [99,117,116,116,111],.lst l]) z;rfl
def aCy:jF r (d9 b)=d9 b:=by
 unfold jF d9;rw[gm];show jO λp y=>aF (Prod.mk _) kQ
def iM(c:Cell):Prop:=∀r:Nat->Nat,mc r c=c
def J2:iM<|.lst (D.map aE):=λy=>aF Cell.lst<|eY λy=>kQ
def UH{es:List U.Ev}:iM<|.lst (es.map fM):=λy=>aF Cell.lst<|eY λy=>aC4
def UI:iM<|.lst (is.map jY):=λy=>aF Cell.lst<|eY λy=>Oz
def UG:iM<|.dict (d9 b) st:=λy=>aF (Cell.dict · st) aCy
def Jy:iM<|.lst (fs.map oq):=λy=>aF Cell.lst<|eY λy=>rfl
@[reducible] def Qr:Cell:=.inst 0 [('4',.obj 1),('q',.obj 2),('H',.obj 3),('o',.obj 4)]
@[reducible] def fS(B J:Nat):List Nat:=[0,1,2,3,4,B,J,7]
structure Fo(X:Fx)(H:AH)(cd hd:Nat):Prop where
 h0:aD H 0=AA Qr
 h1:aD H 1=AA X.c1
 h2:aD H 2=AA X.c2
 h3:aD H 3=AA (.lst (X.fs.map oq))
 h4:aD H 4=AA X.c4
 hc:aD H cd=AA (.lst (X.code.map jY))
 hh:aD H hd=AA (.dict [] 0)
 h7:aD H 7=AA (.lst (X.call.map aE))
 cd:8<=cd
 hd:8<=hd
 a1:iM X.c1
 a2:iM X.c2
 a4:iM X.c4
section
variable{cd hd:Nat}(f:Fo X H cd hd)
include f
def Fo.nd:(fS cd hd).Nodup:=by
 have J:=kR f.hc f.hh Cell.noConfusion;have c:∀{k},k<8->k≠cd:=λq e=>eU _<|b6 q (e▸f.cd);have d:∀{k},k<8->k≠hd:=λq e=>eU _<|b6 q (e▸f.hd);have z:∀{k} {l:List Nat},k<8->k∉l->k∉cd::hd::l:=λq n=>dy (c q)<|dy (d q) n;have s:∀{k j:Nat},k≠j->k∉[j]:=λh m=>h<|JK.mp m;show List.nodup_cons.mpr ⟨dy (show 0≠1 by decide)<|dy (show 0≠2 by decide) (dy (show 0≠3 by decide)<|dy (show 0≠4 by decide) (z ⋯<|s (show 0≠7 by decide))),List.nodup_cons.mpr ⟨dy (show 1≠2 by decide)<|dy (show 1≠3 by decide) (dy (show 1≠4 by decide)<|z ⋯ (s<|show 1≠7 by decide)),List.nodup_cons.mpr ⟨dy (show 2≠3 by decide)<|dy (show 2≠4 by decide) (z ⋯<|s (show 2≠7 by decide)),List.nodup_cons.mpr ⟨dy (show 3≠4 by decide)<|z ⋯ (s<|show 3≠7 by decide),List.nodup_cons.mpr ⟨z ⋯<|s (show 4≠7 by decide),List.nodup_cons.mpr ⟨dy J<|s (c ⋯).symm,List.nodup_cons.mpr ⟨s (d ⋯).symm,List.nodup_cons.mpr ⟨eL,d7⟩⟩⟩⟩⟩⟩⟩⟩
def Fo.all:iN (λi c=>aD H i=AA (mc (rn (fS cd hd) H.length) c)) (fS cd hd)<|hC X:=⟨f.h0,f.h1.trans<|aF AA (f.a1 _).symm,f.h2.trans<|aF AA (f.a2 _).symm,f.h3.trans<|aF AA (Jy _).symm,f.h4.trans<|aF AA (f.a4 _).symm,f.hc.trans<|aF AA (UI _).symm,f.hh,f.h7.trans<|aF AA (J2 _).symm,trivial⟩
def Fo.bg(g:Bg (fS cd hd) H (hF X b st evs ks G) H'):aD H' (rn (fS cd hd) H.length 8)=AA (.lst<|evs.map fM)/\aD H' (rn (fS cd hd) H.length 9)=AA (.lst<|ks.map aE)/\aD H' hd=AA (.dict (d9 b) st)/\∀{i x},aD H i=AA x->i≠hd->aD H' i=AA x:=by
 have B:∀{j c},(hF X b st evs ks G)[j]?=AA c->iM c->aD H' (rn (fS cd hd) H.length j)=AA c:=λh a=>by rw[a9,g.gI h,a]
 refine⟨B rfl UH,B rfl J2,B (j:=6) rfl UG,λ{i x} h n=>?_⟩;by_cases m:i∈fS cd hd
 .obtain⟨j,hj⟩:=List.mem_iff_getElem?.mp m;have J:∀{c},(hF X b st evs ks G)[j]?=AA c->aD H i=AA (mc (rn (fS cd hd) H.length) c)->aD H' i=AA x:=λa e=>by
   have z:=g.gI a;rw[pS hj] at z;rw[a9,z,<-e,h]
  rcases j with _|_|_|_|_|_|_|_|j;show J rfl<|ai hj▸f.all.1;show J rfl<|ai hj▸f.all.2.1;show J rfl<|ai hj▸f.all.2.2.1;show J rfl<|ai hj▸f.all.2.2.2.1;show J rfl<|ai hj▸f.all.2.2.2.2.1;show J rfl<|ai hj▸f.all.2.2.2.2.2.1;show absurd (ai hj).symm n;show J rfl<|ai hj▸f.all.2.2.2.2.2.2.2.1;show au hj
 rw[a9];show g.out m<|a9▸h
def L8(J:bG W)(C:∀T∈X.call,aZ ':' T/\∀k,T.has k->N<=k)(z:X.call.length<=100)(B:X.code.length<=900)(D:∀F,U.Start N ':' X.call F->F.living=-1->Rd W n X (fQ W n λv H1'=>∀{H'},Bg (fS cd hd) H H1' H'->Q (mv (rn (fS cd hd) H.length) v) H') X.code F):Fi W (n+156) 76 [.obj 0,.obj cd,.obj hd,.obj 7,.lst<|fN X.picks] H Q:=by
 have e:e9 (rn (fS cd hd) H.length) [.obj 0,.obj 5,.obj 6,.obj 7,.lst<|fN X.picks]=[.obj 0,.obj cd,.obj hd,.obj 7,.lst<|fN X.picks]:=aF (λl=>[V.obj 0,.obj cd,.obj hd,.obj 7,.lst l]) (eY λy=>rfl);show e▸u4 f.nd f.all (Wj J C z B D)
end
def Q3{B:Nat}{J:List U.Tm}{m:Int}(I:U.Start N B J F):U.Start N B J {F with living:=m}:=⟨I.b,I.rest,I.kept,I.evs,I.sp,I.args,I.ys,I.bB,I.loose⟩
structure Ag(fs:List (Nat×Nat))(N:Nat)(O:List U.Tm)(goals:List Gl)(call:List U.Tm)(picks:List Nat)(sig:Nat->Nat):Prop where
 ar:∀{f},(f=32\/f=0\/f=33)->∃a,aD fs f=AA (a,U.ar f)
 a:∀t∈O,t.WT/\(∀k,t.has k->k<N)/\t.dep<=3/\aR t=AD
 n8:N<=8
 c:∀t∈call,t.WT/\(∀k,t.has k->500<=k/\k<=501)/\t.dep<=3
 hl:O.length=call.length
 h3:call.length<=3
 g5:goals.length<=5
 ne:goals≠[]
 gp:∀g∈goals,wY sig N g
 gz:∀g∈goals,(∀t∈cY g,t.dep<=3/\(aR t=AB->T2 t))/\dg (cY g)<=21/\(cY g).length<=100
 p:0<picks.length
abbrev jG:List Nat:=[0,1,2,3,4,5,6,7,500,501]
def PD{k:Nat}(h:k<8):k∈jG:=by
 rcases k with _|_|_|_|_|_|_|_|k;show .head _;show .tail _ h_;show .tail _<|.tail _ h_;show .tail _<|.tail _ (.tail _ h_);show .tail _<|.tail _ (.tail _<|.tail _ h_);show .tail _<|.tail _ (.tail _<|.tail _ (.tail _ h_));show .tail _<|.tail _ (.tail _<|.tail _ (.tail _<|.tail _ h_));show .tail _<|.tail _ (.tail _<|.tail _ (.tail _<|.tail _ (.tail _ h_)));show absurd h<|Nat.not_lt.mpr (bU 8 k)
def aDM{k:Nat}(B:500<=k)(J:k<=501):k∈jG:=by
 obtain⟨j,rfl⟩:=D0 B;rcases j with _|_|j;show .tail _<|.tail _ (.tail _<|.tail _ (.tail _<|.tail _ (.tail _<|.tail _ h_)));show .tail _<|.tail _ (.tail _<|.tail _ (.tail _<|.tail _ (.tail _<|.tail _ (.tail _ h_))));show absurd J<|Nat.not_le.mpr (b6 ⋯<|b7 (bU 2 j) 500)
def X8(m:t∈gy g):t∈cY g:=by
 rcases g with _|_;show m;show m;show aW m
def MO(h:(cY g).length<=100):(gy g).length<=100:=by
 rcases g with _|_;show h;show h;show bK _
def aFz(m:t∈D):t.aX<=dg D:=by
 induction D with
 |nil=>show aW m|cons u D J=>
  rw[show dg (u::D)=u.aX+dg D from qC]
  show(JJ.mp m).elim (λe=>e▸aY _ _) λm=>aA (J m)<|bU _ _
def aFy(h:aR t=AD):t.aX=1:=by
 rcases t with _|_;rfl;rfl;show nomatch h;show nomatch h
section
variable{call:List U.Tm}(h:Ag fs N O goals call picks sig)
include h
def Ag.la:∀t∈O,U.Lt jG 3 t:=λt m=>⟨λk q=>PD<|b6 ((h.a t m).2.1 k q) h.n8,(h.a t m).2.2.1⟩
def Ag.lc:∀t∈call,U.Lt jG 3 t:=λt m=>⟨λk q=>have z:=(h.c t m).2.1 k q;aDM z.1 z.2,(h.c t m).2.2⟩
def Ag.g8:∀g∈goals,∀k,e6 k g->k<8:=λg m k q=>b6 ((h.gp g m).lt k q) h.n8
def Ag.OM:∀g∈goals,∀t∈cY g,U.Lt jG 3 t:=λg m t J=>⟨λk q=>PD<|h.g8 g m k ⟨t,J,q⟩,((h.gz g m).1 t J).1⟩
def Ag.qa:∀t∈O,Qz t:=λt m=>⟨λk q=>aA (dc<|(h.a t m).2.1 k q)<|aA h.n8 ⋯,(h.a t m).1,aA (h.a t m).2.2.1 ⋯⟩
def Ag.ic:∀T∈call,aZ ':' T/\∀k,T.has k->N<=k:=λt m=>⟨⟨λk q=>aA ((h.c t m).2.1 k q).2 ⋯,(h.c t m).1,aA (h.c t m).2.2 ⋯⟩,λk q=>aA h.n8<|aA ⋯ ((h.c t m).2.1 k q).1⟩
def Ag.qc:∀t∈call,Qz t:=λt m=>(h.ic t m).1.mono ⋯
def Ag.qg:∀g∈goals,DW jG 3 g:=λg m=>⟨λt J=>⟨⟨λk q=>aA (dc<|h.g8 g m k ⟨t,J,q⟩) ⋯,(h.gp g m).wt t J,aA ((h.gz g m).1 t J).1 ⋯⟩,h.OM g m t J⟩,MO (h.gz g m).2.2⟩
def Ag.gc:∀g∈goals,wX g:=λg m=>⟨λk q=>b6 (h.g8 g m k q) ⋯,λt J=>bZ (aA (aFz J) (h.gz g m).2.1)<|lz rfl⟩
def Ag.ac:∀t∈O,(∀k,t.has k->k<60)/\t.aX<aM:=λt m=>⟨λk q=>b6 ((h.a t m).2.1 k q)<|aA h.n8 ⋯,aFy (h.a t m).2.2.2▸lz rfl⟩
def Ag.q7(J:∀k,k∈K↔(bf O goals k).cnt≠0):U.Plan (bI O goals K) N sig (iW O goals K) (dk goals) (oO O goals K).length O goals:=aEP (λt m=>(h.a t m).2.2.2) (λt m=>(h.a t m).2.1) h.gp h.ne J
end
structure Sc where
 c1:Cell
 c2:Cell
 fs:List (Nat×Nat)
 c4:Cell
 a1:iM c1
 a2:iM c2
 a4:iM c4
@[reducible] def pX(s:Sc)(fn:Int)(N:Nat)(O:List U.Tm)(goals:List Gl)(J:List U.Tm):Px:=⟨Qr,s.c1,s.c2,.lst<|s.fs.map oq,s.c4,.int fn,.int N,O,goals,J⟩
@[reducible] def fX(s:Sc)(code:List bN)(J:List U.Tm)(picks:List Nat):Fx:=⟨s.c1,s.c2,s.fs,s.c4,code,J,picks⟩
def vz(fs:List<|Nat×Nat)(f:Nat):Nat:=((aD fs f).map Prod.snd).getD 2000
def WW(h:∀{b st ks G J},QQ (.ret<|.tup [.obj 8,.obj 9,.str Aac]) J<|hF X b st evs ks G):wV QQ X evs:=@h
def Vl(h:∀{st G J},QQ (.ret<|.tup [.obj 8,.obj 9,.str Aag]) J<|hF X F.b st F.evs F.kept G):DN QQ X F:=@h
def aBM{A B_:List V}(e:A=B_)(J:oa 1200 A)(q:Q (.bool AB) H):Seq (Prim W (.cmp .Eq) [.lst A,.lst B_] H) Q:=e▸n9 (oX.lst .val .val J) q
section
variable{s:Sc}{call:List U.Tm}(h:Ag s.fs N O goals call picks (vz s.fs))
include h
variable(J:bG W)
theorem Qe{code:List bN}(e:code=jV (bI O goals K) N (iW O goals K) (dk goals) (oO O goals K).length O goals)(J:bG W)(st:U.Start N ':' call F)(C:F.living=-1)(B:Rd W n (fX s code call picks) QQ ((hH (bI O goals K) O 1 ⟨[],[],N⟩).1++iy (bI O goals K) (iW O goals K) (dk goals) goals 0 (hH (bI O goals K) O 1 ⟨[],[],N⟩).2) {F with living:=if dk goals=AB then((oO O goals K).length:Int) else -1}):Rd W n (fX s code call picks) QQ code F:=by
 subst e;generalize dk goals=b at B ⊢;rcases b with _|_
 .show(show {F with living:=-1}=F by rw[<-C])▸B
 show aEu J rfl st.rest C B
include J
theorem UM(q:∀{H'},Q (.bool AB) H'):Fi W (n+158) 77 [.obj 0,.obj 5,.obj 7,.lst<|fN picks] (hA (pX s fn N O goals call) []) Q:=by
 have z3:O.length<=100:=aA (bJ h.hl)<|aA h.h3 ⋯
 have zc:call.length<=100:=aA h.h3 ⋯
 have zg:goals.length<=100:=aA h.g5 ⋯
 have E:∀g∈goals,dg (cY g)<=21/\∀t∈cY g,(aR t=AB->T2 t)/\t.WT:=λg m=>⟨(h.gz g m).2.1,λt mt=>⟨((h.gz g m).1 t mt).2,(h.gp g m).wt t mt⟩⟩;have hs:∀t∈O,aR t=AD:=λt m=>(h.a t m).2.2.2;have sub:iE λt=>U.Lt jG 3 t/\∀n,t.has n->(∃t∈O,t.has n)\/N<=n:=⟨λf x z=>⟨(yr jG 3).1 f x z.1,z.2⟩,λf x y z=>⟨⟨((yr jG 3).2 f x y z.1).1,λn q=>z.2 n<|.inl q⟩,⟨((yr jG 3).2 f x y z.1).2,λn q=>z.2 n<|.inr q⟩⟩⟩;have w:∀{b st es ks C},(∀e∈es,Vd 1200<|fM e)->(∀{K code QQ F},(∀k,k∈K↔(bf O goals k).cnt≠0)->U.Start N ':' call F->F.living=(if dk goals=AB then((oO O goals K).length:Int) else -1)->wV QQ (fX s code call picks) es->Rd W (n+1) (fX s code call picks) QQ ((hH (bI O goals K) O 1 ⟨[],[],N⟩).1++iy (bI O goals K) (iW O goals K) (dk goals) goals 0 (hH (bI O goals K) O 1 ⟨[],[],N⟩).2) F)->aU W (n+157) (dp 2 Nf) [AA<|.obj 0,AA<|.obj 5,AA<|.obj 7,AA<|.lst (fN picks),AA<|.obj 8,AA<|.obj 9,AA<|.obj 10,AA<|.str Aac,AE,AE,AE,AE,AE] (hR (pX s fn N O goals call) b st es ks C) (gJ Q):=λ{b st es ks C} ve rd=>by
  refine cC 1<|mO (bL<|cC 1 ?_);refine Kz J (n:=n+151) (z:=5) (gl:=6) (N:=N) (fn:=fn) (O:=O) (goals:=goals) rfl rfl h.ac h.gc zg λ{H1 p} c=>K7 J (n:=n+144) c h.ne h.g5 z3 hs E λ{H2 cd K} A Z R B=>?_;have u:Fo (fX s _ call picks) H2 cd<|aK (hR (pX s fn N O goals call) b st es ks C):=⟨B (i:=0) rfl,B (i:=1) rfl,B (i:=2) rfl,B (i:=3) rfl,B (i:=4) rfl,R,B<|eN (k:=0),B (i:=7) rfl,aA (show 8<=((app C [.dict [] 0]).length+3)+8 from bU 8 _) Z,bU 8<|aK C+3,s.a1,s.a2,s.a4⟩
  refine L8 u J (n:=n+1) (N:=N) h.ic zc (aA (En (λg m=>(E g m).1) z3 h.g5) ⋯) λF st hv=>Qe h rfl J st hv<|rd A (Q3 st) rfl (WW λ{b st ks G Fr}=>λ{H'} bg=>?_)
  have z:=u.bg bg;have h9:=z.2.2.2 (B (i:=9) rfl) (mQ (a:=aK C) (c:=11) (k:=9) ⋯).symm
  refine bL<|n9 (k5.lst (l:=es.map fM) (.cell<|a9▸z.1) (.cell<|a9▸h9)<|IF ve) ?_;show q
 refine J.fe X3 rfl<|cC 2 (mO<|aEL J (n:=n+2) (X:=pX s fn N O goals call) (L:=jG) (d:=3) (by decide:3+3*10<=150) sub (λo z=>z.1) (λt m=>⟨h.qa t m,h.la t m,λk q=>.inl ⟨t,m,q⟩⟩) (λt m=>⟨h.qc t m,h.lc t m,λk q=>.inr<|(h.ic t m).2 k q⟩) h.qg h.hl zc h.g5 h.p (λno {b st C}=>bL<|w (es:=[]) (λo m=>aW m) λA st hv fl=>Yi (rules J (X:=fX s _ call picks) h.ar h.p) st h.hl (h.q7 A) no fl) (λ{b S qs st C} M v Y C_ Mq hq4 bl=>bL ?_) λ{b S qs b' st C} M v Y C_=>bL (w (MW C_ λo m=>aW m) λA st hv fl=>K3 (rules J (X:=fX s _ call picks) h.ar h.p) st h.hl (h.q7 A) hv M Y (λp m=>⟨(v p m).1.2,(v p m).2.2⟩) C_ (λo=>fl) λz=>nomatch z))
 have ck:=YJ (P:=U.Lt jG 3) C_ h.lc λx m=>⟨λt mt=>h.OM x m t<|X8 mt,MO (h.gz x m).2.2⟩;have T:fD qs.S qs.ks:=λt m=>aA (Gf Mq bl t)<|aA (bX (ck.1 t m).2 _) ⋯
 have lk:qs.ks.length<=600:=aA ck.2<|aA (bW h.h3<|dY 100 h.g5) ⋯
 refine cC 1<|mO (bL<|cC 1 ?_);refine Kz J (n:=n+151) (z:=5) (gl:=6) (N:=N) (fn:=fn) (O:=O) (goals:=goals) rfl rfl h.ac h.gc zg λ{H1 p} c=>K7 J (n:=n+144) c h.ne h.g5 z3 hs E λ{H2 cd K} A Z R B=>?_;have u:Fo (fX s _ call picks) H2 cd<|aK (hR (pX s fn N O goals call) qs.b st qs.evs qs.ks C):=⟨B (i:=0) rfl,B (i:=1) rfl,B (i:=2) rfl,B (i:=3) rfl,B (i:=4) rfl,R,B<|eN (k:=0),B (i:=7) rfl,aA (show 8<=((app C [.dict [] 0]).length+3)+8 from bU 8 _) Z,bU 8<|aK C+3,s.a1,s.a2,s.a4⟩
 refine L8 u J (n:=n+1) (N:=N) h.ic zc (aA (En (λg m=>(E g m).1) z3 h.g5) ⋯) λF st' hv=>Qe h rfl J st' hv<|K3 (rules J (X:=fX s _ call picks) h.ar h.p) (Q3 st') h.hl (h.q7 A) rfl M Y (λp m=>⟨(v p m).1.2,(v p m).2.2⟩) C_ (λz=>nomatch z) λ{G S2 τ ω} o ev M2 V=>Vl λ{st G' Fr}=>λ{H'} bg=>?_
 have I:=u.bg bg;have nh:∀{k},k<11->k≠aK (hR (pX s fn N O goals call) qs.b st qs.evs qs.ks C):=λq=>(mQ (a:=aK C) (c:=11) q).symm;have h8:=I.2.2.2 (B (i:=8) rfl)<|nh ⋯
 have h9:=I.2.2.2 (B (i:=9) rfl)<|nh ⋯
 have h10:=I.2.2.2 (B (i:=10) rfl)<|nh ⋯
 refine bL<|n9 (k5.lst (l:=qs.evs.map fM) (.cell<|a9▸ev▸I.1) (.cell<|a9▸h9)<|IF (MW C_ λo m=>aW m)) ?_;have zn:(cM<|qs.ks.map (U.Tm.app qs.S)).length<=10:=pM (r:=jG) (Ga (D:=qs.ks.map<|U.Tm.app qs.S) d7) λx m=>zD Mq (N:=(·∈jG)) (λp m=>⟨(bl p m).1.1,(bl p m).2.1⟩) (λt m=>(ck.1 t m).1) m;have j:=V.fD T;have l2:G.kept.length<=600:=by
  have e:=aF A8 V.to;rw[aO,aO,aO] at e;show e▸lk
 have z:∀{l:List U.Tm},l.length<=600->l.length<=aM:=λh=>aA h<|lz rfl;have dq:∀{S:Sb} {l:List U.Tm},fD S l->∀t∈l.map (U.Tm.app S),t.dep<=n+155:=λh t m=>aA (Ci h t m)<|aA (by decide:150<=155) (bU _ _)
 have d1:∀{S:Sb} {l:List U.Tm},fD S l->∀t∈l,(t.app S).dep<=n+155:=λh t m=>dq h _<|rY m;refine IG J Mq h8 (d:=n+155) rfl rfl (d1 T) (z lk) (.inr ⟨10,rfl,h10⟩)<|Gb J (d:=n+155) (dq T) (by rw[aO];show z lk) (aA zn<|lz rfl) λ{c}=>?_
 refine IG J M2 (dh I.2.2.1) (d:=n+155) rfl rfl (d1 j) (z l2) (.inr ⟨_,rfl,dh I.2.1⟩)<|Gb J (d:=n+155) (dq j) (by rw[aO];show z l2) (V.names.len▸aA zn (lz rfl)) λ{c'}=>aBM (aF (List.map aE) V.kJ) (ID (m:=898)<|Ci T) q
end
def dO(tb:List Nat):Sb:=λn=>.v<|tb.idxOf n
def OP:∀{tb:List Nat},tb <+:(cD tb t).2:=by
 induction t with
 |v n=>
  intro tb;rw[lH];split
  show oV;show rZ _ _
 |c=>show oV|s1 _ x J=>show J|s2 _ x y C B=>show C.trans B
def aBy:∀{tb:List Nat},tb <+:(eX tb D).2:=by
 induction D with
 |nil=>show oV|cons t D J=>show OP.trans J
def Mj{J:List Nat}(h:tb <+:J)(m:n∈tb):J.idxOf n=tb.idxOf n:=by
 obtain⟨e,rfl⟩:=h;rw[JG,aC m]
def aB2{J:List Nat}:∀{tb:List Nat},(cD tb t).2 <+:J->(cD tb t).1=t.app (dO J):=by
 induction t with
 |v n=>
  intro tb h;rw[lH] at h ⊢;by_cases m:n∈tb
  .rw[aC m] at h ⊢;show aF U.Tm.v (Mj h m).symm
  rw[aB m] at h ⊢;show aF U.Tm.v<|by rw[Mj h<|gn _ h_,Mh m]
 |c=>show λz=>rfl|s1 f x B=>show λh=>aF (U.Tm.s1 f) (B h)|s2 f x y D C=>show λh=>congr (aF (U.Tm.s2 f)<|D (OP.trans h))<|C h
def aBz{J:List Nat}:∀{tb:List Nat},(eX tb D).2 <+:J->(eX tb D).1=D.map (U.Tm.app<|dO J):=by
 induction D with
 |nil=>show λy=>rfl|cons t D B=>show λh=>congr (aF B6<|aB2 (aBy.trans h))<|B h
def gT:List Gl->List U.Tm
 | []=>[]|g::gs=>cY g++gT gs
def kX(tb:List Nat):Gl->Gl
 | .call f as=>.call f (as.map<|U.Tm.app (dO tb))| .bi f as=>.bi f (as.map<|U.Tm.app (dO tb))| .fE l r=>.fE (l.app<|dO tb)<|r.app (dO tb)
def aF3{pre a b:List α}:((pre++(a++b)).take<|pre.length+a.length).drop pre.length=a:=by
 rw[List.take_append,uP<|aY _ _,rh,List.take_append_of_le_length<|aV _,JP,Su<|aV _,I8,List.nil_append]
variable{Q:K2}
section
variable(J:bG W){hd:V}{all:List Gl}
include J
theorem aBE:∀{gs:List Gl} {acc:List U.Tm} {o:Option V},acc.length+(gT gs).length<='$'->
  (∀{o},Q .aQ [AA hd,AA<|.obj 0,AA<|.obj 1,o,AE,AE,AE,AE] [.lst<|all.map a8,.lst<|(acc++gT gs).map aE])->
  gj (It .lst (.obj 0)<|all.map a8) 3 (aU W n F8) (gs.map a8) [AA hd,AA<|.obj 0,AA<|.obj 1,o,AE,AE,AE,AE] [.lst<|all.map a8,.lst<|acc.map aE] Q:=by
 intro gs
 induction gs with
 |nil=>show λy q=>⟨dD rfl,by rw[show gT []=[] from rfl,fJ] at q;show q⟩|cons g gs B=>
  intro acc o hz q;have e:gT (g::gs)=cY g++gT gs:=rfl;rw[e,<-bp] at q;rw[e,a5,<-bH,<-a5] at hz;have C:acc.length<aM:=bZ (aA (aY _ _)<|aA (bJ a5.symm) (aA (aY _ _) hz))<|lz rfl;have J:∀{o} {K:BT},(∀{F H},gj (It .lst (.obj 0)<|all.map a8) 3 (aU W n F8) (gs.map a8) F H Q->K F H Q)->K [AA hd,AA<|.obj 0,AA<|.obj 1,o,AE,AE,AE,AE] [.lst<|all.map a8,.lst<|(acc++cY g).map aE] Q:=λk=>k<|B hz q
  cases g with
  |call f as=>
   refine gx (dD rfl) λK k=>gY (k4.tup .val) ⟨?_,?_⟩
   .rw[aO,aO,<-a5];show aA (aA (aY _ _) hz)<|lz rfl
   rw[<-bw];show J k
  |bi f as=>
   refine gx (dD rfl) λK k=>gY (k4.tup .val) ⟨?_,?_⟩
   .rw[aO,aO,<-a5];show aA (aA (aY _ _) hz)<|lz rfl
   rw[<-bw];show J k
  |fE l r=>
   refine gx (dD rfl) λK k=>tR (dv.aHb (l:=[.str [117,110,105,102,121],aE l,aE r]) (aV _) (by decide:1<=3))<|gY (k4.tup .val) ⟨?_,?_⟩
   .rw[a5] at hz;rw[aO];show aA (aA (aY _ _) hz)<|lz rfl
   have z:=J (o:=AA<|a8 (.fE l r)) k;rw[bw] at z;show z
def aBD{C:Cell}{B:List V}(x0 E M L x6 T:Option V):∀{D:List U.Tm} {tb:List Nat} {st:Nat} {o:Option V} {Q:il},(∀t∈D,t.dep<=d)->(eX tb D).2.length<=aM->(∀{st},Q ((eX tb D).1.map aE) [C,.lst B,.dict (de ji 0 (eX tb D).2) st])->
  uB (It .lst (.obj 1) B) (bT W (d+1) Nr) 5 [x0,E,M,L,AA<|.obj 2,o,x6,T] (D.map aE) [C,.lst B,.dict (de ji 0 tb) st] Q:=by
 intro D
 induction D with
 |nil=>show λy y q=>⟨dD rfl,q⟩|cons t D G=>show λhd hs q=>⟨dD rfl,OQ J (hd t h_) rfl (aA yp hs) λ{st'}=>G (λt m=>hd t<|.tail _ m) hs q⟩
end
variable{R:List U.Tm}
section
variable(J:bG W){hd:V}{all:List Gl}
theorem KQ{pre:List U.Tm}{r:List U.Tm}(e:R=pre++t::r):aD (R.map aE) pre.length=AA (aE t):=by
 subst e;rw[a9,f3,rW<|aV _,qH];rfl
theorem aAy{C B:Cell}(O:R.length<='$'):∀{gs dd:List Gl} {pre:List U.Tm} {o:Option V} {m:Nat},pre.length=m->R=pre++(gT gs).map (U.Tm.app<|dO tb)->dd.length+gs.length<='$'->
  (∀{o L},Q .aQ [AA hd,AA<|.obj 0,AA<|.lst (R.map aE),o,AA<|.obj 2,AE,AA<|.obj 3,L] [.lst<|all.map a8,C,B,.lst<|(dd++gs.map (kX tb)).map a8])->
  gj (It .lst (.obj 0)<|all.map a8) 3 (aU W n F9) (gs.map a8) [AA hd,AA<|.obj 0,AA<|.lst (R.map aE),o,AA<|.obj 2,AE,AA<|.obj 3,AA<|.int (m:Nat)] [.lst<|all.map a8,C,B,.lst<|dd.map a8] Q:=by
 intro gs
 induction gs with
 |nil=>show λy y y q=>⟨dD rfl,by rw[List.map_nil,fJ] at q;show q⟩|cons g gs G=>
  intro dd pre o m hm J hz q;subst hm;have e:(gT<|g::gs).map (U.Tm.app<|dO tb)=(cY g).map (U.Tm.app<|dO tb)++(gT gs).map (U.Tm.app<|dO tb):=by rw[show gT (g::gs)=cY g++gT gs from rfl,bw]
  rw[e] at J;have E:=b6 (ri<|jQ _) hz;rw[fK,bQ gs.length,<-bH] at hz;have T:(dd.map a8).length<aM:=by rw[aO];show iB E<|lz rfl
  have q:∀{o L},Q .aQ [AA hd,AA<|.obj 0,AA<|.lst (R.map aE),o,AA<|.obj 2,AE,AA<|.obj 3,L] [.lst<|all.map a8,C,B,.lst<|((dd++[kX tb g])++gs.map (kX tb)).map a8]:=by rw[bp];show q
  have M:∀{o:Option V} {m:Nat} {K:BT},pre.length+(cY g).length=m->(∀{F H},gj (It .lst (.obj 0)<|all.map a8) 3 (aU W n F9) (gs.map a8) F H Q->K F H Q)->K [AA hd,AA<|.obj 0,AA<|.lst (R.map aE),o,AA<|.obj 2,AE,AA<|.obj 3,AA<|.int (m:Nat)] [.lst<|all.map a8,C,B,.lst<|dd.map a8++[a8<|kX tb g]] Q:=λ{o m K} Y k=>by
   have I:=G (dd:=dd++[kX tb g]) (pre:=pre++(cY g).map (U.Tm.app<|dO tb)) (o:=o) (m:=m) (by rw[a5,aO];show Y) (by rw[J,bp]) (by rw[a5];show hz) q
   rw[bw] at I;show k I
  have D:∀{as:List U.Tm},cY g=as->((R.map aE).take<|pre.length+(as.map aE).length).drop pre.length=(as.map<|U.Tm.app (dO tb)).map aE/\pre.length+(as.map aE).length<=(R.map aE).length:=λ{as} Z=>by
   rw[Z] at J;refine⟨?_,?_⟩
   .rw[<-Dt,<-JI,J,aO]
    have:=aF3 (pre:=pre) (a:=as.map<|U.Tm.app (dO tb)) (b:=(gT gs).map<|U.Tm.app (dO tb))
    rw[aO] at this;rw[this]
   rw[J,aO,aO,a5,a5,aO,<-bH];show aY _ _
  rcases g with ⟨f,as⟩|⟨f,as⟩|⟨l,r⟩
  .refine gx (dD rfl) λK k=>Qf (rt.lst .val (aY _ _) (D rfl).2 .val) ?_;rw[(D rfl).1];show fP (W:=W) (i:=3) (H:=[.lst<|all.map a8,C,B,.lst<|dd.map a8]) rfl T<|M (by rw[aO];rfl) k
  .refine gx (dD rfl) λK k=>Qf (rt.lst .val (aY _ _) (D rfl).2 .val) ?_;rw[(D rfl).1];show fP (W:=W) (i:=3) (H:=[.lst<|all.map a8,C,B,.lst<|dd.map a8]) rfl T<|M (by rw[aO];rfl) k
  have e2:aD (R.map aE) (pre.length+1)=AA (aE<|r.app (dO tb)):=by
   have z:=KQ (R:=R) (pre:=pre++[l.app<|dO tb]) (by rw[J,bp];rfl)
   rw[a5] at z;show z
  show gx (dD rfl) λK k=>ba (KQ J)<|ba e2 (fP (W:=W) (i:=3) (H:=[.lst<|all.map a8,C,B,.lst<|dd.map a8]) rfl T<|M (m:=pre.length+2) rfl k)
include J
theorem aBY{l:List V}{Q:K1}(q:Q (.obj<|aK H)<|app H [.lst l]):Seq (Prim W (.f1 .list) [.tup l] H) Q:=by rw[dJ,dC] at q;show gY (k4.tup .cell) q
def aA3{Q:K1}{f:Int}(M:cM (O++gT all)=tb)(L:∀t∈O++gT all,t.dep<=d)(B:O.length+(gT all).length<='$')(T:all.length<='$')(C:tb.length<='$')
  (q:∀{G E},Q (.obj 4) [.lst<|all.map a8,G,E,.lst<|(all.map<|kX tb).map a8,.inst 6 [('a',.int f),('w',.tup<|(O.map<|U.Tm.app (dO tb)).map aE),('m',.obj 3),('f',.int (tb.length:Nat))]]):
  Fi W (d+2) 78 [.tup [.int f,.tup<|O.map aE],.obj 0] [.lst<|all.map a8] Q:=by
 have e2:(eX []<|O++gT all).2=tb:=M;have e1:(eX []<|O++gT all).1=O.map (U.Tm.app<|dO tb)++(gT all).map (U.Tm.app<|dO tb):=by rw[aBz (by rw[e2];show oV),bw]
 have D:(O.map (U.Tm.app<|dO tb)++(gT all).map (U.Tm.app<|dO tb)).length<='$':=by rw[a5,aO,aO];show B
 refine J.fe X4 rfl<|aBY J ⟨dD rfl,aBE J B λ{o}=>mO ⟨dD rfl,by rw[aO,a5];show aA B<|lz rfl,?_⟩⟩
 refine aBD J (tb:=[]) _ _ _ _ _ _ L (by rw[e2];show aA C<|lz rfl) ⟨.val,?_⟩
 rw[e1,e2];refine eA (lz rfl) ?_;refine⟨dD rfl,aAy (dd:=[]) D (by rw[aO,aO]) rfl (by rw[m9,cT];show T) λ{o Y}=>pU (dv.Oe .val .val)<|gY (rq.dict rfl (by rw[qU];show aA C<|lz rfl)) ?_⟩
 rw[<-Dt,aO,<-aO,List.take_left,qU];refine J.fe Xg rfl ?_;show⟨rfl,q⟩
end
def zX(n:Nat):List Nat:=(Am<|CD n).cps.toList
def aDb(h:n<10):(zX n).length<=3:=by
 have e:(CD (n:Int)).length<=1+1:=int_text_length_le10 ⋯<|h
 have z:(Am<|CD n).length<=2:=by rw[PySem.ofString_length];show e
 show eM<|(oR)▸z
def Jk.int(h:n<10):P1 W (.int (n:Int)) (.str<|zX n) H H<|λa=>call (.type "str") [a]:=λ{y A s y y R} K J c=>
 J.cP (P:=λB=>Wp W A (call (.type "str") [B]) R s) λt=>P.str_of_int (bZ (Nat.log2_le_self n)<|iB h ⋯)<|c.here K.N ⟨aF (λx:AN=>CN x _)<|show Am (CD n)=⟨(Am<|CD n).cps.toList.toArray⟩ by rw[Array.toArray_toList]⟩
def QX:t.WT->(t.app<|dO tb).WT:=by
 induction t with
 |v=>show id|c=>show id|s1 _ x J=>show λh=>⟨h.1,J h.2⟩|s2 _ x y C B=>show λh=>⟨h.1,C h.2.1,B h.2.2⟩
def z0:(t.app<|dO tb).dep=t.dep:=by
 induction t with
 |v=>rfl|c=>rfl|s1 _ x J=>show aF (·+1) J|s2 _ x y C B=>change max _ _+1=max _ _+1;rw[C,B]
def aFJ:(t.app<|dO tb).aX=t.aX:=by
 induction t with
 |v=>rfl|c=>rfl|s1 _ x J=>show aF (·+1) J|s2 _ x y C B=>change _+_+1=_+_+1;rw[C,B]
def QW{k:Nat}(h:(t.app<|dO tb).has k):∃j,t.has j/\tb.idxOf j=k:=(U.dj.mp h).elim λj J=>J.elim λa b=>⟨j,a,b⟩
def LI(h:t.dep<=0):aR t=AD:=by
 rcases t with _|_;rfl;rfl;show absurd h<|jy _;show absurd h<|jy _
def KH(h:t.dep<=d+1)(m:u∈af t):u.dep<=d:=by
 rcases t with _|_|⟨f,x⟩|⟨f,x,y⟩;show aW m;show aW m;show JK.mp m▸gN h;have h:=Nat.max_le.mp<|gN h;show(JJ.mp m).elim (λe=>e▸h.1) λm=>JK.mp m▸h.2
def aGg(h:t.dep<=2):T2 t:=λu m y w n=>LI<|KH (KH h m) n
section
variable{l l':List α}{x:α}
def Pz(h:l <+:l')(e:aD l i=AA x):aD l' i=AA x:=by
 obtain⟨r,rfl⟩:=h;show dC▸dh e
variable[DecidableEq α]
def Ju:l <+:dR l x:=by
 unfold dR;split
 show oV;show rZ _ _
def T8:x∈dR l x:=by
 unfold dR;split
 .assumption
 show gn _ h_
def T7:aD (dR l x) (iz (dR l x) x)=AA x:=by
 have h:=List.idxOf_lt_length_iff.mpr<|T8 (l:=l) (x:=x);unfold iz;rw[a9,cT,cK h];show aF AA<|p9 _
end
abbrev Sy:=List (List Nat)×List (Nat×Nat)
def zP(y:Sy)(r:List Nat×Nat):Nat:=iz (iR y r).2 (iz (iR y r).1 r.1,r.2)
variable{y:Sy}{r:List Nat×Nat}
def aDL:aD (iR y r).2 (zP y r)=AA (iz (iR y r).1 r.1,r.2):=T7
def yA:Sy:=(dR v8.1 [97],v8.2)
def yB:Sy:=iR yA ([102],1)
def yW:Sy:=iR yB ([102],2)
def w32:zP yA ([102],1)=32:=k_
def w33:zP yB ([102],2)=33:=k_
def aIP:yW.1.length+yW.2.length<=100:=lz<|k_
def IM:((aD yW.2 0).map (·.2))=AA 2/\((aD yW.2 32).map (·.2))=AA 1/\((aD yW.2 33).map (·.2))=AA 2:=⟨k_,k_,k_⟩
def DF:v8.1.length<'$'/\yA.1.length<'$'/\yA.2.length<'$'/\yB.1.length<'$'/\yB.2.length<'$':=⟨lz<|k_,lz<|k_,lz<|k_,lz<|k_,lz<|k_⟩
structure iv(y:Sy)(m:Nat):Prop where
 pre:yW.2 <+:y.2
 z:y.1.length+y.2.length+2*m<=900
def iv.lt(k:iv y m):y.1.length<'$'/\y.2.length<'$':=⟨bZ (aA (aA (aY _ _)<|aY _ _) k.z) ⋯,bZ (aA (aA (bU _ _)<|aY _ _) k.z) ⋯⟩
def iv.func(k:iv y<|m+1):iv (iR y r) m:=⟨k.pre.trans Ju,by
 have B:(iR y r).1.length<=y.1.length+1:=r6;have J:(iR y r).2.length<=y.2.length+1:=r6;have e:y.1.length+1+(y.2.length+1)+2*m=y.1.length+y.2.length+2*(m+1):=by
  rw[Dx,dX,jP,bH]
 show aA (bX (bW B J)<|2*m)<|e▸k.z⟩
def iv.less{k:Nat}(h:iv y m)(l:k<=m):iv y k:=⟨h.pre,aA (b7 (dY 2 l) _) h.z⟩
abbrev zO:List Nat:=[0,1,2]
abbrev kS:List Nat:=[0,1,2,3,4,5]
def DV(fs:List<|Nat×Nat)(f:Nat)(J:List U.Tm):Prop:=J.length<=3/\∃b,aD fs f=AA (b,J.length)
structure Gd(fs:List (Nat×Nat))(g:Gl):Prop where
 tz:∀t∈cY g,Tz 2 kS t
 fn:∀f as,g=.call f as\/g=.bi f as->DV fs f as
variable{gg:List Gl}
section
variable{fs':List (Nat×Nat)}{k f:Nat}{l r:U.Tm}
def Tz.ns{B:Nat}{ns J:List Nat}(h:Tz d ns t)(s:∀x∈ns,x∈J)(e:d<=B):Tz B J t:=⟨h.wt,λx q=>s x<|h.vs x q,aA h.dp e,aA h.sz<|Nat.pow_le_pow_right ⋯ (bj e)⟩
def Gd.ext(h:Gd fs g)(e:fs <+:fs'):Gd fs' g:=⟨h.tz,λf as q=>have z:=h.fn f as q;⟨z.1,z.2.elim λb z=>⟨b,Pz e z⟩⟩⟩
def Gd.len(h:Gd fs g):(cY g).length<=3:=by
 rcases g with ⟨f,as⟩|⟨f,as⟩
 .show(h.fn f as<|.inl rfl).1
 .show(h.fn f as<|.inr rfl).1
 show(by decide:2<=3)
def Gd.call(h:∀t∈as,Tz 2 kS t)(a:DV fs f as)(e:g=.call f as\/g=.bi f as):Gd fs g:=by
 rcases e with rfl|rfl
 .show⟨h,λB J q=>q.elim (λq=>by rcases q with _|_;show a) λq=>nomatch q⟩
 show⟨h,λB J q=>q.elim (λq=>nomatch q) λq=>by rcases q with _|_;show a⟩
def Gd.fE(B:Tz 2 kS l)(J:Tz 2 kS r):Gd fs<|.fE l r:=⟨λt m=>(JJ.mp m).elim (λe=>e▸B) λm=>JK.mp m▸J,λf as q=>q.elim (λq=>nomatch q) λq=>nomatch q⟩
def Gs.snoc(h:∀a∈gg,Gd fs a)(e:fs <+:fs')(d:Gd fs' g):∀a∈gg++[g],Gd fs' a:=λa m=>(nA.mp m).elim (λm=>(h a m).ext e) λm=>JK.mp m▸d
end
section
variable{k:Nat}
def Hf:cY (kX tb g)=(cY g).map (U.Tm.app<|dO tb):=by rcases g with _|_<;>rfl
def aFO(h:e6 k<|kX tb g):∃j,e6 j g/\tb.idxOf j=k:=by
 obtain⟨t,m,q⟩:=h;rw[Hf] at m;obtain⟨u,J,rfl⟩:=List.mem_map.mp m;obtain⟨j,C,B⟩:=QW q;show⟨j,⟨u,J,C⟩,B⟩
def FT:t∈gT gg↔∃g∈gg,t∈cY g:=by
 induction gg with
 |nil=>show⟨(λm=>aW m),λB=>B.elim λy J=>J.elim λm y=>aW m⟩|cons g gg C=>
  rw[show gT (g::gg)=cY g++gT gg from rfl,nA,C]
  show⟨λh=>h.elim (λm=>⟨g,.head _,m⟩) λB=>B.elim λa J=>J.elim λm z=>⟨a,.tail _ m,z⟩,λ⟨a,m,z⟩=>(JJ.mp m).elim (λe=>.inl<|e▸z) λm=>.inr ⟨a,m,z⟩⟩
end
section
variable{k:Nat}
def sz7{ns:List Nat}(h:∀t∈as,Tz 2 ns t):dg as<=7*as.length:=by
 induction as with
 |nil=>show bK _|cons t as J=>
  have B:=(h t h_).sz;rw[fK,jP,bQ<|7*_,show dg (t::as)=t.aX+dg as from qC]
  show bW (gN B)<|J λu m=>h u (.tail _ m)
def aGf:dg (as.map<|U.Tm.app (dO tb))=dg as:=aF List.sum<|gm.symm▸jO λt y=>aFJ
structure DL(t:U.Tm):Prop where
 wt:t.WT
 vs:∀x,t.has x->x∈[500,501]
 dp:t.dep<=1
variable(hts:∀t∈D,Tz 0 zO t)(hg:∀g∈gg,Gd fs g)
include hts hg
def O0:(cM<|D++gT gg).length<=8:=aA (pM (Ga d7) λx hx=>(qj.mp hx).elim (λh=>aW h) λB=>B.elim λt J=>J.elim λm h=>(nA.mp m).elim (λm=>(by decide:∀x∈zO,x∈kS) x<|(hts t m).vs x h) λm=>(FT.mp m).elim λg z=>((hg g z.1).tz t z.2).vs x h) ⋯
def UK{J:List U.Tm}(A:iv y m)(I:y.2=fs)(S:D.length<=3)(ne:gg≠[])(P:gg.length<=5)(M:∀t∈J,DL t)(lc:D.length=J.length)(p:0<picks.length):
  Ag fs (cM<|D++gT gg).length (D.map<|U.Tm.app (dO<|cM (D++gT gg))) (gg.map<|kX (cM<|D++gT gg)) J picks (vz fs):=by
 subst I;have Z:=O0 hts hg;have B:∀{t x},t∈D++gT gg->t.has x->x∈cM (D++gT gg):=λht hx=>qj.mpr<|.inr ⟨_,ht,hx⟩;have O:∀g∈gg,∀k,e6 k g->k∈cM (D++gT gg):=λg hm k R=>R.elim λt L=>L.elim λa b=>B (gn _<|FT.mpr ⟨g,hm,a⟩) b;generalize cM (D++gT gg)=tb at Z B O ⊢;have T:∀{i r:Nat},((aD yW.2 i).map (·.2))=AA r->∃a,aD y.2 i=AA (a,r):=λh=>by
  obtain⟨⟨a,b⟩,G,E⟩:=Option.map_eq_some_iff.mp h;show⟨a,Pz A.pre<|(E)▸G⟩
 refine⟨λh=>?_,λt ht=>?_,Z,λt ht=>⟨(M t ht).wt,λk q=>?_,aA (M t ht).dp ⋯⟩,(aO _).trans lc,lc▸S,by rw[aO];show P,λe=>ne<|List.map_eq_nil_iff.mp e,λx hx=>?_,λx hx=>?_,p⟩
 .rcases h with rfl|rfl|rfl;show T IM.2.1;show T IM.1;show T IM.2.2
 .obtain⟨u,C,rfl⟩:=List.mem_map.mp ht;have d:=(hts u C).dp;refine⟨QX (hts u C).wt,λk hk=>?_,z0.symm▸aA d (bK _),LI<|z0.symm▸d⟩;obtain⟨j,hj,e⟩:=QW hk;show e▸List.idxOf_lt_length_iff.mpr (B (gF _ C) hj)
 .have:=(M t ht).vs k q
  rcases JJ.mp this with rfl|m
  .show⟨aV _,by decide⟩
  obtain rfl:=JK.mp m;show⟨by decide,aV _⟩
 .obtain⟨g,hm,rfl⟩:=List.mem_map.mp hx;have z:=hg g hm;refine⟨λt ht=>?_,λk h=>?_,?_⟩
  .rw[Hf] at ht;obtain⟨u,C,rfl⟩:=List.mem_map.mp ht;show QX (z.tz u C).wt
  .obtain⟨j,G,E⟩:=aFO h;show E▸List.idxOf_lt_length_iff.mpr (O g hm j G)
  have Y:∀{f as},DV y.2 f as->vz y.2 f=(as.map<|U.Tm.app (dO tb)).length/\(as.map<|U.Tm.app (dO tb)).length<=100:=λz=>by
   obtain⟨b,hb⟩:=z.2;refine⟨?_,by rw[aO];show aA z.1 ⋯⟩
   unfold vz;rw[hb,aO];rfl
  rcases g with ⟨f,as⟩|⟨f,as⟩;show Y<|z.fn f as (.inl rfl);show Y<|z.fn f as (.inr rfl);show trivial
 obtain⟨g,hm,rfl⟩:=List.mem_map.mp hx;have z:=hg g hm;rw[Hf];refine⟨λt ht=>?_,?_,by rw[aO];show aA z.len ⋯⟩
 .obtain⟨u,C,rfl⟩:=List.mem_map.mp ht;have d:=(z.tz u C).dp;show⟨z0.symm▸eM d,λo=>aGg<|z0.symm▸d⟩
 rw[aGf];show aA (sz7 z.tz)<|dY 7 z.len
end
@[reducible] def pC(S:List Int)(a:Int)(b:Nat):Cell:=.lst [.int a,.int b,.lst<|S.map .int]
@[reducible] def hL(P:Cell)(y:Sy)(s s':Nat)(gg:List Gl)(X:AH):AH:=e7 P (.lst (gg.map a8)::X) y.1 y.2 s s'
@[reducible] def fG(na:Nat)(x0 C x5 x6 x8 x9 x10 x11 x12 B J:Option V):Fa:=[x0,AA<|.obj 0,AA<|.obj 1,AA<|oP na,C,x5,x6,AA<|.obj 6,x8,x9,x10,x11,x12,B,J]
variable{R:AH}
def u6(J:bG W){s:Nat}{P:Cell}{Q:K1}{t:List Nat}{k:Nat}(h:y.1.length<'$'/\y.2.length<'$')(q:∀{s s'},Q (.int (zP y (t,k):Nat))<|e7 P R (iR y (t,k)).1 (iR y (t,k)).2 s s'):Fi W (n+2) 7 [.obj 1,.str t,.int (k:Nat)] (e7 P R y.1 y.2 s s') Q:=MH J h.1 h.2 q
def tB:(nq m).length=m:=by rw[nz,aO,List.length_range']
variable{S:List Int}
section
variable(J:bG W)(hS:S≠[])
include J hS
def H3{ns:List Nat}(C:ns≠[])(M:ns.length<'$'){t:Fa}(T:∀{o:Option V} {H:AH} {Q:K1},Fi W (n+2+d) 79 [.obj 0,oP na,.int (d:Nat),.lst<|ah ns] H Q->el (x0::AA (.obj 0)::x2::AA (oP na)::x4::o::t) H Q):∀{l:List V} {a:Int} {b:Nat} {o:Option V} {Q:il},b+3*2 ^ d*l.length<=':'->(∀{D:List U.Tm} {a':Int} {b':Nat},D.length=l.length->(∀t∈D,Tz d ns t)->b'<=b+3*2 ^ d*l.length->Q (D.map aE) (gU R S a' b'))->
  rQ el 5 (x0::AA (.obj 0)::x2::AA (oP na)::x4::o::t) l (gU R S a b) Q:=by
 intro l
 induction l with
 |nil=>show λy q=>q rfl (λy h=>aW h) (aV _)|cons v l L=>
  intro a b o Q hb q;rw[fK,jP,bQ<|3*2 ^ d*_,<-bH] at hb q;refine T<|C4 J hS C M (aA (aY _ _)<|aA hb ⋯) λ{t Y b1} ht B=>?_
  have B:=eT B;show L (aA (bX B _) hb) λ{D G b2} hl hts E=>q (D:=t::D) (aF BB hl) (λu m=>(JJ.mp m).elim (λe=>e▸ht)<|hts u)<|aA E (bX B _)
end
structure Dr(y:Sy)(m:Nat)(gg:List Gl):Prop where
 yk:iv y m
 gs:∀g∈gg,Gd y.2 g
def FX(h:gg.length<'$'):(gg.map a8).length<aM:=by rw[aO];show iB h<|lz rfl
def H0:aL->aL
 | .cons (.ite _ a _) _=>a|_=>.nil
variable{b c:Nat}
section
variable(J:bG W)(hS:S≠[]){s r:Nat}{X:AH}{a:Int}
theorem Eb{k l:Nat}(h:b<=c+k)(z:c<=90000)(e:k+l<=90000):b+l<='Q':=aA (bX h l) (by rw[bH];show aA (bW z e) ⋯)
include J hS
def aHx{l:U.Tm}(M:c<=90000)(T:b<=c+20)(Y:gg.length<'$')(G:Tz 2 kS l)(q:∀{g a' b' x11},Gd y.2 g->b'<=c+60->Q .aQ (fG na x0 x4 x5 x6 (AA<|.int (i:Nat)) (AA<|.int (r:Nat)) (AA<|aE l) x11 x12 AE AE) (hL (pC S a' b') y s s' (gg++[g]) X)):
  aU W (n+4) (dp 2<|H0 (dp 1 vE)) (fG na x0 x4 x5 x6 (AA<|.int (i:Nat)) (AA<|.int (r:Nat)) (AA<|aE l) x11 x12 AE AE) (hL (pC S a b) y s s' gg X) Q:=by
 have L:=FX Y;have B:∀{t a' b'},Tz 2 kS t->b'<=c+60->aU W (n+4) (dp 3<|H0 (dp 1 vE)) (fG na x0 x4 x5 x6 (AA<|.int (i:Nat)) (AA<|.int (r:Nat)) (AA<|aE l) (AA<|aE t) x12 AE AE) (hL (pC S a' b') y s s' gg X) Q:=λ{t a' b'} ht h=>by
  have D:=q (a':=a') (x11:=AA<|aE t) (Gd.fE ht G) h;have C:=q (a':=a') (x11:=AA<|aE t) (Gd.fE G ht) h;unfold hL at D C;rw[bw] at D C;show dP (λz=>⟨L,D⟩) λz=>⟨L,C⟩
 have E:∀{b' k},b'+1<=b+k->k<=40->b'<=c+60:=λh e=>aA (eT h)<|aA (bW T e) (bJ<|bH c 20 40);refine cC 1<|dP (λz=>kY (lz rfl)<|C4 (d:=1) J hS (ns:=kS) (jv _ _) ⋯ (Eb T M ⋯) λ{t Z b1} ht h=>?_) λz=>kY (lz rfl) (C4 (n:=n) (d:=2) J hS (ns:=kS) (jv _ _) ⋯ (Eb T M ⋯) λ{t Z b1} ht h=>?_)
 show bL<|B (ht.ns (λz m=>m) ⋯) (E h ⋯)
 show bL<|B ht (E h ⋯)
end
def Uy{k:Nat}(h:a<=b+k)(J:b<=c+1):a<=c+(k+1):=by
 rw[bQ k 1,<-bH];show aA h<|bX J k
def Uz{k:Nat}(h:a<=b+60*k)(J:b<=c+60):a<=c+60*(k+1):=by
 rw[jP,bQ<|60*k,<-bH];show aA h<|bX J _
section
variable(J:bG W)(hS:S≠[])
include J hS
def YN:∀{k i:Nat} {gg:List Gl} {y:Sy} {m:Nat} {a:Int} {b s s':Nat} {X:AH} {x5 x8 x9 x10 x11 x12:Option V},Dr y (m+k) gg->b+60*k<=90000->gg.length+k<=900->i+k<=9->(k=0->gg≠[])->
  (∀{D:List Gl} {y':Sy} {a':Int} {b' s s':Nat} {x5 x8 x9 x10 x11 x12:Option V},Dr y' m D->D≠[]->D.length<=gg.length+k->b'<=b+60*k->Q .aQ (fG na x0 x4 x5 x6 x8 x9 x10 x11 x12 AE AE) (hL (pC S a' b') y' s s' D X))->
  d5 8 (aU W (n+4) vE) ((Af i k).map λi:Nat=>V.int (i:Int)) (fG na x0 x4 x5 x6 x8 x9 x10 x11 x12 AE AE) (hL (pC S a b) y s s' gg X) Q:=by
 intro k
 induction k with
 |zero=>show λd j j j ne q=>q d (ne rfl) (aV _) (aV _)|succ k ih=>
  intro i gg y m a b s s' X x5 x8 x9 x10 x11 x12 d hb hz f _ q;rw[TS];rw[jP,bQ<|60*_,<-bH] at hb;have d:Dr y (m+k+1) gg:=d;have A:gg.length<'$':=bZ (aA (aY _ _) hz) ⋯
  have N:i<10:=bZ (aA (aY _ _) f) ⋯
  have Y:b<=90000:=aA (aY _ _)<|aA (aY _ _) hb;have u:∀{b' k},b'<=b+k->k<='$'->b'<='Q':=λh e=>aA h<|aA (bW Y e) ⋯
  refine e5 λK kx=>?_;have P:∀{g:Gl} {y':Sy} {a':Int} {b' s s':Nat} {x5 x8 x9 x10 x11 x12:Option V},iv y' (m+k)->y.2 <+:y'.2->Gd y'.2 g->b'<=b+60->K (fG na x0 x4 x5 x6 x8 x9 x10 x11 x12 AE AE) (hL (pC S a' b') y' s s' (gg++[g]) X) Q:=λ{g y' a' b' s s' x5 x8 x9 x10 x11 x12} yk e E w=>by
   have l':(gg++[g]).length<=gg.length+1:=bJ a5;show kx<|ih ⟨yk,Gs.snoc d.gs e E⟩ (aA (bX w _) hb) (aA (bX l' _) (by rw[bH,bQ 1];show hz)) (by rw[bH,bQ 1];show f) (λj e=>jv _ _ (List.append_eq_nil_iff.mp e).2) λd2 I l2 B=>q d2 I (Uy l2 l') (Uz B w)
  refine jX J (m:=6) hS (u (aY b 0) ⋯) ⋯ ⋯ λ{r a1 b1} j O=>?_
  refine dP (λj=>?_) λj=>?_
  .refine cC 2 (jX J (m:=6) hS (u O ⋯) ⋯ ⋯ λ{T a2 b2} C B=>?_)
   have B:b2<=b+2:=aA B<|bj O;have go:∀{Q':K2} {l:U.Tm} {R L},Tz 2 kS l->L<=b+20->(∀{g a' b' x11},Gd y.2 g->b'<=b+60->Q' .aQ (fG na x0 x4 x5 x6 (AA<|.int (i:Nat)) (AA<|.int (r:Nat)) (AA<|aE l) x11 x12 AE AE) (hL (pC S a' b') y s s' (gg++[g]) X))->aU W (n+4) (dp 2<|H0 (dp 1 vE)) (fG na x0 x4 x5 x6 (AA<|.int (i:Nat)) (AA<|.int (r:Nat)) (AA<|aE l) x11 x12 AE AE) (hL (pC S R L) y s s' gg X) Q':=λhl Z q=>aHx J hS Y Z A hl q;refine dP (λj=>kY (lz rfl)<|C4 (n:=n+1) (d:=1) J hS (ns:=kS) (jv _ _) ⋯ (Eb B Y ⋯) λ{t R L} ht h=>?_) λj=>bL<|go (l:=.v T) (.leaf trivial (λx h=>(show T=x from h)▸?_) rfl rfl) (aA B<|b7 ⋯ b) λE h=>P (d.yk.less<|b8 _) oV E h
   show bL<|go (ht.ns (λj m=>m) ⋯) (aA (eT h)<|aA (bX B _) (by rw[bH];show b7 ⋯ b)) λE h=>P (d.yk.less<|b8 _) oV E h
   rcases T with _|_|_|_|_|_|T;show .head _;show .tail _ h_;show .tail _<|.tail _ h_;show .tail _<|.tail _ (.tail _ h_);show .tail _<|.tail _ (.tail _<|.tail _ h_);show .tail _<|.tail _ (.tail _<|.tail _ (.tail _ h_));show absurd C<|Nat.not_lt.mpr (bU 6 T)
  refine jX J (m:=4) hS (u O ⋯) ⋯ ⋯ λ{T a2 b2} C B=>⟨aA (dc C)<|lz rfl,?_⟩
  have B:b2<=b+2:=aA B<|bj O;have M:3*2 ^ 1*T<=18:=dY 6<|kr C;refine H3 J (n:=n+1) hS (d:=1) (ns:=kS) (jv _ _) ⋯ (el:=bT W (n+4) Nt) (λ{o H Q} q=>kY (lz rfl) q) (l:=nq T) ?_ λ{acc R L} hl ha Z=>⟨.val,?_⟩
  .rw[tB];show aA (bW B M)<|aA (bX (bX Y 2) 18) ⋯
  rw[tB] at hl Z;have l3:acc.length<=3:=hl▸kr C;have h4:L<=b+60:=aA Z<|aA (bW B M) (by rw[bH];show b7 ⋯ b)
  have p:∀{c:Nat},([c]).length+(zX i).length<=aM:=aA (b7 (aDb N) 1)<|lz rfl;have G:=λ{g s s' x5 x9 x10 x11 x12} e=>by
   have z:=P (g:=g) (y':=iR y ([103]++zX i,(acc.map aE).length)) (a':=R) (b':=L) (s:=s) (s':=s') (x5:=x5) (x8:=AA<|.int i) (x9:=x9) (x10:=x10) (x11:=x11) (x12:=x12) d.yk.func Ju (Gd.call (λt m=>(ha t m).ns (λj m=>m) ⋯) ⟨l3,_,by rw[aDL,aO]⟩ e) h4
   unfold hL at z;rw[bw] at z;show z
  refine dP (λj=>?_) λj=>?_;show gY (Jk.int N)<|gD (nD.str p) (u6 J d.yk.lt λ{s s'}=>⟨FX A,G<|.inr rfl⟩);show gY (Jk.int N)<|gD (nD.str p) (u6 J d.yk.lt λ{s s'}=>⟨FX A,G<|.inl rfl⟩)
end
def J1{l:List<|List Nat}:iM<|.lst (l.map V.str):=λy=>aF Cell.lst<|eY λy=>rfl
def Ox{r:Nat->Nat}{K:Type}{J:α->K}{l:List α}:∀{i:Nat},jF r (de J i l)=de J i l:=by
 induction l with
 |nil=>show rfl|cons x l B=>show aF (B6 _) B
def Jz{l:List<|List Nat}{s:Nat}:iM<|.dict (de o3 0 l) s:=λy=>aF (Cell.dict · s) Ox
def J0{l:List<|Nat×Nat}{s:Nat}:iM<|.az (de oy 0 l) s:=λy=>aF (Cell.az · s) Ox
def scY(y:Sy)(s s':Nat):Sc:=⟨.lst<|y.1.map V.str,.dict (de o3 0 y.1) s,y.2,.az (de oy 0 y.2) s',J1,Jz,J0⟩
variable{Q:K1}
section
variable(J:bG W)
include J
def aA2{f:Int}{all:List Gl}(E:aD H gl=AA (.lst<|all.map a8))(G:cM (O++gT all)=tb)(M:∀t∈O++gT all,t.dep<=d)(D:O.length+(gT all).length<='$')(L:all.length<='$')(T:tb.length<='$')
  (q:∀{H' z},H.length<=z->aD H' (z+1)=AA (.inst 6 [('a',.int f),('w',.tup<|(O.map<|U.Tm.app (dO tb)).map aE),('m',.obj z),('f',.int (tb.length:Nat))])->aD H' z=AA (.lst<|(all.map<|kX tb).map a8)->(∀{i c},i≠gl->aD H i=AA c->aD H' i=AA c)->Q (.obj<|z+1) H'):
  Fi W (d+2) 78 [.tup [.int f,.tup<|O.map aE],.obj gl] H Q:=by
 have e:∀{r:Nat->Nat} {l:List U.Tm},e9 r (l.map aE)=l.map aE:=eY λy=>kQ;have F:=u4 (vs:=[.tup [.int f,.tup<|O.map aE],.obj 0]) (H1:=[.lst<|all.map a8]) (Q:=Q) (List.nodup_cons.mpr ⟨eL,d7⟩) ⟨E.trans<|aF (λl=>AA<|Cell.lst l) (eY λy=>s8).symm,trivial⟩<|aA3 J G M D L T λb=>?_
 .rw[show e9 (rn [gl] H.length) [.tup [.int f,.tup<|O.map aE],.obj 0]=[.tup [.int f,.tup<|e9 (rn [gl] H.length) (O.map aE)],.obj gl] from rfl,e] at F
  show F
 have B:=b.gI (j:=4) rfl;have C:=b.gI (j:=3) rfl;rw[show mc (rn [gl] H.length) (.inst 6 [('a',.int f),('w',.tup<|(O.map<|U.Tm.app (dO tb)).map aE),('m',.obj 3),('f',.int tb.length)])=.inst 6 [('a',.int f),('w',.tup<|e9 (rn [gl] H.length) ((O.map<|U.Tm.app (dO tb)).map aE)),('m',.obj<|H.length+2),('f',.int tb.length)] from rfl,e] at B
 rw[show mc (rn [gl] H.length) (.lst<|(all.map<|kX tb).map a8)=.lst ((all.map<|kX tb).map a8) from aF Cell.lst<|eY λy=>s8] at C
 show q (aY _ _) (a9.trans B) (a9.trans C) λn h=>a9.trans<|b.out (λm=>n<|JK.mp m) (a9▸h)
omit J in
theorem nd8(C:7<=c)(B:c<b)(J:b<a):[1,2,3,4,5,a,b,c].Nodup:=by
 have hb:=aA C<|dc B;have ha:=aA hb<|dc J;have f:∀{k:Nat},k<7->k∉[a,b,c]:=λq m=>by
  rcases JJ.mp m with e|m;show Je ha<|e▸q;rcases JJ.mp m with e|m;show Je hb<|e▸q;show Je C<|JK.mp m▸q
 show(JL).mpr ⟨by decide,List.nodup_cons.mpr ⟨λm=>(JJ.mp m).elim (iC J) λm=>iC (iB B J)<|JK.mp m,List.nodup_cons.mpr ⟨λm=>iC B<|JK.mp m,List.nodup_cons.mpr ⟨eL,d7⟩⟩⟩,λx hx y D e=>f (bZ ((by decide:∀x∈[1,2,3,4,5],x<=5) x hx) ⋯)<|e▸D⟩
def UL{z C s:Nat}{f:Int}{B:List U.Tm}(h:Ag y.2 N O goals B picks<|vz y.2)(A:7<=C)(R:C<z)
  (Z:aD H 1=AA (.inst 0 [('4',.obj 2),('q',.obj 3),('H',.obj 4),('o',.obj 5)])) (Y:aD H 2=AA (.lst<|y.1.map V.str)) (G:aD H 3=AA (.dict (de o3 0 y.1) s)) (E:aD H 4=AA (.lst<|y.2.map oq)) (M:aD H 5=AA (.az (de oy 0 y.2) s'))
  (T:aD H (z+1)=AA (.inst 6 [('a',.int f),('w',.tup<|O.map aE),('m',.obj z),('f',.int (N:Nat))])) (D:aD H z=AA (.lst<|goals.map a8)) (L:aD H C=AA (.lst<|B.map aE)) (q:∀{H'},Q (.bool AB) H'):
  Fi W (n+158) 77 [.obj 1,.obj<|z+1,.obj C,.lst<|fN picks] H Q:=by
 have e:∀{r:Nat->Nat} {l:List U.Tm},e9 r (l.map aE)=l.map aE:=eY λo=>kQ;have F:=u4 (nd8 A R<|c5 z) (H1:=hA (pX (scY y s s') f N O goals B) []) ⟨Z,Y.trans<|aF AA (J1 _).symm,G.trans<|aF AA (Jz _).symm,E.trans<|aF AA (Jy _).symm,M.trans<|aF AA (J0 _).symm,T.trans<|aF (λl=>AA<|Cell.inst 6 [('a',.int f),('w',.tup l),('m',.obj z),('f',.int N)]) e.symm,D.trans<|aF (λl=>AA<|Cell.lst l) (eY λo=>s8).symm,L.trans<|aF (λl=>AA<|Cell.lst l) e.symm,trivial⟩ (UM (n:=n) h J λo=>q);rw[show e9 (rn [1,2,3,4,5,z+1,z,C] H.length) [.obj 0,.obj 5,.obj 7,.lst<|fN picks]=[.obj 1,.obj<|z+1,.obj C,.lst<|e9 (rn [1,2,3,4,5,z+1,z,C] H.length) (fN picks)] from rfl,show e9 (rn [1,2,3,4,5,z+1,z,C] H.length) (fN picks)=fN picks from eY λo=>rfl] at F
 show F
end
def aCx(q:Q (.obj<|aK H)<|app H [.lst ws]):yS Q ws H:=by
 rw[dJ,dC] at q;show⟨.cell,q⟩
def VP(h:Tz 1 [500,501] t):DL t:=⟨h.wt,h.vs,h.dp⟩
def X7(h:∀g∈gg,Gd fs g):(gT gg).length<=3*gg.length:=by
 induction gg with
 |nil=>show bK _|cons g gg J=>
  rw[show gT (g::gg)=cY g++gT gg from rfl,a5,fK,jP,bQ<|3*_]
  show bW (h g h_).len<|J λx m=>h x (.tail _ m)
def X6(h:∀g∈gg,Gd fs g)(m:t∈gT gg):t.dep<=2:=(FT.mp m).elim λg z=>((h g z.1).tz t z.2).dp
variable{Q:K2}
section
variable(J:bG W)(hS:S≠[])(hts:∀t∈D,Tz 0 zO t)(l3:D.length<=3){f:Int}(q:∀{F H},Q (.ret (.bool AB)) F H)
include J hS hts l3 q
def aBq{s s' a b m X x4 x5 x8 x9 x10 x11 x12}{C:List U.Tm}(d:Dr y m gg)(ne:gg≠[])(M:gg.length<=5)(P:∀t∈C,DL t)(lc:D.length=C.length)(I:b<='$'):
  aU W 199 (dp 8 sb) (fG na x0 x4 x5 (AA<|.tup [.int f,.tup<|D.map aE]) x8 x9 x10 x11 x12 (AA<|.obj (aK X+7)) AE) (hL (pC S a b) y s s' gg<|app X [.lst<|C.map aE]) Q:=by
 have b1:∀{b'},b'<=b+3->b'<='Q':=λh=>aA h<|aA (bX I 3) ⋯
 refine cC 1 ⟨lz rfl,jX J (m:=4) hS (b1<|aY _ _) ⋯ ⋯ λ{R p r} o L=>jX J (m:=4) hS (b1<|aA L (b7 (by decide:1<=3) b)) ⋯ ⋯ λ{O g k} o E=>jX J (m:=4) hS (b1<|eM (aA E<|bj L)) ⋯ ⋯ λ{Z v j} o K=>jX J (m:=4) hS (b1<|aA K (bj<|aA E (bj L))) ⋯ ⋯ λ{Y u N} o o=>⟨.val,bL ?_⟩⟩
 have A:=O0 hts d.gs;have G:=aA (X7 d.gs)<|dY 3 M;refine aA2 J (gl:=6) (d:=197) (all:=gg) rfl rfl (λt T=>(nA.mp T).elim (λT=>aA (hts t T).dp<|bK _) λT=>aA (X6 d.gs T) ⋯) (aA (bW l3 G) ⋯) (aA M ⋯) (aA A ⋯) λ{H' z} lz hk hz B=>?_
 refine UL J (n:=41) (UK hts d.gs d.yk rfl l3 ne M P lc (picks:=[R,O,Z,Y])<|jQ 3) (bU _ _) (b6 ?_ lz) (B ⋯ rfl) (B ⋯ rfl) (B ⋯ rfl) (B ⋯ rfl) (B ⋯ rfl) hk hz (B ?_ cZ) λ{H'}=>q
 .change aK X+7<(app X [_]).length+7;rw[dC,a5,dJ];show c5 _
 show iC<|b6 (by decide:6<7) (bU 7 _)
theorem aBp{s s' a b m X x5 x8 x9 x10 x11 x12}(d:Dr y m gg)(ne:gg≠[])(L:gg.length<=5)(T:b<=900):
  aU W 199 (dp 7 sb) (fG na x0 (AA<|.int (D.length:Nat)) x5 (AA<|.tup [.int f,.tup<|D.map aE]) x8 x9 x10 x11 x12 AE AE) (hL (pC S a b) y s s' gg X) Q:=by
 have B:=dY 6 l3;refine cC 1 ⟨aA l3<|lz rfl,H3 J hS (d:=1) (ns:=[500,501]) (jv _ _) ⋯ (λq=>kY (lz rfl) q) ?_ λhl hc C=>aCx ?_⟩
 .rw[tB];show aA (bW T B) ⋯
 rw[tB] at hl C;show bL<|aBq J hS hts l3 q d ne L (λt m=>VP<|hc t m) hl.symm (aA C<|aA (bW T B) ⋯)
def aBo{s s' a b x5}(M:iv y 5)(L:b<=50):aU W 199 (dp 6 sb) (fG na x0 (AA<|.int (D.length:Nat)) x5 (AA<|.tup [.int f,.tup<|D.map aE]) AE AE AE AE AE AE AE) (hL (pC S a b) y s s' [] []) Q:=by
 refine cC 1<|jX J (m:=5) hS (aA L ⋯) ⋯ ⋯ λ{r O b1} hr E=>⟨aA (b7 (dc hr) 1)<|lz rfl,?_⟩
 have B:1+r<=5:=by rw[bQ];show hr
 have C:b1<=51:=aA E<|bj L;have G:=YN J (n:=195) hS (na:=na) (x0:=x0) (x6:=AA<|.tup [.int f,.tup<|D.map aE]) (Q:=mN (Stop<|aU W 199 (dp 7 sb)) Q) (i:=0) (gg:=[]) (y:=y) (m:=0) (a:=O) (b:=b1) (s:=s) (s':=s') (X:=[]) (x5:=x5) (x8:=AE) (x9:=AE) (x10:=AE) (x11:=AE) (x12:=AE) ⟨M.less (by rw[cT];show B),λz m=>aW m⟩ (aA (bW C<|dY 60 B) ⋯) (aA (bJ<|cT _)<|aA B ⋯) (aA (bJ<|cT _)<|aA B ⋯) (λe=>absurd e<|iC (b6 w3<|aY _ _)) λZ T l' Y=>bL<|aBp J hS hts l3 q Z T (aA l'<|aA (bJ<|cT _) B) (aA Y<|aA (bW C<|dY 60 B) ⋯)
 rw[<-nz] at G;show G
end
section
variable(J:bG W)(hS:S≠[]){f:Int}(q:∀{F H},Q (.ret (.bool AB)) F H)
include J hS q
def aBn{s:Nat}:aU W 199 (dp 3 sb) [x0,AA<|.obj 0,AA<|.obj 1,AA<|oP na,AE,AE,AE,AE,AE,AE,AE,AE,AE,AE,AE] (e7 (pC S 0 0) [] yW.1 yW.2 s s') Q:=by
 have B:iv yW 100:=⟨oV,aA (bX aIP _) ⋯⟩
 refine cC 1<|jX J hS (bK _) ⋯ ⋯ λhr hb=>bL (cC 1<|u6 J B.lt ⟨aA (dc hr)<|lz rfl,H3 J hS (d:=0) (ns:=zO) (jv _ _) ⋯ (λ{o H Q} q=>kY (lz rfl) q) ?_ λhl hts C=>⟨.val,?_⟩⟩)
 .rw[tB];show aA (bW hb<|dY 3 (dc hr)) ⋯
 rw[tB] at hl C;subst hl;show bL<|cC 1 (eA (lz rfl)<|bL (aBo J hS hts (kr hr) q ((iv.func B).less ⋯)<|aA C (aA (bW hb<|dY 3 (dc hr)) ⋯)))
end
variable{Q:K1}
def W3(J:bG W){s:Nat}{P:Cell}(q:∀{s s'},Q (.int 32)<|e7 P [] yB.1 yB.2 s s'):Fi W (n+2) 7 [.obj 1,.str [102],.int 1] (e7 P [] yA.1 yA.2 s s') Q:=u6 J ⟨DF.2.1,DF.2.2.1⟩<|w32▸q
def W4(J:bG W){s:Nat}{P:Cell}(q:∀{s s'},Q (.int 33)<|e7 P [] yW.1 yW.2 s s'):Fi W (n+2) 7 [.obj 1,.str [102],.int 2] (e7 P [] yB.1 yB.2 s s') Q:=u6 J DF.2.2.2<|w33▸q
variable{xs:List Int}
def aEX:(xs.map V.int++[V.int 0]).take 40=((xs++[0]).take 40).map V.int:=by rw[Dt,bw];rfl
def aEY:(xs++[0]).take 40≠[]:=by
 rcases xs with _|⟨x,l⟩;show jv _ _;show jv _ _
def aBm(J:bG W)(q:∀{H},Q (.bool AB) H)(B:xs.length<=63):Fi W 200 80 [.lst<|xs.map .int] [] Q:=by
 refine J.fe X5 rfl ?_;refine kY (lz rfl)<|gD (nD.lst .val .val (by rw[a5,aO];show aA (bX B _)<|lz rfl) .val) (pU (dv.Oe .val .val) ?_)
 rw[aEX];refine eA (lz rfl)<|aGY J ⟨rfl,?_⟩;refine ER J DF.1 λ{s}=>W3 J λ{s s'}=>W4 J λ{s s'}=>kY (lz rfl) ?_;show aBn J aEY q
def aIS:rg.Holds:=aAU λJ xs h=>sS.mp<|aBm J (rfl) h
end Mine
end
end
theorem PySem.Challenge.cw_no0186_03_holds : PySem.Challenge.rw_no0186_03.Holds :=
  Mine.aIS
